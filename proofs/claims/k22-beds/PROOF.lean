import PyProof.Rows.All
import Wide.All
import OpenK.AllK
import Wide.FinOn
import HandS.ForMost
import HandS.ForExc
import HandS.Lambda
import HandS.ExcInit
import KE.KDictCopyH
import HandS.TupAny
import HandS.TupMul
import HandS.TupLe
import HandS.IsInst
import HandS.CallSlots
import HandS.Walk
import HandS.Deep
import KE.LtData
import HandS.Conv
import HandS.Sort
import KE.DataMinMax
import KE.SortData
import KE.GoesEnum
import KE.KRevSl
import HandS.Star
import HandS.Style
import HandS.Iter
import KE.GoesEnumKw
import HandS.Zip
import HandS.DictComp
import HandS.ExcField
import HandS.CallLocal
import HandS.EndTab
import HandS.Defaults
import KE.KNestM
import HandS.TryMany
import HandS.More
import PySem.Challenge.RW_layerstand_k22_whole_beds
section
set_option Elab.async false
set_option linter.all false
set_option maxRecDepth 100000
set_option maxHeartbeats 4000000
/-! FX: a functional layer over the hand layer. Trees of data, environments of slots, results; what it means that an expression, a statement, a def runs as a plain function says. -/
namespace FX
open PySem PySem.Spec PyProof.Rows L2

/-- {None: v} stands at a -/
def ndA (v : V) (a : Addr) (h : Heap) : Prop := (a == sysModules) = false ∧ ∃ u, RelV v u ∧ ∀ (P : Program) (w : World), h.DictOf (leafKind P w) a [(Leaf.none, u)]
/-- data, without the heap -/
inductive T where
  | non | bl (b : Bool) | int (i : Int) | str (x : Str) | tup (ts : List T) | lst (ts : List T) | seq (ts : List T) | tsq (ts : List T)
  | dK (kvs : List (Key × T)) | dT (kvs : List (List Key × T)) | ins (c : Str) (fs : List (Str × T)) | fn (f : Str) | ty (n : String) | dN (t : T)

section
variable (K : PySem.W.Frag) (mg : Str → Option Value) (F : Hp)
mutual
/-- in the still heap F the value tells the tree -/
inductive Rep : V → T → Prop
  | non : Rep .non .non
  | bl (b : Bool) : Rep (.bl b) (.bl b)
  | int (i : Int) : Rep (.int i) (.int i)
  | str (x : Str) : Rep (.str x) (.str x)
  | tup {a : Addr} {vs : List V} {ts : List T} (h : F a = some (.tup vs)) (r : Reps vs ts) : Rep (.ref a) (.tup ts)
  | tsq {a : Addr} {vs : List V} {ts : List T} (h : SqT K F a vs) (r : Reps vs ts) : Rep (.ref a) (.tsq ts)
  | lst {a : Addr} {vs : List V} {ts : List T} (h : F a = some (.lst vs)) (r : Reps vs ts) : Rep (.ref a) (.lst ts)
  | seq {a : Addr} {vs : List V} {ts : List T} (h : SqL K F a vs) (r : Reps vs ts) : Rep (.ref a) (.seq ts)
  | dK {a : Addr} {kvs : List (Key × V)} {ts : List (Key × T)} (h : Rd F a (.dK kvs)) (r : RepK kvs ts) : Rep (.ref a) (.dK ts)
  | dT {a : Addr} {kvs : List (List Key × V)} {ts : List (List Key × T)} (h : Rd F a (.dT kvs)) (r : RepT kvs ts) : Rep (.ref a) (.dT ts)
  | ins {c : Str} {C a dx : Addr} {fs : List (Str × V)} {ts : List (Str × T)} (hc : mg c = some (.ref C)) (h : F a = some (.ins C dx fs)) (r : RepF fs ts) : Rep (.ref a) (.ins c ts)
  | fn {f : Str} {a : Addr} (h : mg f = some (.ref a)) : Rep (.ref a) (.fn f)
  | ty (n : String) : Rep (.ty n) (.ty n)
  | dN {a : Addr} {v : V} {t : T} (h : Rd F a (.ext (ndA v a))) (r : Rep v t) : Rep (.ref a) (.dN t)
inductive Reps : List V → List T → Prop
  | nil : Reps [] []
  | cons {v : V} {t : T} {vs : List V} {ts : List T} (h : Rep v t) (r : Reps vs ts) : Reps (v :: vs) (t :: ts)
inductive RepK : List (Key × V) → List (Key × T) → Prop
  | nil : RepK [] []
  | cons {k : Key} {v : V} {t : T} {vs : List (Key × V)} {ts : List (Key × T)} (h : Rep v t) (r : RepK vs ts) : RepK ((k, v) :: vs) ((k, t) :: ts)
inductive RepT : List (List Key × V) → List (List Key × T) → Prop
  | nil : RepT [] []
  | cons {k : List Key} {v : V} {t : T} {vs : List (List Key × V)} {ts : List (List Key × T)} (h : Rep v t) (r : RepT vs ts) : RepT ((k, v) :: vs) ((k, t) :: ts)
inductive RepF : List (Str × V) → List (Str × T) → Prop
  | nil : RepF [] []
  | cons {k : Str} {v : V} {t : T} {vs : List (Str × V)} {ts : List (Str × T)} (h : Rep v t) (r : RepF vs ts) : RepF ((k, v) :: vs) ((k, t) :: ts)
end
end

theorem sqT_mono {K : PySem.W.Frag} {H H' : Hp} {a : Addr} {xs : List V} (e : Same H H') (h : SqT K H a xs) : SqT K H' a xs := by
  rcases h with (h | ⟨o, h⟩) | h
  · exact .inl (.inl (e _ _ h))
  · exact .inl (.inr ⟨o, e _ _ h⟩)
  · exact .inr h

theorem rd_mono {H H' : Hp} {a : Addr} {u : HO} (e : Same H H') (h : Rd H a u) : Rd H' a u := h.elim (fun q => .inl (e _ _ q)) (fun ⟨o, q⟩ => .inr ⟨o, e _ _ q⟩)
section
variable {K : PySem.W.Frag} {mg : Str → Option Value} {F F' : Hp}
mutual
theorem Rep.mono (s : Same F F') : ∀ {v : V} {t : T}, Rep K mg F v t → Rep K mg F' v t
  | _, _, .non => .non
  | _, _, .bl b => .bl b
  | _, _, .int b => .int b
  | _, _, .str b => .str b
  | _, _, .tup h r => .tup (s _ _ h) (Reps.mono s r)
  | _, _, .tsq h r => .tsq (sqT_mono s h) (Reps.mono s r)
  | _, _, .lst h r => .lst (s _ _ h) (Reps.mono s r)
  | _, _, .seq h r => .seq (s.seq h) (Reps.mono s r)
  | _, _, .dK h r => .dK (rd_mono s h) (RepK.mono s r)
  | _, _, .dT h r => .dT (rd_mono s h) (RepT.mono s r)
  | _, _, .ins hc h r => .ins hc (s _ _ h) (RepF.mono s r)
  | _, _, .fn h => .fn h
  | _, _, .ty n => .ty n
  | _, _, .dN h r => .dN (rd_mono s h) (Rep.mono s r)
theorem Reps.mono (s : Same F F') : ∀ {v : List V} {t : List T}, Reps K mg F v t → Reps K mg F' v t
  | _, _, .nil => .nil
  | _, _, .cons h r => .cons (Rep.mono s h) (Reps.mono s r)
theorem RepK.mono (s : Same F F') : ∀ {v : List (Key × V)} {t : List (Key × T)}, RepK K mg F v t → RepK K mg F' v t
  | _, _, .nil => .nil
  | _, _, .cons h r => .cons (Rep.mono s h) (RepK.mono s r)
theorem RepT.mono (s : Same F F') : ∀ {v : List (List Key × V)} {t : List (List Key × T)}, RepT K mg F v t → RepT K mg F' v t
  | _, _, .nil => .nil
  | _, _, .cons h r => .cons (Rep.mono s h) (RepT.mono s r)
theorem RepF.mono (s : Same F F') : ∀ {v : List (Str × V)} {t : List (Str × T)}, RepF K mg F v t → RepF K mg F' v t
  | _, _, .nil => .nil
  | _, _, .cons h r => .cons (Rep.mono s h) (RepF.mono s r)
end
end

/-- a slot: unassigned; holding what never changes; holding an object that it alone knows (of the caller's k-th argument, or made here) -/
inductive Sl where
  | un | fz (t : T) | own (k : Option Nat) (t : T)
abbrev Env := List Sl
/-- an expression's value: still; new and known to nobody else; the object of a slot -/
inductive Vl where
  | fz (t : T) | own (t : T) | bor (i : Nat)
/-- an exception of an own class, its fields -/
structure Ex where
  cls : Str
  fs : List (Str × T)
inductive R (α : Type) where
  | ok (a : α) (ρ : FX.Env) | err (e : Ex) (ρ : FX.Env) | stuck
def R.bind {α β : Type} (r : R α) (f : α → FX.Env → R β) : R β := match r with
  | .ok a ρ => f a ρ
  | .err e ρ => .err e ρ
  | .stuck => .stuck
inductive O where
  | nx (ρ : FX.Env) | rt (v : Vl) (ρ : FX.Env) | bk (ρ : FX.Env) | ct (ρ : FX.Env) | er (e : Ex) (ρ : FX.Env) | stuck

/-- what a body knows of its surroundings: the addresses of the objects handed in to be changed; which addresses are new since the entry; code tables -/
structure Au where
  as : Nat → Addr
  new : Addr → Prop
  tb : List (Addr × Str)

/-- at a: an object that may be changed, its parts still -/
inductive OwnAt (K : PySem.W.Frag) (mg : Str → Option Value) (F H : Hp) (a : Addr) : T → Prop
  | lst {vs : List V} {ts : List T} (h : H a = some (.lst vs)) (r : Reps K mg F vs ts) : OwnAt K mg F H a (.lst ts)
  | dK {kvs : List (Key × V)} {ts : List (Key × T)} (h : H a = some (.dK kvs)) (r : RepK K mg F kvs ts) : OwnAt K mg F H a (.dK ts)
  | dT {kvs : List (List Key × V)} {ts : List (List Key × T)} (h : H a = some (.dT kvs)) (r : RepT K mg F kvs ts) : OwnAt K mg F H a (.dT ts)
  | ins {c : Str} {C dx : Addr} {fs : List (Str × V)} {ts : List (Str × T)} (hc : mg c = some (.ref C)) (h : H a = some (.ins C dx fs)) (r : RepF K mg F fs ts) : OwnAt K mg F H a (.ins c ts)
def OwnId (au : Au) (k : Option Nat) (a : Addr) : Prop := match k with
  | some j => a = au.as j
  | none => au.new a
/-- a is the object of a slot that owns it -/
def OwnA (ρ : FX.Env) (σ : L2.St) (a : Addr) : Prop := ∃ (i : Nat) (k : Option Nat) (t : T), ρ[i]? = some (.own k t) ∧ σ[i]? = some (some (.ref a))

structure SRel (K : PySem.W.Frag) (mg : Str → Option Value) (au : Au) (ρ : FX.Env) (σ : L2.St) (F H : Hp) : Prop where
  sub : Same F H
  nw : ∀ b, H b = none → au.new b
  tabs : LamX.Tabs au.tb H
  len : ρ.length = σ.length
  fz : ∀ {i : Nat} {t : T}, ρ[i]? = some (.fz t) → ∃ v, σ[i]? = some (some v) ∧ Rep K mg F v t
  ow : ∀ {i : Nat} {k : Option Nat} {t : T}, ρ[i]? = some (.own k t) → ∃ a, σ[i]? = some (some (.ref a)) ∧ F a = none ∧ OwnAt K mg F H a t ∧ OwnId au k a
  ds : ∀ {i j : Nat} {k k' : Option Nat} {t t' : T} {a : Addr}, ρ[i]? = some (.own k t) → ρ[j]? = some (.own k' t') → σ[i]? = some (some (.ref a)) → σ[j]? = some (some (.ref a)) → i = j
  nt : au.tb ≠ [] → ∀ b ps, F b ≠ some (.tbl ps)

/-- from (F, H) to (F', H') nothing is touched but the objects of A; A' are the owned ones behind -/
def Nh (H : Hp) (b : Addr) : Prop := H b = none ∨ ∃ vs, H b = some (.tup vs)
/-- from (F, H) to (F', H') nothing is touched but the objects of A; A' are the owned ones behind -/
structure Xt (lam : Prop) (A : Addr → Prop) (F H : Hp) (A' : Addr → Prop) (F' H' : Hp) : Prop where
  ff : Same F F'
  hh : ∀ b o, H b = some o → (lam → ∀ ps, o ≠ .tbl ps) → ¬ A b → H' b = some o
  nn : ∀ b, H' b = none → H b = none
  fn : ∀ b, F' b ≠ none → F b ≠ none ∨ Nh H b ∨ A b
  ow : ∀ b, A' b → A b ∨ H b = none
  tp : ∀ b vs, H' b = some (.tup vs) → Nh H b ∨ A b
theorem Xt.refl (lam : Prop) (A : Addr → Prop) (F H : Hp) : Xt lam A F H A F H := ⟨.refl _, fun _ _ h _ _ => h, fun _ h => h, fun _ h => .inl h, fun _ h => .inl h, fun b vs h => .inl (.inr ⟨vs, h⟩)⟩
theorem Xt.back {lam : Prop} {A A1 : Addr → Prop} {F H F1 H1 : Hp} (x : Xt lam A F H A1 F1 H1) {b : Addr} (h : Nh H1 b ∨ A1 b) : Nh H b ∨ A b := by
  rcases h with (h | ⟨vs, h⟩) | h
  · exact .inl (.inl (x.nn b h))
  · exact x.tp b vs h
  · rcases x.ow b h with q | q
    · exact .inr q
    · exact .inl (.inl q)
theorem Xt.trans {lam : Prop} {A A1 A2 : Addr → Prop} {F H F1 H1 F2 H2 : Hp} (x : Xt lam A F H A1 F1 H1) (y : Xt lam A1 F1 H1 A2 F2 H2) : Xt lam A F H A2 F2 H2 where
  ff := x.ff.trans y.ff
  hh := fun b o h n na => by
    refine y.hh b o (x.hh b o h n na) n fun z => ?_
    rcases x.ow b z with q | q
    · exact na q
    · rw [h] at q; cases q
  nn := fun b h => x.nn b (y.nn b h)
  fn := fun b h => by
    rcases y.fn b h with q | q
    · exact x.fn b q
    · exact .inr (x.back q)
  ow := fun b h => by
    rcases y.ow b h with q | q
    · exact x.ow b q
    · exact .inr (x.nn b q)
  tp := fun b vs h => x.back (y.tp b vs h)
theorem Xt.imp {lam : Prop} {A A1 A2 : Addr → Prop} {F H F1 H1 : Hp} (x : Xt lam A F H A1 F1 H1) (h : ∀ b, A2 b → A1 b) : Xt lam A F H A2 F1 H1 := ⟨x.ff, x.hh, x.nn, x.fn, fun b q => x.ow b (h b q), x.tp⟩

/-- the value x tells v; H0: the heap at the start -/
def VRel (K : PySem.W.Frag) (mg : Str → Option Value) (ρ : FX.Env) (σ : L2.St) (F H H0 : Hp) (x : V) : Vl → Prop
  | .fz t => Rep K mg F x t
  | .own t => ∃ p, x = .ref p ∧ F p = none ∧ OwnAt K mg F H p t ∧ H0 p = none ∧ ¬ OwnA ρ σ p
  | .bor i => ∃ k t, ρ[i]? = some (.own k t) ∧ σ[i]? = some (some x)
/-- an exception -/
def ExR (K : PySem.W.Frag) (mg : Str → Option Value) (F H : Hp) (e : Ex) (cls : Value) (d : Option Addr) : Prop :=
  ∃ (C dx : Addr) (fs : List (Str × V)), mg e.cls = some (.ref C) ∧ cls = .ref C ∧ d = some dx ∧ H dx = some (.xd fs) ∧ RepF K mg F fs e.fs

section
variable (X : Cx) (au : Au) (W : WX)
abbrev Xtn (ρ : FX.Env) (σ : L2.St) (F H : Hp) (ρ' : FX.Env) (σ' : L2.St) (F' H' : Hp) : Prop := Xt (au.tb ≠ []) (OwnA ρ σ) F H (OwnA ρ' σ') F' H'
/-- what an evaluation with the outcome r is to reach; general in the shape of the answer -/
def Post {α β : Type} (VR : FX.Env → L2.St → Hp → Hp → Hp → β → α → Prop) (ρ : FX.Env) (σ : L2.St) (F H : Hp) (r : R α) (Q : β → Hp → Prop) : Prop := match r with
  | .ok v ρ' => ∀ x F' H', SRel X.K X.mg au ρ' σ F' H' → Xtn au ρ σ F H ρ' σ F' H' → VR ρ' σ F' H' H x v → Q x H'
  | .err e ρ' => ∀ cls d F' H', SRel X.K X.mg au ρ' σ F' H' → Xtn au ρ σ F H ρ' σ F' H' → ExR X.K X.mg F' H' e cls d → W cls d σ H'
  | .stuck => False
def PostS (ρ : FX.Env) (σ : L2.St) (F H : Hp) (o : O) (D : Ends) : Prop := match o with
  | .nx ρ' => ∀ σ' F' H', SRel X.K X.mg au ρ' σ' F' H' → Xtn au ρ σ F H ρ' σ' F' H' → D.nx σ' H'
  | .rt v ρ' => ∀ x σ' F' H', SRel X.K X.mg au ρ' σ' F' H' → Xtn au ρ σ F H ρ' σ' F' H' → VRel X.K X.mg ρ' σ' F' H' H x v → D.rt x H'
  | .bk ρ' => ∀ σ' F' H', SRel X.K X.mg au ρ' σ' F' H' → Xtn au ρ σ F H ρ' σ' F' H' → D.bk σ' H'
  | .ct ρ' => ∀ σ' F' H', SRel X.K X.mg au ρ' σ' F' H' → Xtn au ρ σ F H ρ' σ' F' H' → D.ct σ' H'
  | .er e ρ' => ∀ cls d σ' F' H', SRel X.K X.mg au ρ' σ' F' H' → Xtn au ρ σ F H ρ' σ' F' H' → ExR X.K X.mg F' H' e cls d → W cls d σ' H'
  | .stuck => False
abbrev VE : FX.Env → L2.St → Hp → Hp → Hp → V → Vl → Prop := VRel X.K X.mg
abbrev VB : FX.Env → L2.St → Hp → Hp → Hp → Bool → Bool → Prop := fun _ _ _ _ _ b c => b = c
/-- values held while others are found: still, or of a slot -/
def VRels (K : PySem.W.Frag) (mg : Str → Option Value) (σ : L2.St) (F : Hp) : List V → List Vl → Prop
  | [], [] => True
  | x :: xs, v :: vs => (match v with | .fz t => Rep K mg F x t | .bor i => σ[i]? = some (some x) | .own _ => False) ∧ VRels K mg σ F xs vs
  | _, _ => False
abbrev VA : FX.Env → L2.St → Hp → Hp → Hp → List V → List Vl → Prop := fun _ σ F _ _ xs vs => VRels X.K X.mg σ F xs vs

def tF {α β : Type} (VR : FX.Env → L2.St → Hp → Hp → Hp → β → α → Prop) (f : FX.Env → R α) (σ : L2.St) (H : Hp) (Q : β → Hp → Prop) : Prop := ∃ F ρ, SRel X.K X.mg au ρ σ F H ∧ Post X au W VR ρ σ F H (f ρ) Q
def tS (g : FX.Env → O) : TS := fun D σ H => ∃ F ρ, SRel X.K X.mg au ρ σ F H ∧ PostS X au W ρ σ F H (g ρ) D

/-- the expression runs as f says -/
structure RE (e : Expr) (f : FX.Env → R Vl) : Prop where
  pe : PE X e (tF X au W (VE X) f)
structure RT (e : Expr) (f : FX.Env → R Bool) : Prop where
  pt : PT X e (tF X au W VB f)
structure RA (es : List Expr) (f : FX.Env → R (List Vl)) : Prop where
  pa : PA X es (tF X au W (VA X) f)
structure RS (st : Stmt) (g : FX.Env → O) : Prop where
  ps : PS X st (tS X au W g)
structure RSs (st : List Stmt) (g : FX.Env → O) : Prop where
  pss : PSs X st (tS X au W g)
end

section
variable {X : Cx} {au : Au} {W : WX}
theorem PE.imp {e : Expr} {t t' : TE} (h : PE X e t) (i : ∀ σ H Q, t' σ H Q → t σ H Q) : PE X e t' := ⟨fun pins s σ H Q I q => h.run pins s σ H Q I (i σ H Q q)⟩
theorem PT.imp {e : Expr} {t t' : TT} (h : PT X e t) (i : ∀ σ H Q, t' σ H Q → t σ H Q) : PT X e t' := ⟨fun pins s σ H Q I q => h.run pins s σ H Q I (i σ H Q q)⟩
theorem PA.imp {e : List Expr} {t t' : TA} (h : PA X e t) (i : ∀ σ H Q, t' σ H Q → t σ H Q) : PA X e t' := ⟨fun pos pins s σ H Q I q => h.run pos pins s σ H Q I (i σ H Q q)⟩
theorem PS.imp {e : Stmt} {t t' : TS} (h : PS X e t) (i : ∀ D σ H, t' D σ H → t D σ H) : PS X e t' := ⟨fun pins s σ H D I q => h.run pins s σ H D I (i D σ H q)⟩
theorem PSs.imp {e : List Stmt} {t t' : TS} (h : PSs X e t) (i : ∀ D σ H, t' D σ H → t D σ H) : PSs X e t' := ⟨fun pins s σ H D I q => h.run pins s σ H D I (i D σ H q)⟩

/-- what is said of an answer holds for an earlier start, too -/
def Early {β α : Type} (VR : FX.Env → L2.St → Hp → Hp → Hp → β → α → Prop) : Prop := ∀ ρ σ F H H0 H00 x v, (∀ b, H0 b = none → H00 b = none) → VR ρ σ F H H0 x v → VR ρ σ F H H00 x v
/-- one behind another -/
theorem Post.bind {α β γ δ : Type} {VR : FX.Env → L2.St → Hp → Hp → Hp → β → α → Prop} {VR' : FX.Env → L2.St → Hp → Hp → Hp → δ → γ → Prop}
    (mono : Early VR') {ρ : FX.Env} {σ : L2.St} {F H : Hp} {r : R α} {k : α → FX.Env → R γ} {Q : δ → Hp → Prop} {Q1 : β → Hp → Prop}
    (h : Post X au W VR' ρ σ F H (r.bind k) Q)
    (hk : ∀ x v ρ1 F1 H1, r = .ok v ρ1 → SRel X.K X.mg au ρ1 σ F1 H1 → Xtn au ρ σ F H ρ1 σ F1 H1 → VR ρ1 σ F1 H1 H x v → Post X au W VR' ρ1 σ F1 H1 (k v ρ1) Q → Q1 x H1) :
    Post X au W VR ρ σ F H r Q1 := by
  cases r with
  | stuck => exact h
  | err e ρ1 => exact h
  | ok v ρ1 =>
    intro x F1 H1 S1 X1 V1
    refine hk x v ρ1 F1 H1 rfl S1 X1 V1 ?_
    have h : Post X au W VR' ρ σ F H (k v ρ1) Q := h
    revert h
    cases k v ρ1 with
    | stuck => exact fun h => h
    | err e ρ2 => exact fun h cls d F2 H2 S2 X2 E2 => h cls d F2 H2 S2 (X1.trans X2) E2
    | ok w ρ2 => exact fun h y F2 H2 S2 X2 V2 => h y F2 H2 S2 (X1.trans X2) (mono _ _ _ _ _ _ _ _ (fun b => X1.nn b) V2)
theorem VRel.start {K : PySem.W.Frag} {mg : Str → Option Value} {ρ : FX.Env} {σ : L2.St} {F H H0 H00 : Hp} {x : V} {v : Vl} (s : ∀ b, H0 b = none → H00 b = none) (h : VRel K mg ρ σ F H H0 x v) : VRel K mg ρ σ F H H00 x v := by
  cases v with
  | fz t => exact h
  | own t => obtain ⟨p, e, a, b, c, d⟩ := h; exact ⟨p, e, a, b, s _ c, d⟩
  | bor i => exact h
theorem early_VE {X : Cx} : Early (VE X) := fun _ _ _ _ _ _ _ _ s h => VRel.start s h
theorem early_VB : Early VB := fun _ _ _ _ _ _ _ _ s h => h
theorem early_VA {X : Cx} : Early (VA X) := fun _ _ _ _ _ _ _ _ s h => h
theorem Post.mono {α β : Type} {VR : FX.Env → L2.St → Hp → Hp → Hp → β → α → Prop} {ρ : FX.Env} {σ : L2.St} {F H : Hp} {r : R α} {Q Q' : β → Hp → Prop} (h : Post X au W VR ρ σ F H r Q) (i : ∀ x H, Q x H → Q' x H) : Post X au W VR ρ σ F H r Q' := by
  cases r with
  | stuck => exact h
  | err e ρ1 => exact h
  | ok v ρ1 => exact fun x F1 H1 S X V => i _ _ (h x F1 H1 S X V)
end
end FX
end

section
set_option Elab.async false
set_option linter.all false
set_option maxRecDepth 100000
set_option maxHeartbeats 4000000
namespace FX
open PySem PySem.Spec PyProof.Rows L2

/-! ### looking at a value: itself in H, its parts in F -/
inductive RepO (K : PySem.W.Frag) (mg : Str → Option Value) (F H : Hp) : V → T → Prop
  | non : RepO K mg F H .non .non
  | bl (b : Bool) : RepO K mg F H (.bl b) (.bl b)
  | int (i : Int) : RepO K mg F H (.int i) (.int i)
  | str (x : Str) : RepO K mg F H (.str x) (.str x)
  | tup {a : Addr} {vs : List V} {ts : List T} (h : F a = some (.tup vs)) (r : Reps K mg F vs ts) : RepO K mg F H (.ref a) (.tup ts)
  | tsq {a : Addr} {vs : List V} {ts : List T} (h : SqT K F a vs) (r : Reps K mg F vs ts) : RepO K mg F H (.ref a) (.tsq ts)
  | lst {a : Addr} {vs : List V} {ts : List T} (h : H a = some (.lst vs)) (r : Reps K mg F vs ts) : RepO K mg F H (.ref a) (.lst ts)
  | seq {a : Addr} {vs : List V} {ts : List T} (h : SqL K H a vs) (r : Reps K mg F vs ts) : RepO K mg F H (.ref a) (.seq ts)
  | dK {a : Addr} {kvs : List (Key × V)} {ts : List (Key × T)} (h : Rd H a (.dK kvs)) (r : RepK K mg F kvs ts) : RepO K mg F H (.ref a) (.dK ts)
  | dT {a : Addr} {kvs : List (List Key × V)} {ts : List (List Key × T)} (h : Rd H a (.dT kvs)) (r : RepT K mg F kvs ts) : RepO K mg F H (.ref a) (.dT ts)
  | ins {c : Str} {C a dx : Addr} {fs : List (Str × V)} {ts : List (Str × T)} (hc : mg c = some (.ref C)) (h : H a = some (.ins C dx fs)) (r : RepF K mg F fs ts) : RepO K mg F H (.ref a) (.ins c ts)
  | fn {f : Str} {a : Addr} (h : mg f = some (.ref a)) : RepO K mg F H (.ref a) (.fn f)
  | ty (n : String) : RepO K mg F H (.ty n) (.ty n)
  | dN {a : Addr} {v : V} {t : T} (h : Rd F a (.ext (ndA v a))) (r : Rep K mg F v t) : RepO K mg F H (.ref a) (.dN t)

section
variable {K : PySem.W.Frag} {mg : Str → Option Value} {F F' H H' : Hp}
theorem Rep.o (s : Same F H) {v : V} {t : T} (h : Rep K mg F v t) : RepO K mg F H v t := by
  cases h with
  | non => exact .non
  | bl b => exact .bl b
  | int b => exact .int b
  | str b => exact .str b
  | tup h r => exact .tup h r
  | tsq h r => exact .tsq h r
  | lst h r => exact .lst (s _ _ h) r
  | seq h r => exact .seq (s.seq h) r
  | dK h r => exact .dK (rd_mono s h) r
  | dT h r => exact .dT (rd_mono s h) r
  | ins hc h r => exact .ins hc (s _ _ h) r
  | fn h => exact .fn h
  | ty n => exact .ty n
  | dN h r => exact .dN h r
theorem OwnAt.o {a : Addr} {t : T} (h : OwnAt K mg F H a t) : RepO K mg F H (.ref a) t := by
  cases h with
  | lst h r => exact .lst h r
  | dK h r => exact .dK (.inl h) r
  | dT h r => exact .dT (.inl h) r
  | ins hc h r => exact .ins hc h r
theorem RepO.rep (s : Same F H) {v : V} {t : T} (h : RepO K mg F H v t) : Rep K mg H v t := by
  cases h with
  | non => exact .non
  | bl b => exact .bl b
  | int b => exact .int b
  | str b => exact .str b
  | tup h r => exact .tup (s _ _ h) (Reps.mono s r)
  | tsq h r => exact .tsq (sqT_mono s h) (Reps.mono s r)
  | lst h r => exact .lst h (Reps.mono s r)
  | seq h r => exact .seq h (Reps.mono s r)
  | dK h r => exact .dK h (RepK.mono s r)
  | dT h r => exact .dT h (RepT.mono s r)
  | ins hc h r => exact .ins hc h (RepF.mono s r)
  | fn h => exact .fn h
  | ty n => exact .ty n
  | dN h r => exact .dN (rd_mono s h) (r.mono s)
theorem OwnAt.mono {a : Addr} {t : T} (s : Same F F') (e : ∀ o, H a = some o → (∀ ps, o ≠ .tbl ps) → H' a = some o) (h : OwnAt K mg F H a t) : OwnAt K mg F' H' a t := by
  cases h with
  | lst h r => exact .lst (e _ h (fun ps z => by cases z)) (Reps.mono s r)
  | dK h r => exact .dK (e _ h (fun ps z => by cases z)) (RepK.mono s r)
  | dT h r => exact .dT (e _ h (fun ps z => by cases z)) (RepT.mono s r)
  | ins hc h r => exact .ins hc (e _ h (fun ps z => by cases z)) (RepF.mono s r)
theorem OwnAt.there {a : Addr} {t : T} (h : OwnAt K mg F H a t) : ∃ o, H a = some o ∧ (∀ ps, o ≠ .tbl ps) ∧ ∀ F', Same F F' → F' a = some o → Rep K mg F' (.ref a) t := by
  cases h with
  | lst h r => exact ⟨_, h, (fun ps z => by cases z), fun F' s e => .lst e (Reps.mono s r)⟩
  | dK h r => exact ⟨_, h, (fun ps z => by cases z), fun F' s e => .dK (.inl e) (RepK.mono s r)⟩
  | dT h r => exact ⟨_, h, (fun ps z => by cases z), fun F' s e => .dT (.inl e) (RepT.mono s r)⟩
  | ins hc h r => exact ⟨_, h, (fun ps z => by cases z), fun F' s e => .ins hc e (RepF.mono s r)⟩
theorem OwnAt.nh {a : Addr} {t : T} (h : OwnAt K mg F H a t) : ¬ Nh H a := fun z => by
  rcases z with z | ⟨vs, z⟩ <;> cases h <;> (rename_i h _; rw [h] at z; cases z)
end

theorem nh_no {H : Hp} {b : Addr} {o : HO} (h : H b = some o) (n : ∀ vs, o ≠ .tup vs) : ¬ Nh H b := fun z => by
  rcases z with z | ⟨vs, z⟩
  · rw [h] at z; cases z
  · rw [h] at z; exact n vs (Option.some.inj z)
theorem nh_same {H H' : Hp} (s : Same H H') {b : Addr} {vs : List V} (h : H' b = some (.tup vs)) : Nh H b := by
  cases e : H b with
  | none => exact .inl e
  | some o => have := s b o e; rw [h] at this; cases this; exact .inr ⟨vs, e⟩
theorem same_upd {F : Hp} {a : Addr} {o : HO} (h : F a = none) : Same F (upd F a o) := fun b u e => by rw [upd_ne (ne_of_none e h)]; exact e
theorem same_upd2 {F H : Hp} {a : Addr} {o : HO} (s : Same F H) (h : H a = some o) : Same (upd F a o) H := fun b u e => by
  by_cases hb : b = a
  · subst hb; rw [upd_same] at e; cases e; exact h
  · rw [upd_ne hb] at e; exact s _ _ e

/-! ### freezing -/
section
variable {K : PySem.W.Frag} {mg : Str → Option Value} {au : Au} {ρ : FX.Env} {σ : L2.St} {F F' H H' : Hp}
theorem set_get {α : Type} {l : List α} {i j : Nat} {x y : α} (h : (l.set i x)[j]? = some y) : (j = i ∧ y = x) ∨ (j ≠ i ∧ l[j]? = some y) := by
  by_cases e : i = j
  · subst e
    by_cases hl : i < l.length
    · rw [List.getElem?_set_self hl] at h; exact .inl ⟨rfl, (Option.some.inj h).symm⟩
    · rw [List.getElem?_eq_none (by simpa using hl)] at h; cases h
  · rw [List.getElem?_set_ne e] at h; exact .inr ⟨fun q => e q.symm, h⟩
/-- only F grows -/
theorem SRel.grow (S : SRel K mg au ρ σ F H) (s : Same F F') (s' : Same F' H) (no : ∀ a, OwnA ρ σ a → F' a = none) (nt : au.tb ≠ [] → ∀ b ps, F' b ≠ some (.tbl ps)) : SRel K mg au ρ σ F' H where
  nt := nt
  sub := s'
  nw := S.nw
  tabs := S.tabs
  len := S.len
  fz := fun h => by obtain ⟨v, a, b⟩ := S.fz h; exact ⟨v, a, b.mono s⟩
  ow := fun {i k t} h => by
    obtain ⟨a, e, n, o, d⟩ := S.ow h
    exact ⟨a, e, no a ⟨i, k, t, h, e⟩, o.mono s fun _ h _ => h, d⟩
  ds := S.ds
theorem nt_upd {F : Hp} {a : Addr} {o : HO} {p : Prop} (h : p → ∀ b ps, F b ≠ some (.tbl ps)) (n : ∀ ps, o ≠ .tbl ps) : p → ∀ b ps, upd F a o b ≠ some (.tbl ps) := fun q b ps e => by
  by_cases z : b = a
  · subst z; rw [upd_same] at e; exact n ps (Option.some.inj e)
  · rw [upd_ne z] at e; exact h q b ps e
theorem SRel.thaw_set {i : Nat} {k : Option Nat} {t : T} (S : SRel K mg au ρ σ F H) (h : ρ[i]? = some (.own k t)) :
    ∃ (a : Addr) (o : HO), σ[i]? = some (some (.ref a)) ∧ SRel K mg au (ρ.set i (.fz t)) σ (upd F a o) H ∧ Xt (au.tb ≠ []) (OwnA ρ σ) F H (OwnA (ρ.set i (.fz t)) σ) (upd F a o) H ∧ Rep K mg (upd F a o) (.ref a) t := by
  obtain ⟨a, e, n, ow, d⟩ := S.ow h
  obtain ⟨o, ho, nt, rp⟩ := ow.there
  have s1 : Same F (upd F a o) := same_upd n
  have s2 : Same (upd F a o) H := same_upd2 S.sub ho
  have rp' := rp _ s1 upd_same
  have own' : ∀ b, OwnA (ρ.set i (.fz t)) σ b → OwnA ρ σ b ∧ b ≠ a := fun b ⟨j, k', t', hj, ej⟩ => by
    rcases set_get hj with ⟨_, z⟩ | ⟨ne, hj⟩
    · cases z
    · exact ⟨⟨j, k', t', hj, ej⟩, fun q => ne (S.ds hj h (by rw [ej, q]) e)⟩
  refine ⟨a, o, e, ⟨s2, S.nw, S.tabs, by rw [List.length_set]; exact S.len, fun {j t'} hj => ?_, fun {j k' t'} hj => ?_, fun {j j' k1 k2 t1 t2 b} h1 h2 e1 e2 => ?_, nt_upd S.nt nt⟩, ⟨s1, fun _ _ h _ _ => h, fun _ h => h, fun b hb => ?_, fun b hb => .inl (own' b hb).1, fun b vs h => .inl (.inr ⟨vs, h⟩)⟩, rp'⟩
  · rcases set_get hj with ⟨q, z⟩ | ⟨ne, hj⟩
    · cases z; exact ⟨_, by rw [q]; exact e, rp'⟩
    · obtain ⟨v, a1, b1⟩ := S.fz hj; exact ⟨v, a1, b1.mono s1⟩
  · rcases set_get hj with ⟨_, z⟩ | ⟨ne, hj⟩
    · cases z
    · obtain ⟨b, eb, nb, ob, db⟩ := S.ow hj
      exact ⟨b, eb, by rw [upd_ne (fun q => ne (S.ds hj h (by rw [eb, q]) e))]; exact nb, ob.mono s1 fun _ h _ => h, db⟩
  · rcases set_get h1 with ⟨_, z⟩ | ⟨_, h1⟩
    · cases z
    · rcases set_get h2 with ⟨_, z⟩ | ⟨_, h2⟩
      · cases z
      · exact S.ds h1 h2 e1 e2
  · by_cases q : b = a
    · subst q; exact .inr (.inr ⟨i, k, t, h, e⟩)
    · rw [upd_ne q] at hb; exact .inl hb
end

def Vl.norm : Vl → Vl
  | .own t => .fz t
  | v => v
def R.map {α β : Type} (f : α → β) (r : R α) : R β := match r with
  | .ok a ρ => .ok (f a) ρ
  | .err e ρ => .err e ρ
  | .stuck => .stuck
def R.norm (r : R Vl) : R Vl := r.map Vl.norm
def look (ρ : FX.Env) : Vl → Option T
  | .fz t => some t
  | .own t => some t
  | .bor i => match ρ[i]? with
    | some (.own _ t) => some t
    | some (.fz t) => some t
    | _ => none
/-- an operation's value -/
inductive Nv where
  | fz (t : T) | own (t : T)
def R.of (o : Option Nv) (ρ : FX.Env) : R Vl := match o with
  | some (.fz t) => .ok (.fz t) ρ
  | some (.own t) => .ok (.own t) ρ
  | none => .stuck
/-- held while other things are found -/
def Held (K : PySem.W.Frag) (mg : Str → Option Value) (σ : L2.St) (F : Hp) (x : V) (v : Vl) : Prop := match v with | .fz t => Rep K mg F x t | .bor i => σ[i]? = some (some x) | .own _ => False
theorem VRels.cons {K : PySem.W.Frag} {mg : Str → Option Value} {σ : L2.St} {F : Hp} {x : V} {v : Vl} {xs : List V} {vs : List Vl} (h : Held K mg σ F x v) (r : VRels K mg σ F xs vs) : VRels K mg σ F (x :: xs) (v :: vs) := ⟨h, r⟩
theorem VRels.nil {K : PySem.W.Frag} {mg : Str → Option Value} {σ : L2.St} {F : Hp} : VRels K mg σ F [] [] := trivial

section
variable {X : Cx} {au : Au} {W : WX} {ρ : FX.Env} {σ : L2.St} {F F' H H' H0 : Hp}
theorem Held.mono {x : V} {v : Vl} (s : Same F F') (h : Held X.K X.mg σ F x v) : Held X.K X.mg σ F' x v := by
  cases v with
  | fz t => exact Rep.mono s h
  | own t => exact h
  | bor i => exact h
theorem VRels.mono (s : Same F F') : ∀ {xs : List V} {vs : List Vl}, VRels X.K X.mg σ F xs vs → VRels X.K X.mg σ F' xs vs
  | [], [], _ => trivial
  | _ :: _, _ :: _, h => ⟨Held.mono (X := X) (v := _) s h.1, VRels.mono s h.2⟩
  | [], _ :: _, h => h.elim
  | _ :: _, [], h => h.elim
theorem look_o (S : SRel X.K X.mg au ρ σ F H) {x : V} {v : Vl} {t : T} (h : Held X.K X.mg σ F x v) (e : look ρ v = some t) : RepO X.K X.mg F H x t := by
  cases v with
  | fz u => cases e; exact Rep.o S.sub h
  | own u => exact h.elim
  | bor i =>
    have h : σ[i]? = some (some x) := h
    simp only [look] at e
    split at e
    · rename_i k u hu
      cases e
      obtain ⟨a, ea, _, o, _⟩ := S.ow hu
      rw [h] at ea; cases ea
      exact o.o
    · rename_i u hu
      cases e
      obtain ⟨v, ea, r⟩ := S.fz hu
      rw [h] at ea; cases ea
      exact Rep.o S.sub r
    · cases e
/-- a temporary is stilled -/
theorem norm_post {r : R Vl} {Q : VK} (h : Post X au W (VE X) ρ σ F H r.norm Q) : Post X au W (VE X) ρ σ F H r Q := by
  cases r with
  | stuck => exact h
  | err e ρ1 => exact h
  | ok v ρ1 =>
    cases v with
    | fz t => exact h
    | bor i => exact h
    | own t =>
      intro x F1 H1 S1 X1 V1
      obtain ⟨p, e, n, ow, n0, no⟩ := V1
      obtain ⟨o, ho, nt, rp⟩ := ow.there
      have s1 : Same F1 (upd F1 p o) := same_upd n
      have own : ∀ b, OwnA ρ1 σ b → b ≠ p := fun b hb q => no (by rw [← q]; exact hb)
      refine h x (upd F1 p o) H1 (S1.grow s1 (same_upd2 S1.sub ho) (fun a ha => ?_) (nt_upd S1.nt nt)) ⟨X1.ff.trans s1, X1.hh, X1.nn, fun b hb => ?_, X1.ow, X1.tp⟩ ?_
      · rw [upd_ne (own a ha)]
        obtain ⟨i, k, t', hi, ei⟩ := ha
        obtain ⟨a', ea, na, _⟩ := S1.ow hi
        rw [ei] at ea; cases ea
        exact na
      · by_cases q : b = p
        · subst q; exact .inr (.inl (.inl n0))
        · rw [upd_ne q] at hb; exact X1.fn b hb
      · rw [e]; exact rp _ s1 upd_same
theorem norm_held {r : R Vl} {x : V} {v : Vl} (hr : ∃ ρ', r.norm = .ok v ρ') (h : VRel X.K X.mg ρ σ F H H0 x v) : Held X.K X.mg σ F x v := by
  obtain ⟨ρ', hr⟩ := hr
  cases r with
  | stuck => cases hr
  | err e ρ1 => cases hr
  | ok w ρ1 =>
    cases w with
    | fz t => cases hr; exact h
    | own t => cases hr; exact h
    | bor i => cases hr; exact h.elim fun k h => h.elim fun t h => h.2
theorem RE.norm {e : Expr} {f : FX.Env → R Vl} (h : RE X au W e f) : RE X au W e fun ρ => (f ρ).norm := ⟨PE.imp h.pe fun σ H Q ⟨F, ρ, S, q⟩ => ⟨F, ρ, S, norm_post q⟩⟩
/-- found, then stilled; then the rest -/
theorem Post.bindN {γ δ : Type} {VR' : FX.Env → L2.St → Hp → Hp → Hp → δ → γ → Prop}
    (mono : Early VR') {r : R Vl} {k : Vl → FX.Env → R γ} {Q : δ → Hp → Prop} {Q1 : V → Hp → Prop}
    (h : Post X au W VR' ρ σ F H (r.norm.bind k) Q)
    (hk : ∀ x v ρ1 F1 H1, SRel X.K X.mg au ρ1 σ F1 H1 → Xtn au ρ σ F H ρ1 σ F1 H1 → Held X.K X.mg σ F1 x v → Post X au W VR' ρ1 σ F1 H1 (k v ρ1) Q → Q1 x H1) : Post X au W (VE X) ρ σ F H r Q1 :=
  norm_post (Post.bind mono h fun x v ρ1 F1 H1 e S X1 V q => hk x v ρ1 F1 H1 S X1 (norm_held ⟨_, e⟩ V) q)

/-- what an operation gives: a still value, or a new object -/
def ResP (K : PySem.W.Frag) (mg : Str → Option Value) (F H : Hp) (r : Option Nv) (Q : VK) : Prop := match r with
  | some (.fz w) => ∀ z F' H', Same F F' → Same H H' → Same F' H' → (∀ b, F' b ≠ none → F b ≠ none ∨ Nh H b) → Rep K mg F' z w → Q z H'
  | some (.own w) => ∀ p F' H', Same F F' → Same H H' → Same F' H' → (∀ b, F' b ≠ none → F b ≠ none ∨ Nh H b) → H p = none → F' p = none → OwnAt K mg F' H' p w → Q (.ref p) H'
  | none => False
theorem same_none {H H' : Hp} (s : Same H H') : ∀ b, H' b = none → H b = none := fun b h => s.free h
theorem tabs_same {T : List (Addr × Str)} {H H' : Hp} (s : Same H H') (t : LamX.Tabs T H) : LamX.Tabs T H' := t.ext s
/-- new objects alone -/
theorem SRel.new (S : SRel X.K X.mg au ρ σ F H) (s : Same F F') (s2 : Same H H') (s3 : Same F' H') (nw : ∀ b, F' b ≠ none → F b ≠ none ∨ Nh H b) (nt : au.tb ≠ [] → ∀ b ps, F' b ≠ some (.tbl ps)) : SRel X.K X.mg au ρ σ F' H' where
  nt := nt
  sub := s3
  nw := fun b h => S.nw b (same_none s2 b h)
  tabs := tabs_same s2 S.tabs
  len := S.len
  fz := fun h => by obtain ⟨v, a, b⟩ := S.fz h; exact ⟨v, a, b.mono s⟩
  ow := fun h => by
    obtain ⟨a, e, n, o, d⟩ := S.ow h
    refine ⟨a, e, ?_, o.mono s fun _ h _ => s2 _ _ h, d⟩
    obtain ⟨o', ho, _⟩ := o.there
    cases q : F' a with
    | none => rfl
    | some u =>
      rcases nw a (by rw [q]; simp) with z | z
      · exact absurd n z
      · exact absurd z o.nh
  ds := S.ds
/-- the tables left out -/
def cl (F : Hp) : Hp := fun b => match F b with
  | some (.tbl _) => none
  | o => o
theorem cl_some {F : Hp} {b : Addr} {o : HO} (h : F b = some o) (n : ∀ ps, o ≠ .tbl ps) : cl F b = some o := by
  unfold cl
  rw [h]
  cases o with
  | tbl ps => exact absurd rfl (n ps)
  | _ => rfl
theorem cl_of {F : Hp} {b : Addr} {o : HO} (h : cl F b = some o) : F b = some o ∧ ∀ ps, o ≠ .tbl ps := by
  unfold cl at h
  split at h
  · cases h
  · rename_i q
    exact ⟨h, fun ps z => by subst z; exact q ps h⟩
theorem rd_cl {F : Hp} {a : Addr} {o : HO} (h : Rd F a o) (n : ∀ ps, o ≠ .tbl ps) : Rd (cl F) a o := h.elim (fun q => .inl (cl_some q n)) fun ⟨o', q⟩ => .inr ⟨o', cl_some q fun _ z => by cases z⟩
theorem sqT_cl {K : PySem.W.Frag} {F : Hp} {a : Addr} {xs : List V} (h : SqT K F a xs) : SqT K (cl F) a xs := h.elim (fun q => .inl (rd_cl q fun _ z => by cases z)) .inr
theorem sqL_cl {K : PySem.W.Frag} {F : Hp} {a : Addr} {xs : List V} (h : SqL K F a xs) : SqL K (cl F) a xs := h.elim (fun q => .inl (rd_cl q fun _ z => by cases z)) .inr
mutual
theorem Rep.cl {K : PySem.W.Frag} {mg : Str → Option Value} {F : Hp} : ∀ {v : V} {t : T}, Rep K mg F v t → Rep K mg (FX.cl F) v t
  | _, _, .non => .non
  | _, _, .bl b => .bl b
  | _, _, .int b => .int b
  | _, _, .str b => .str b
  | _, _, .tup h r => .tup (cl_some h fun _ z => by cases z) (Reps.cl r)
  | _, _, .tsq h r => .tsq (sqT_cl h) (Reps.cl r)
  | _, _, .lst h r => .lst (cl_some h fun _ z => by cases z) (Reps.cl r)
  | _, _, .seq h r => .seq (sqL_cl h) (Reps.cl r)
  | _, _, .dK h r => .dK (rd_cl h fun _ z => by cases z) (RepK.cl r)
  | _, _, .dT h r => .dT (rd_cl h fun _ z => by cases z) (RepT.cl r)
  | _, _, .ins hc h r => .ins hc (cl_some h fun _ z => by cases z) (RepF.cl r)
  | _, _, .fn h => .fn h
  | _, _, .ty n => .ty n
  | _, _, .dN h r => .dN (rd_cl h fun _ z => by cases z) (Rep.cl r)
theorem Reps.cl {K : PySem.W.Frag} {mg : Str → Option Value} {F : Hp} : ∀ {v : List V} {t : List T}, Reps K mg F v t → Reps K mg (FX.cl F) v t
  | _, _, .nil => .nil
  | _, _, .cons h r => .cons (Rep.cl h) (Reps.cl r)
theorem RepK.cl {K : PySem.W.Frag} {mg : Str → Option Value} {F : Hp} : ∀ {v : List (Key × V)} {t : List (Key × T)}, RepK K mg F v t → RepK K mg (FX.cl F) v t
  | _, _, .nil => .nil
  | _, _, .cons h r => .cons (Rep.cl h) (RepK.cl r)
theorem RepT.cl {K : PySem.W.Frag} {mg : Str → Option Value} {F : Hp} : ∀ {v : List (List Key × V)} {t : List (List Key × T)}, RepT K mg F v t → RepT K mg (FX.cl F) v t
  | _, _, .nil => .nil
  | _, _, .cons h r => .cons (Rep.cl h) (RepT.cl r)
theorem RepF.cl {K : PySem.W.Frag} {mg : Str → Option Value} {F : Hp} : ∀ {v : List (Str × V)} {t : List (Str × T)}, RepF K mg F v t → RepF K mg (FX.cl F) v t
  | _, _, .nil => .nil
  | _, _, .cons h r => .cons (Rep.cl h) (RepF.cl r)
end
theorem OwnAt.cl {K : PySem.W.Frag} {mg : Str → Option Value} {F H : Hp} {a : Addr} {t : T} (h : OwnAt K mg F H a t) : OwnAt K mg (FX.cl F) H a t := by
  cases h with
  | lst h r => exact .lst h r.cl
  | dK h r => exact .dK h r.cl
  | dT h r => exact .dT h r.cl
  | ins hc h r => exact .ins hc h r.cl
/-- what a callee leaves, without its tables -/
structure Cln (K : PySem.W.Frag) (mg : Str → Option Value) (au : Au) (F H F' H' F2 : Hp) : Prop where
  s : Same F F2
  s3 : Same F2 H'
  nw : ∀ b, F2 b ≠ none → F b ≠ none ∨ Nh H b
  nt : au.tb ≠ [] → ∀ b ps, F2 b ≠ some (.tbl ps)
  le : Same F2 F'
  rep : ∀ {v : V} {t : T}, Rep K mg F' v t → Rep K mg F2 v t
  repF : ∀ {v : List (Str × V)} {t : List (Str × T)}, RepF K mg F' v t → RepF K mg F2 v t
  own : ∀ {H2 : Hp} {a : Addr} {t : T}, OwnAt K mg F' H2 a t → OwnAt K mg F2 H2 a t
theorem clean {K : PySem.W.Frag} {mg : Str → Option Value} (nt : au.tb ≠ [] → ∀ b ps, F b ≠ some (.tbl ps)) (s : Same F F') (s3 : Same F' H') (nw : ∀ b, F' b ≠ none → F b ≠ none ∨ Nh H b) : ∃ F2, Cln K mg au F H F' H' F2 := by
  by_cases ht : au.tb = []
  · exact ⟨F', s, s3, nw, fun h => absurd ht h, .refl _, fun r => r, fun r => r, fun r => r⟩
  · refine ⟨FX.cl F', fun b o h => cl_some (s _ _ h) fun ps z => nt ht b ps (by rw [h, z]), fun b o h => s3 _ _ (cl_of h).1, fun b h => nw b fun z => ?_, fun _ b ps h => (cl_of h).2 ps rfl, fun b o h => (cl_of h).1, fun r => r.cl, fun r => r.cl, fun r => r.cl⟩
    cases q : FX.cl F' b with
    | none => exact h q
    | some o => rw [(cl_of q).1] at z; cases z
theorem Xt.new {lam : Prop} {A : Addr → Prop} (s : Same F F') (s2 : Same H H') (nw : ∀ b, F' b ≠ none → F b ≠ none ∨ Nh H b) : Xt lam A F H A F' H' :=
  ⟨s, fun b o h _ _ => s2 b o h, same_none s2, fun b h => (nw b h).elim .inl (fun q => .inr (.inl q)), fun _ h => .inl h, fun b vs h => .inl (nh_same s2 h)⟩
theorem res_post (S : SRel X.K X.mg au ρ σ F H) {r : Option Nv} {Q : VK} (h : Post X au W (VE X) ρ σ F H (R.of r ρ) Q) : ResP X.K X.mg F H r Q := by
  cases r with
  | none => exact h
  | some v =>
    cases v with
    | fz w =>
      intro z F' H' s1 s2 s3 nw r
      obtain ⟨F2, C⟩ := clean (K := X.K) (mg := X.mg) S.nt s1 s3 nw
      exact h z F2 H' (S.new C.s s2 C.s3 C.nw C.nt) (Xt.new C.s s2 C.nw) (C.rep r)
    | own w =>
      intro p F' H' s1 s2 s3 nw hp fp ow
      obtain ⟨F2, C⟩ := clean (K := X.K) (mg := X.mg) S.nt s1 s3 nw
      refine h (.ref p) F2 H' (S.new C.s s2 C.s3 C.nw C.nt) (Xt.new C.s s2 C.nw) ⟨p, rfl, C.le.free fp, C.own ow, hp, fun ⟨i, k, t, hi, ei⟩ => ?_⟩
      obtain ⟨a, ea, _, o, _⟩ := S.ow hi
      rw [ei] at ea; cases ea
      obtain ⟨_, ho, _⟩ := o.there
      rw [hp] at ho; cases ho
/-- nothing new -/
theorem ResP.flat {w : T} {Q : VK} {z : V} (h : ResP X.K X.mg F H (some (.fz w)) Q) (s : Same F H) (r : Rep X.K X.mg F z w) : Q z H := h z F H (.refl _) (.refl _) s (fun _ h => .inl h) r
/-- a new object that may be changed -/
theorem ResP.made {w : T} {Q : VK} {p : Addr} {o : HO} (h : ResP X.K X.mg F H (some (.own w)) Q) (s : Same F H) (hp : H p = none) (ow : OwnAt X.K X.mg F (upd H p o) p w) : Q (.ref p) (upd H p o) :=
  h p F _ (.refl _) (same_upd hp) (s.trans (same_upd hp)) (fun _ h => .inl h) hp (s.free hp) ow
/-- a new object that stays as it is -/
theorem ResP.laid {w : T} {Q : VK} {p : Addr} {o : HO} (h : ResP X.K X.mg F H (some (.fz w)) Q) (s : Same F H) (hp : H p = none) (r : Rep X.K X.mg (upd F p o) (.ref p) w) : Q (.ref p) (upd H p o) := by
  refine h _ (upd F p o) _ (same_upd (s.free hp)) (same_upd hp) (fun b u e => ?_) (fun b hb => ?_) r
  · by_cases q : b = p
    · subst q; rw [upd_same] at e ⊢; exact e
    · rw [upd_ne q] at e ⊢; exact s _ _ e
  · by_cases q : b = p
    · subst q; exact .inr (.inl hp)
    · rw [upd_ne q] at hb; exact .inl hb
/-- the same outcome, told from a later state -/
theorem Post.step {γ δ : Type} {VR' : FX.Env → L2.St → Hp → Hp → Hp → δ → γ → Prop} (mono : Early VR') {ρ1 ρ2 : FX.Env} {F1 H1 F2 H2 : Hp} {r : R γ} {Q : δ → Hp → Prop} (h : Post X au W VR' ρ1 σ F1 H1 r Q)
    (X1 : Xtn au ρ1 σ F1 H1 ρ2 σ F2 H2) : Post X au W VR' ρ2 σ F2 H2 r Q := by
  cases r with
  | stuck => exact h
  | err e ρ3 => exact fun cls d F3 H3 S3 X3 E3 => h cls d F3 H3 S3 (X1.trans X3) E3
  | ok w ρ3 => exact fun y F3 H3 S3 X3 V3 => h y F3 H3 S3 (X1.trans X3) (mono _ _ _ _ _ _ _ _ (fun b => X1.nn b) V3)
/-- let out for good -/
def esc1 (v : Vl) (ρ : FX.Env) : Option (T × FX.Env) := match v with
  | .fz t => some (t, ρ)
  | .own _ => none
  | .bor i => match ρ[i]? with
    | some (.own _ t) => some (t, ρ.set i (.fz t))
    | some (.fz t) => some (t, ρ)
    | _ => none
def escs : List Vl → FX.Env → Option (List T × FX.Env)
  | [], ρ => some ([], ρ)
  | v :: vs, ρ => match esc1 v ρ with
    | some (t, ρ1) => match escs vs ρ1 with
      | some (ts, ρ2) => some (t :: ts, ρ2)
      | none => none
    | none => none
theorem esc1_ok (S : SRel X.K X.mg au ρ σ F H) {x : V} {v : Vl} {t : T} {ρ' : FX.Env} (h : Held X.K X.mg σ F x v) (e : esc1 v ρ = some (t, ρ')) :
    ∃ F', SRel X.K X.mg au ρ' σ F' H ∧ Xtn au ρ σ F H ρ' σ F' H ∧ Rep X.K X.mg F' x t := by
  cases v with
  | fz u => cases e; exact ⟨F, S, Xt.refl _ _ _ _, h⟩
  | own u => exact h.elim
  | bor i =>
    have h : σ[i]? = some (some x) := h
    simp only [esc1] at e
    split at e
    · rename_i k u hu
      cases e
      obtain ⟨a, o, ea, S', X', r⟩ := S.thaw_set hu
      rw [h] at ea; cases ea
      exact ⟨_, S', X', r⟩
    · rename_i u hu
      cases e
      obtain ⟨v, ea, r⟩ := S.fz hu
      rw [h] at ea; cases ea
      exact ⟨F, S, Xt.refl _ _ _ _, r⟩
    · cases e
theorem escs_ok : ∀ {vs : List Vl} {xs : List V} {ρ ρ' : FX.Env} {F : Hp} {ts : List T}, SRel X.K X.mg au ρ σ F H → VRels X.K X.mg σ F xs vs → escs vs ρ = some (ts, ρ') →
    ∃ F', SRel X.K X.mg au ρ' σ F' H ∧ Xtn au ρ σ F H ρ' σ F' H ∧ Reps X.K X.mg F' xs ts
  | [], [], _, _, F, _, S, _, e => by cases e; exact ⟨F, S, Xt.refl _ _ _ _, .nil⟩
  | v :: vs, x :: xs, ρ, ρ', F, ts, S, h, e => by
    simp only [escs] at e
    split at e
    · rename_i t ρ1 e1
      split at e
      · rename_i ts' ρ2 e2
        cases e
        obtain ⟨F1, S1, X1, r1⟩ := esc1_ok (v := v) S h.1 e1
        obtain ⟨F2, S2, X2, r2⟩ := escs_ok S1 (VRels.mono X1.ff h.2) e2
        exact ⟨F2, S2, X1.trans X2, .cons (r1.mono X2.ff) r2⟩
      · cases e
    · cases e
  | [], _ :: _, _, _, _, _, _, h, _ => h.elim
  | _ :: _, [], _, _, _, _, _, h, _ => h.elim
end
end FX
end

section
set_option Elab.async false
set_option linter.all false
set_option maxRecDepth 100000
set_option maxHeartbeats 4000000
namespace FX
open PySem PySem.Spec PyProof.Rows L2

/-! ### data -/
mutual
def T.toD : T → Option PyData
  | .non => some .none
  | .bl b => some (.bool b)
  | .int i => some (.int i)
  | .str x => some (.str x)
  | .tup ts => (toDs ts).map .tuple
  | .tsq ts => (toDs ts).map .tuple
  | .lst ts => (toDs ts).map .list
  | .seq ts => (toDs ts).map .list
  | .dK _ => none
  | .dT _ => none
  | .ins _ _ => none
  | .fn _ => none
  | .ty _ => none
  | .dN _ => none
def toDs : List T → Option (List PyData)
  | [] => some []
  | t :: ts => match t.toD, toDs ts with
    | some d, some ds => some (d :: ds)
    | _, _ => none
end
section
variable {K : PySem.W.Frag} {mg : Str → Option Value} {F : Hp}
mutual
theorem Rep.dp : ∀ {v : V} {t : T}, Rep K mg F v t → ∀ {d : PyData}, t.toD = some d → Dp K F v d
  | _, _, .non, _, e => by simp only [T.toD, Option.some.injEq] at e; subst e; exact .non
  | _, _, .bl b, _, e => by simp only [T.toD, Option.some.injEq] at e; subst e; exact .bl b
  | _, _, .int b, _, e => by simp only [T.toD, Option.some.injEq] at e; subst e; exact .int b
  | _, _, .str b, _, e => by simp only [T.toD, Option.some.injEq] at e; subst e; exact .str b
  | _, _, .tup h r, _, e => by
    simp only [T.toD, Option.map_eq_some_iff] at e
    obtain ⟨ds, e1, e2⟩ := e; subst e2
    exact .tup (.of h) (Reps.dp r e1)
  | _, _, .tsq h r, _, e => by
    simp only [T.toD, Option.map_eq_some_iff] at e
    obtain ⟨ds, e1, e2⟩ := e; subst e2
    exact .tup h (Reps.dp r e1)
  | _, _, .lst h r, _, e => by
    simp only [T.toD, Option.map_eq_some_iff] at e
    obtain ⟨ds, e1, e2⟩ := e; subst e2
    exact .lst (.of h) (Reps.dp r e1)
  | _, _, .seq h r, _, e => by
    simp only [T.toD, Option.map_eq_some_iff] at e
    obtain ⟨ds, e1, e2⟩ := e; subst e2
    exact .lst h (Reps.dp r e1)
  | _, _, .dK _ _, _, e => by simp [T.toD] at e
  | _, _, .dT _ _, _, e => by simp [T.toD] at e
  | _, _, .ins _ _ _, _, e => by simp [T.toD] at e
  | _, _, .fn _, _, e => by simp [T.toD] at e
  | _, _, .ty _, _, e => by simp [T.toD] at e
  | _, _, .dN _ _, _, e => by simp [T.toD] at e
theorem Reps.dp : ∀ {vs : List V} {ts : List T}, Reps K mg F vs ts → ∀ {ds : List PyData}, toDs ts = some ds → DpAll K F vs ds
  | _, _, .nil, _, e => by simp only [toDs, Option.some.injEq] at e; subst e; exact .nil
  | _, _, .cons (t := t) (ts := ts) h r, _, e => by
    simp only [toDs] at e
    split at e
    · rename_i d ds e1 e2
      cases e
      exact .cons (Rep.dp h e1) (Reps.dp r e2)
    · cases e
end
theorem Reps.length {vs : List V} {ts : List T} (r : Reps K mg F vs ts) : vs.length = ts.length := by
  induction ts generalizing vs with
  | nil => cases r; rfl
  | cons t ts ih => cases r with | cons h r => simp [ih r]
theorem Reps.get {vs : List V} {ts : List T} (r : Reps K mg F vs ts) : ∀ {i : Nat} {t : T}, ts[i]? = some t → ∃ v, vs[i]? = some v ∧ Rep K mg F v t := by
  induction ts generalizing vs with
  | nil => intro i t h; simp at h
  | cons t ts ih =>
    intro i u h
    cases r with
    | cons h1 r =>
      cases i with
      | zero => simp at h; subst h; exact ⟨_, rfl, h1⟩
      | succ i => simp at h; obtain ⟨v, a, b⟩ := ih r h; exact ⟨v, by simpa using a, b⟩
theorem Reps.get' {vs : List V} {ts : List T} (r : Reps K mg F vs ts) {i : Nat} {v : V} (h : vs[i]? = some v) : ∃ t, ts[i]? = some t ∧ Rep K mg F v t := by
  have hl := r.length
  have hi : i < vs.length := (List.getElem?_eq_some_iff.mp h).1
  obtain ⟨w, a, b⟩ := r.get (i := i) (t := ts[i]'(by omega)) (by simp)
  rw [h] at a; cases a
  exact ⟨_, by simp, b⟩
theorem Reps.append {vs us : List V} {ts ss : List T} (r : Reps K mg F vs ts) (r' : Reps K mg F us ss) : Reps K mg F (vs ++ us) (ts ++ ss) := by
  induction ts generalizing vs with
  | nil => cases r; exact r'
  | cons t ts ih => cases r with | cons h r => exact .cons h (ih r)
theorem Reps.drop {vs : List V} {ts : List T} (n : Nat) (r : Reps K mg F vs ts) : Reps K mg F (vs.drop n) (ts.drop n) := by
  induction n generalizing vs ts with
  | zero => exact r
  | succ n ih => cases r with
    | nil => exact .nil
    | cons h r => exact ih r
theorem Reps.take {vs : List V} {ts : List T} (n : Nat) (r : Reps K mg F vs ts) : Reps K mg F (vs.take n) (ts.take n) := by
  induction n generalizing vs ts with
  | zero => exact .nil
  | succ n ih => cases r with
    | nil => exact .nil
    | cons h r => exact .cons h (ih r)
theorem Reps.set {vs : List V} {ts : List T} {v : V} {t : T} (h : Rep K mg F v t) (n : Nat) (r : Reps K mg F vs ts) : Reps K mg F (vs.set n v) (ts.set n t) := by
  induction n generalizing vs ts with
  | zero => cases r with
    | nil => exact .nil
    | cons _ r => exact .cons h r
  | succ n ih => cases r with
    | nil => exact .nil
    | cons h' r => exact .cons h' (ih r)
theorem Reps.reverse {vs : List V} {ts : List T} (r : Reps K mg F vs ts) : Reps K mg F vs.reverse ts.reverse := by
  induction ts generalizing vs with
  | nil => cases r; exact .nil
  | cons t ts ih => cases r with | cons h r => simp only [List.reverse_cons]; exact (ih r).append (.cons h .nil)
theorem Reps.rep {vs : List V} {ts : List T} (r : Reps K mg F vs ts) : ∀ k : Nat, Reps K mg F (List.replicate k vs).flatten (List.replicate k ts).flatten
  | 0 => .nil
  | k + 1 => by simp only [List.replicate_succ, List.flatten_cons]; exact r.append (Reps.rep r k)
theorem Reps.one {v : V} {t : T} (h : Rep K mg F v t) : Reps K mg F [v] [t] := .cons h .nil
end

section
variable {X : Cx} {au : Au} {W : WX}
/-! ### names and constants -/
def fVar (i : Nat) : FX.Env → R Vl := fun ρ => match ρ[i]? with
  | some (.fz t) => .ok (.fz t) ρ
  | some (.own _ _) => .ok (.bor i) ρ
  | _ => .stuck
theorem re_var (i : Nat) {x : Str} {pos : Pos} (hN : X.N[i]? = some x := by rfl) (hv : Vis X.env.scope x := by first | exact Or.inl rfl | exact Or.inr (Or.inl rfl) | exact Or.inr (Or.inr rfl)) (hd : (x == ("__debug__" : Str)) = false := by decide)
    (hcd : (x == ("__classdict__" : Str)) = false := by decide) : RE X au W (.Name x pos) (fVar i) := by
  refine ⟨PE.imp (pe_var hN hv hd hcd) fun σ H Q ⟨F, ρ, S, h⟩ => ?_⟩
  unfold fVar at h
  split at h
  · rename_i t e
    obtain ⟨v, ev, r⟩ := S.fz e
    exact ⟨v, ev, h v F H S (Xt.refl _ _ _ _) r⟩
  · rename_i k t e
    obtain ⟨a, ea, _⟩ := S.ow e
    exact ⟨_, ea, h _ F H S (Xt.refl _ _ _ _) ⟨_, _, e, ea⟩⟩
  · exact h.elim
def fC (t : T) : FX.Env → R Vl := fun ρ => .ok (.fz t) ρ
theorem re_const {e : Expr} {v : V} {t : T} (h : PE X e (tC v)) (r : ∀ F, Rep X.K X.mg F v t) : RE X au W e (fC t) :=
  ⟨PE.imp h fun σ H Q ⟨F, ρ, S, q⟩ => q v F H S (Xt.refl _ _ _ _) (r F)⟩
theorem re_int {i j pos} : RE X au W (.Constant (.int i) j pos) (fC (.int i)) := re_const pe_int fun _ => .int _
theorem re_bl {b j pos} : RE X au W (.Constant (.bool b) j pos) (fC (.bl b)) := re_const pe_bl fun _ => .bl _
theorem re_non {j pos} : RE X au W (.Constant .none j pos) (fC .non) := re_const pe_non fun _ => .non
theorem re_str {x j pos} : RE X au W (.Constant (.str x) j pos) (fC (.str x)) := re_const pe_str fun _ => .str _
/-- a global: a constant of the module -/
theorem re_glob {x : Str} {v : V} {u : Value} {t : T} {pos : Pos} (hm : X.mg x = some u) (r : RelV v u) (rt : ∀ F, Rep X.K X.mg F v t) (hg : Gl X x := by rfl) (hd : (x == ("__debug__" : Str)) = false := by decide) : RE X au W (.Name x pos) (fC t) :=
  re_const (pe_glob hg hm r hd) rt
theorem re_globI {x : Str} {i : Int} {tk : Tok} {pos : Pos} (hm : X.mg x = some (.int i tk)) (hg : Gl X x := by rfl) (hd : (x == ("__debug__" : Str)) = false := by decide) : RE X au W (.Name x pos) (fC (.int i)) :=
  re_glob hm (v := .int i) ⟨_, rfl⟩ (fun _ => .int _) hg hd
theorem re_globF {x : Str} {f : Addr} {pos : Pos} (hm : X.mg x = some (.ref f)) (hg : Gl X x := by rfl) (hd : (x == ("__debug__" : Str)) = false := by decide) : RE X au W (.Name x pos) (fC (.fn x)) :=
  re_glob hm (v := .ref f) rfl (fun _ => .fn hm) hg hd

/-! ### two values -/
/-- the operation's reading r does what g says -/
def Op2 (X : Cx) (r : R2) (g : T → T → Option Nv) : Prop := ∀ F H x y t u Q, Same F H → RepO X.K X.mg F H x t → RepO X.K X.mg F H y u → ResP X.K X.mg F H (g t u) Q → r x y H Q
def Cm2 (X : Cx) (r : R2) (g : T → T → Option Bool) : Prop := ∀ F H x y t u Q b, Same F H → RepO X.K X.mg F H x t → RepO X.K X.mg F H y u → g t u = some b → Q (.bl b) H → r x y H Q
def look2 {α : Type} (ρ : FX.Env) (v u : Vl) (g : T → T → Option α) : Option α := match look ρ v, look ρ u with
  | some t, some s => g t s
  | _, _ => none
def fBin (g : T → T → Option Nv) (fa fb : FX.Env → R Vl) : FX.Env → R Vl := fun ρ => (fa ρ).norm.bind fun v ρ1 => (fb ρ1).norm.bind fun u ρ2 => R.of (look2 ρ2 v u g) ρ2
def gCm (g : T → T → Option Bool) : T → T → Option Nv := fun t u => (g t u).map fun b => .fz (.bl b)
def R.ofB (o : Option Bool) (ρ : FX.Env) : R Bool := match o with
  | some b => .ok b ρ
  | none => .stuck
def fCmpT (g : T → T → Option Bool) (fa fb : FX.Env → R Vl) : FX.Env → R Bool := fun ρ => (fa ρ).norm.bind fun v ρ1 => (fb ρ1).norm.bind fun u ρ2 => R.ofB (look2 ρ2 v u g) ρ2
theorem Cm2.op {r : R2} {g : T → T → Option Bool} (h : Cm2 X r g) : Op2 X r (gCm g) := fun F H x y t u Q s rx ry q => by
  unfold gCm at q
  cases e : g t u with
  | none => rw [e] at q; exact q.elim
  | some b => rw [e] at q; exact h F H x y t u Q b s rx ry e (q.flat s (.bl b))
theorem Op2.or {r r' : R2} {g g' : T → T → Option Nv} (h : Op2 X r g) (h' : Op2 X r' g') : Op2 X (fun x y H Q => r x y H Q ∨ r' x y H Q) (fun t u => match g t u with | some v => some v | none => g' t u) := fun F H x y t u Q s rx ry q => by
  dsimp only at q
  cases e : g t u with
  | none => rw [e] at q; exact .inr (h' F H x y t u Q s rx ry q)
  | some v => rw [e] at q; exact .inl (h F H x y t u Q s rx ry (by rw [e]; exact q))
theorem Cm2.or {r r' : R2} {g g' : T → T → Option Bool} (h : Cm2 X r g) (h' : Cm2 X r' g') : Cm2 X (fun x y H Q => r x y H Q ∨ r' x y H Q) (fun t u => match g t u with | some v => some v | none => g' t u) := fun F H x y t u Q b s rx ry e q => by
  dsimp only at e
  split at e
  · rename_i v e'
    exact .inl (h F H x y t u Q b s rx ry (e'.trans e) q)
  · exact .inr (h' F H x y t u Q b s rx ry e q)
theorem op2_post {ρ : FX.Env} {σ : L2.St} {F H : Hp} {r : R2} {g : T → T → Option Nv} (ho : Op2 X r g) (S : SRel X.K X.mg au ρ σ F H) {x y : V} {v u : Vl} (hx : Held X.K X.mg σ F x v) (hy : Held X.K X.mg σ F y u) {Q : VK}
    (h : Post X au W (VE X) ρ σ F H (R.of (look2 ρ v u g) ρ) Q) : r x y H Q := by
  have h' := res_post S h
  unfold look2 at h'
  split at h'
  · rename_i t s e1 e2
    exact ho F H x y t s Q S.sub (look_o S hx e1) (look_o S hy e2) h'
  · exact h'.elim
theorem cm2_post {ρ : FX.Env} {σ : L2.St} {F H : Hp} {r : R2} {g : T → T → Option Bool} (ho : Cm2 X r g) (S : SRel X.K X.mg au ρ σ F H) {x y : V} {v u : Vl} (hx : Held X.K X.mg σ F x v) (hy : Held X.K X.mg σ F y u) {Q : Bool → Hp → Prop}
    (h : Post X au W VB ρ σ F H (R.ofB (look2 ρ v u g) ρ) Q) : r x y H (fun z H' => ∃ k, z = .bl k ∧ Q k H') := by
  unfold look2 at h
  split at h
  · rename_i t s e1 e2
    cases e : g t s with
    | none => rw [e] at h; exact h.elim
    | some b =>
      rw [e] at h
      exact ho F H x y t s _ b S.sub (look_o S hx e1) (look_o S hy e2) e ⟨b, rfl, h b F H S (Xt.refl _ _ _ _) rfl⟩
  · exact h.elim
theorem cm2_postV {ρ : FX.Env} {σ : L2.St} {F H : Hp} {r : R2} {g : T → T → Option Bool} (ho : Cm2 X r g) (S : SRel X.K X.mg au ρ σ F H) {x y : V} {v u : Vl} (hx : Held X.K X.mg σ F x v) (hy : Held X.K X.mg σ F y u) {Q : VK}
    (h : Post X au W VB ρ σ F H (R.ofB (look2 ρ v u g) ρ) (fun b H => Q (.bl b) H)) : r x y H Q := by
  unfold look2 at h
  split at h
  · rename_i t s e1 e2
    cases e : g t s with
    | none => rw [e] at h; exact h.elim
    | some b =>
      rw [e] at h
      exact ho F H x y t s _ b S.sub (look_o S hx e1) (look_o S hy e2) e (h b F H S (Xt.refl _ _ _ _) rfl)
  · exact h.elim
theorem bin_of {r : R2} {g : T → T → Option Nv} {fa fb : FX.Env → R Vl} (ho : Op2 X r g) {σ : L2.St} {H : Hp} {Q : VK} (q : tF X au W (VE X) (fBin g fa fb) σ H Q) : tOp r (tF X au W (VE X) fa) (tF X au W (VE X) fb) σ H Q := by
  obtain ⟨F, ρ, S, h⟩ := q
  exact ⟨F, ρ, S, Post.bindN early_VE h fun x v ρ1 F1 H1 S1 X1 V1 h1 => ⟨F1, ρ1, S1, Post.bindN early_VE h1 fun y u ρ2 F2 H2 S2 X2 V2 h2 => op2_post ho S2 (V1.mono X2.ff) V2 h2⟩⟩
theorem re_bin {op : Operator} {r : R2} {g : T → T → Option Nv} {a b : Expr} {fa fb : FX.Env → R Vl} {pos : Pos} (ho : OpR X (binaryOp op) r) (hs : Op2 X r g) (ha : RE X au W a fa) (hb : RE X au W b fb) : RE X au W (.BinOp a op b pos) (fBin g fa fb) :=
  ⟨PE.imp (pe_op ho ha.pe hb.pe) fun σ H Q q => bin_of hs q⟩
theorem re_cmp {op : CmpOp} {r : R2} {g : T → T → Option Bool} {a b : Expr} {fa fb : FX.Env → R Vl} {pos : Pos} (ho : OpR X (compareOp op) r) (hs : Cm2 X r g) (ha : RE X au W a fa) (hb : RE X au W b fb) (hm : behindInMarks op b = false) :
    RE X au W (.Compare a [op] [b] pos) (fBin (gCm g) fa fb) :=
  ⟨PE.imp (pe_cmpR ho ha.pe hb.pe hm) fun σ H Q q => bin_of hs.op q⟩
theorem rt_cmp {op : CmpOp} {r : R2} {g : T → T → Option Bool} {a b : Expr} {fa fb : FX.Env → R Vl} {pos : Pos} (ho : OpR X (compareOp op) r) (hs : Cm2 X r g) (ha : RE X au W a fa) (hb : RE X au W b fb) (hm : behindInMarks op b = false) :
    RT X au W (.Compare a [op] [b] pos) (fCmpT g fa fb) := by
  refine ⟨PT.imp (pt_cmpR ho ha.pe hb.pe hm) fun σ H Q q => ?_⟩
  obtain ⟨F, ρ, S, h⟩ := q
  exact ⟨F, ρ, S, Post.bindN early_VB h fun x v ρ1 F1 H1 S1 X1 V1 h1 => ⟨F1, ρ1, S1, Post.bindN early_VB h1 fun y u ρ2 F2 H2 S2 X2 V2 h2 => cm2_post hs S2 (V1.mono X2.ff) V2 h2⟩⟩
/-- a op b op' c -/
def fChain (g g' : T → T → Option Bool) (fa fb fc : FX.Env → R Vl) : FX.Env → R Bool := fun ρ => (fa ρ).norm.bind fun v ρ1 => (fb ρ1).norm.bind fun u ρ2 => match look2 ρ2 v u g with
  | some true => (fc ρ2).norm.bind fun z ρ3 => R.ofB (look2 ρ3 u z g') ρ3
  | some false => .ok false ρ2
  | none => .stuck
theorem chain_of {r r' : R2} {g g' : T → T → Option Bool} {fa fb fc : FX.Env → R Vl} (hs : Cm2 X r g) (hs' : Cm2 X r' g') {σ : L2.St} {H : Hp} {Q : Bool → Hp → Prop} (q : tF X au W VB (fChain g g' fa fb fc) σ H Q) :
    tChain r r' (tF X au W (VE X) fa) (tF X au W (VE X) fb) (tF X au W (VE X) fc) σ H (fun z H' => ∃ k, z = .bl k ∧ Q k H') := by
  obtain ⟨F, ρ, S, h⟩ := q
  refine ⟨F, ρ, S, Post.bindN early_VB h fun x v ρ1 F1 H1 S1 X1 V1 h1 => ⟨F1, ρ1, S1, Post.bindN early_VB h1 fun y u ρ2 F2 H2 S2 X2 V2 h2 => ?_⟩⟩
  have hx := V1.mono X2.ff
  cases e : look2 ρ2 v u g with
  | none => rw [e] at h2; exact h2.elim
  | some b =>
    rw [e] at h2
    unfold look2 at e
    split at e
    · rename_i t s e1 e2
      refine hs F2 H2 x y t s _ b S2.sub (look_o S2 hx e1) (look_o S2 V2 e2) e ⟨b, rfl, ?_⟩
      cases b with
      | false => rw [if_neg Bool.false_ne_true]; exact ⟨false, rfl, h2 false F2 H2 S2 (Xt.refl _ _ _ _) rfl⟩
      | true =>
        rw [if_pos rfl]
        refine ⟨F2, ρ2, S2, Post.bindN early_VB h2 fun w' z ρ3 F3 H3 S3 X3 V3 h3 => ?_⟩
        exact cm2_post hs' S3 (V2.mono X3.ff) V3 h3
    · cases e
theorem rt_chain {op op' : CmpOp} {r r' : R2} {g g' : T → T → Option Bool} {a b c : Expr} {fa fb fc : FX.Env → R Vl} {pos : Pos} (ho : OpR X (compareOp op) r) (hs : Cm2 X r g) (ho' : OpR X (compareOp op') r') (hs' : Cm2 X r' g') (ha : RE X au W a fa) (hb : RE X au W b fb) (hc : RE X au W c fc)
    (hm : lastMarks [op, op'] [b, c] = false := by with_unfolding_all rfl) : RT X au W (.Compare a [op, op'] [b, c] pos) (fChain g g' fa fb fc) :=
  ⟨PT.imp (pt_chain ho ho' ha.pe hb.pe hc.pe hm) fun σ H Q q => chain_of hs hs' q⟩
/-- a truth value as a value -/
def fV (f : FX.Env → R Bool) : FX.Env → R Vl := fun ρ => (f ρ).map fun b => .fz (.bl b)
theorem fV_post {ρ : FX.Env} {σ : L2.St} {F H : Hp} {r : R Bool} {Q : VK} (h : Post X au W (VE X) ρ σ F H (r.map fun b => .fz (.bl b)) Q) : Post X au W VB ρ σ F H r (fun b H => ∃ k, V.bl b = .bl k ∧ Q (.bl k) H) := by
  cases r with
  | stuck => exact h
  | err e ρ1 => exact h
  | ok b ρ1 => exact fun x F1 H1 S1 X1 e => ⟨x, rfl, h (.bl x) F1 H1 S1 X1 (by rw [e]; exact .bl _)⟩
theorem tF_mono {α β : Type} {VR : FX.Env → L2.St → Hp → Hp → Hp → β → α → Prop} {f : FX.Env → R α} {σ : L2.St} {H : Hp} {Q Q' : β → Hp → Prop} (i : ∀ x H, Q x H → Q' x H) (h : tF X au W VR f σ H Q) : tF X au W VR f σ H Q' := by
  obtain ⟨F, ρ, S, q⟩ := h
  exact ⟨F, ρ, S, q.mono i⟩
theorem re_chain {op op' : CmpOp} {r r' : R2} {g g' : T → T → Option Bool} {a b c : Expr} {fa fb fc : FX.Env → R Vl} {pos : Pos} (ho : OpR X (compareOp op) r) (hs : Cm2 X r g) (ho' : OpR X (compareOp op') r') (hs' : Cm2 X r' g') (ha : RE X au W a fa) (hb : RE X au W b fb) (hc : RE X au W c fc)
    (hm : lastMarks [op, op'] [b, c] = false := by with_unfolding_all rfl) : RE X au W (.Compare a [op, op'] [b, c] pos) (fV (fChain g g' fa fb fc)) := by
  refine ⟨PE.imp (pe_chain ho ho' ha.pe hb.pe hc.pe hm) fun σ H Q ⟨F, ρ, S, q⟩ => ?_⟩
  have q' : tF X au W VB (fChain g g' fa fb fc) σ H (fun b H => Q (.bl b) H) := ⟨F, ρ, S, (fV_post q).mono fun b H z => by obtain ⟨k, e, z⟩ := z; cases e; exact z⟩
  obtain ⟨F, ρ, S, h⟩ := q'
  refine ⟨F, ρ, S, Post.bindN early_VB h fun x v ρ1 F1 H1 S1 X1 V1 h1 => ⟨F1, ρ1, S1, Post.bindN early_VB h1 fun y u ρ2 F2 H2 S2 X2 V2 h2 => ?_⟩⟩
  have hx := V1.mono X2.ff
  cases e : look2 ρ2 v u g with
  | none => rw [e] at h2; exact h2.elim
  | some b =>
    rw [e] at h2
    unfold look2 at e
    split at e
    · rename_i t s e1 e2
      refine hs F2 H2 x y t s _ b S2.sub (look_o S2 hx e1) (look_o S2 V2 e2) e ⟨b, rfl, ?_⟩
      cases b with
      | false => rw [if_neg Bool.false_ne_true]; exact h2 false F2 H2 S2 (Xt.refl _ _ _ _) rfl
      | true =>
        rw [if_pos rfl]
        refine ⟨F2, ρ2, S2, Post.bindN early_VB h2 fun w' z ρ3 F3 H3 S3 X3 V3 h3 => ?_⟩
        exact cm2_postV hs' S3 (V2.mono X3.ff) V3 h3
    · cases e

/-! ### tests, truth -/
/-- the truth of a datum -/
def T.tru : T → Option Bool
  | .non => some false
  | .bl b => some b
  | .int i => some (i != 0)
  | .str x => if x.length ≤ sizeLine then some ((x.length : Int) != 0) else none
  | .tup ts => some (!ts.isEmpty)
  | .lst ts => some (!ts.isEmpty)
  | .seq ts => some (!ts.isEmpty)
  | .tsq ts => some (!ts.isEmpty)
  | _ => none
def fTru (f : FX.Env → R Vl) : FX.Env → R Bool := fun ρ => (f ρ).norm.bind fun v ρ1 => R.ofB ((look ρ1 v).bind T.tru) ρ1
theorem isEmpty_len {α β : Type} {l : List α} {m : List β} (h : l.length = m.length) : l.isEmpty = m.isEmpty := by
  cases l <;> cases m <;> simp_all
theorem RepK.length {K : PySem.W.Frag} {mg : Str → Option Value} {F : Hp} : ∀ {vs : List (Key × V)} {ts : List (Key × T)}, RepK K mg F vs ts → vs.length = ts.length
  | _, _, .nil => rfl
  | _, _, .cons _ r => by simp [RepK.length r]
theorem RepT.length {K : PySem.W.Frag} {mg : Str → Option Value} {F : Hp} : ∀ {vs : List (List Key × V)} {ts : List (List Key × T)}, RepT K mg F vs ts → vs.length = ts.length
  | _, _, .nil => rfl
  | _, _, .cons _ r => by simp [RepT.length r]
theorem tru_v {F H : Hp} {x : V} {t : T} {b : Bool} (s : Same F H) (r : RepO X.K X.mg F H x t) (e : t.tru = some b) : TruV X.K x H b := by
  cases r with
  | non => cases e; rfl
  | bl c => cases e; rfl
  | int i => cases e; rfl
  | str z =>
    simp only [T.tru] at e
    split at e
    · rename_i hz; cases e; exact ⟨hz, rfl⟩
    · cases e
  | tup h r => cases e; exact .inr (.inl ⟨_, .of (s _ _ h), by rw [isEmpty_len r.length]⟩)
  | tsq h r => cases e; exact .inr (.inl ⟨_, sqT_mono s h, by rw [isEmpty_len r.length]⟩)
  | lst h r => cases e; exact .inl ⟨_, .of h, by rw [isEmpty_len r.length]⟩
  | seq h r => cases e; exact .inl ⟨_, h, by rw [isEmpty_len r.length]⟩
  | dK h r => cases e
  | dT h r => cases e
  | ins hc h r => cases e
  | fn h => cases e
  | ty n => cases e
  | dN h r => cases e
theorem rt_tru {a : Expr} {fa : FX.Env → R Vl} (ha : RE X au W a fa) (he : ∀ whole, isTrue a X.env whole = (do let v ← whole; standAt a.pos; holding [v] (truthy v)) := by intro _; rfl) : RT X au W a (fTru fa) := by
  refine ⟨PT.imp (pt_truth ha.pe he) fun σ H Q q => ?_⟩
  obtain ⟨F, ρ, S, h⟩ := q
  refine ⟨F, ρ, S, Post.bindN early_VB h fun x v ρ1 F1 H1 S1 X1 V1 h1 => ?_⟩
  cases e : look ρ1 v with
  | none => rw [e] at h1; exact h1.elim
  | some t =>
    rw [e] at h1
    cases e2 : t.tru with
    | none => simp only [Option.bind_some, e2] at h1; exact h1.elim
    | some b =>
      simp only [Option.bind_some, e2] at h1
      exact ⟨b, tru_v S1.sub (look_o S1 V1 e) e2, h1 b F1 H1 S1 (Xt.refl _ _ _ _) rfl⟩
/-- a test that gives True or False -/
def fTest (f : FX.Env → R Vl) : FX.Env → R Bool := fun ρ => (f ρ).norm.bind fun v ρ1 => match v with
  | .fz (.bl b) => .ok b ρ1
  | _ => .stuck
theorem rt_val {a : Expr} {fa : FX.Env → R Vl} (ha : RE X au W a fa) (he : ∀ whole, isTrue a X.env whole = (do let v ← whole; standAt a.pos; holding [v] (truthy v)) := by intro _; rfl) : RT X au W a (fTest fa) := by
  refine ⟨PT.imp (pt_val ha.pe he) fun σ H Q q => ?_⟩
  obtain ⟨F, ρ, S, h⟩ := q
  refine ⟨F, ρ, S, Post.bindN early_VB h fun x v ρ1 F1 H1 S1 X1 V1 h1 => ?_⟩
  split at h1
  · rename_i b
    cases (show Rep X.K X.mg F1 x (.bl b) from V1)
    exact ⟨b, rfl, h1 b F1 H1 S1 (Xt.refl _ _ _ _) rfl⟩
  · exact h1.elim
def fAnd (f g : FX.Env → R Bool) : FX.Env → R Bool := fun ρ => (f ρ).bind fun b ρ1 => if b = true then g ρ1 else .ok false ρ1
def fOr (f g : FX.Env → R Bool) : FX.Env → R Bool := fun ρ => (f ρ).bind fun b ρ1 => if b = true then .ok true ρ1 else g ρ1
def fNot (f : FX.Env → R Bool) : FX.Env → R Bool := fun ρ => (f ρ).map fun b => !b
structure RW (X : Cx) (au : Au) (W : WX) (e : Expr) (f : FX.Env → R Bool) : Prop where
  pw : PW X e (tF X au W VB f)
theorem PW.imp {e : Expr} {t t' : TT} (h : PW X e t) (i : ∀ σ H Q, t' σ H Q → t σ H Q) : PW X e t' := ⟨fun wh pins s σ H Q I q => h.run wh pins s σ H Q I (i σ H Q q)⟩
theorem RW.rt {e : Expr} {f : FX.Env → R Bool} (h : RW X au W e f) : RT X au W e f := ⟨h.pw.pt⟩
theorem and_of {f g : FX.Env → R Bool} {σ : L2.St} {H : Hp} {Q : Bool → Hp → Prop} (q : tF X au W VB (fAnd f g) σ H Q) : tAnd (tF X au W VB f) (tF X au W VB g) σ H Q := by
  obtain ⟨F, ρ, S, h⟩ := q
  refine ⟨F, ρ, S, Post.bind early_VB h fun b c ρ1 F1 H1 e S1 X1 V1 h1 => ?_⟩
  subst V1
  split at h1
  · rename_i hb; rw [if_pos hb]; exact ⟨F1, ρ1, S1, h1⟩
  · rename_i hb; rw [if_neg hb]; exact h1 false F1 H1 S1 (Xt.refl _ _ _ _) rfl
theorem or_of {f g : FX.Env → R Bool} {σ : L2.St} {H : Hp} {Q : Bool → Hp → Prop} (q : tF X au W VB (fOr f g) σ H Q) : tOr (tF X au W VB f) (tF X au W VB g) σ H Q := by
  obtain ⟨F, ρ, S, h⟩ := q
  refine ⟨F, ρ, S, Post.bind early_VB h fun b c ρ1 F1 H1 e S1 X1 V1 h1 => ?_⟩
  subst V1
  split at h1
  · rename_i hb; rw [if_pos hb]; exact h1 true F1 H1 S1 (Xt.refl _ _ _ _) rfl
  · rename_i hb; rw [if_neg hb]; exact ⟨F1, ρ1, S1, h1⟩
variable {a b c : Expr} {rest : List Expr} {fa fb fc : FX.Env → R Bool} {pos : Pos}
theorem rw_and1 (ha : RT X au W a fa) : RW X au W (.BoolOp .And [a] pos) fa := ⟨pw_and1 ha.pt⟩
theorem rw_or1 (ha : RT X au W a fa) : RW X au W (.BoolOp .Or [a] pos) fa := ⟨pw_or1 ha.pt⟩
theorem rw_and (ha : RT X au W a fa) (hb : RW X au W (.BoolOp .And (b :: rest) pos) fb) : RW X au W (.BoolOp .And (a :: b :: rest) pos) (fAnd fa fb) := ⟨PW.imp (pw_and ha.pt hb.pw) fun σ H Q q => and_of q⟩
theorem rw_or (ha : RT X au W a fa) (hb : RW X au W (.BoolOp .Or (b :: rest) pos) fb) : RW X au W (.BoolOp .Or (a :: b :: rest) pos) (fOr fa fb) := ⟨PW.imp (pw_or ha.pt hb.pw) fun σ H Q q => or_of q⟩
theorem not_of {f : FX.Env → R Bool} {σ : L2.St} {H : Hp} {Q : Bool → Hp → Prop} (q : tF X au W VB (fNot f) σ H Q) : tNot (tF X au W VB f) σ H Q := by
  obtain ⟨F, ρ, S, h⟩ := q
  refine ⟨F, ρ, S, ?_⟩
  unfold fNot at h
  cases e : f ρ with
  | stuck => rw [e] at h; exact h
  | err e' ρ1 => rw [e] at h; exact h
  | ok b ρ1 =>
    rw [e] at h
    exact fun x F1 H1 S1 X1 V1 => by
      have V1 : x = b := V1
      subst V1
      exact h (!x) F1 H1 S1 X1 rfl
theorem rt_not (ha : RT X au W a fa) : RT X au W (.UnaryOp .Not a pos) (fNot fa) := ⟨PT.imp (pt_not ha.pt) fun σ H Q q => not_of q⟩
/-! the same as values -/
def fAndV (f g : FX.Env → R Vl) : FX.Env → R Vl := fun ρ => (f ρ).norm.bind fun v ρ1 => match v with
  | .fz (.bl true) => g ρ1
  | .fz (.bl false) => .ok (.fz (.bl false)) ρ1
  | _ => .stuck
def fOrV (f g : FX.Env → R Vl) : FX.Env → R Vl := fun ρ => (f ρ).norm.bind fun v ρ1 => match v with
  | .fz (.bl true) => .ok (.fz (.bl true)) ρ1
  | .fz (.bl false) => g ρ1
  | _ => .stuck
def fNotV (f : FX.Env → R Vl) : FX.Env → R Vl := fun ρ => (f ρ).norm.bind fun v ρ1 => match v with
  | .fz (.bl b) => .ok (.fz (.bl (!b))) ρ1
  | _ => .stuck
variable {ea eb : FX.Env → R Vl}
theorem re_one {op} (h : RE X au W a ea) : RE X au W (.BoolOp op [a] pos) ea := ⟨pe_one h.pe⟩
theorem re_and (ha : RE X au W a ea) (hb : RE X au W (.BoolOp .And (b :: rest) pos) eb) : RE X au W (.BoolOp .And (a :: b :: rest) pos) (fAndV ea eb) := by
  refine ⟨PE.imp (pe_and ha.pe hb.pe) fun σ H Q q => ?_⟩
  obtain ⟨F, ρ, S, h⟩ := q
  refine ⟨F, ρ, S, Post.bindN early_VE h fun x v ρ1 F1 H1 S1 X1 V1 h1 => ?_⟩
  split at h1
  · cases (show Rep X.K X.mg F1 x (.bl true) from V1)
    exact ⟨true, rfl, by rw [if_pos rfl]; exact ⟨F1, ρ1, S1, h1⟩⟩
  · cases (show Rep X.K X.mg F1 x (.bl false) from V1)
    exact ⟨false, rfl, by rw [if_neg Bool.false_ne_true]; exact h1 _ F1 H1 S1 (Xt.refl _ _ _ _) (.bl _)⟩
  · exact h1.elim
theorem re_or (ha : RE X au W a ea) (hb : RE X au W (.BoolOp .Or (b :: rest) pos) eb) : RE X au W (.BoolOp .Or (a :: b :: rest) pos) (fOrV ea eb) := by
  refine ⟨PE.imp (pe_or ha.pe hb.pe) fun σ H Q q => ?_⟩
  obtain ⟨F, ρ, S, h⟩ := q
  refine ⟨F, ρ, S, Post.bindN early_VE h fun x v ρ1 F1 H1 S1 X1 V1 h1 => ?_⟩
  split at h1
  · cases (show Rep X.K X.mg F1 x (.bl true) from V1)
    exact ⟨true, rfl, by rw [if_pos rfl]; exact h1 _ F1 H1 S1 (Xt.refl _ _ _ _) (.bl _)⟩
  · cases (show Rep X.K X.mg F1 x (.bl false) from V1)
    exact ⟨false, rfl, by rw [if_neg Bool.false_ne_true]; exact ⟨F1, ρ1, S1, h1⟩⟩
  · exact h1.elim
theorem re_not (ha : RE X au W a ea) : RE X au W (.UnaryOp .Not a pos) (fNotV ea) := by
  refine ⟨PE.imp (pe_not ha.pe) fun σ H Q q => ?_⟩
  obtain ⟨F, ρ, S, h⟩ := q
  refine ⟨F, ρ, S, Post.bindN early_VE h fun x v ρ1 F1 H1 S1 X1 V1 h1 => ?_⟩
  split at h1
  · rename_i k
    cases (show Rep X.K X.mg F1 x (.bl k) from V1)
    exact ⟨k, rfl, h1 _ F1 H1 S1 (Xt.refl _ _ _ _) (.bl _)⟩
  · exact h1.elim
def fIf (f : FX.Env → R Bool) (g h : FX.Env → R Vl) : FX.Env → R Vl := fun ρ => (f ρ).bind fun b ρ1 => if b = true then g ρ1 else h ρ1
theorem re_if (hc : RT X au W c fc) (ha : RE X au W a ea) (hb : RE X au W b eb) : RE X au W (.IfExp c a b pos) (fIf fc ea eb) := by
  refine ⟨PE.imp (pe_ifExp hc.pt ha.pe hb.pe) fun σ H Q q => ?_⟩
  obtain ⟨F, ρ, S, h⟩ := q
  refine ⟨F, ρ, S, Post.bind early_VE h fun b c ρ1 F1 H1 e S1 X1 V1 h1 => ?_⟩
  subst V1
  split at h1
  · rename_i hb; rw [if_pos hb]; exact ⟨F1, ρ1, S1, h1⟩
  · rename_i hb; rw [if_neg hb]; exact ⟨F1, ρ1, S1, h1⟩
end
end FX
end

section
set_option Elab.async false
set_option linter.all false
set_option maxRecDepth 100000
set_option maxHeartbeats 4000000
namespace FX
open PySem PySem.Spec PyProof.Rows L2

section
variable {X : Cx} {au : Au} {W : WX}
/-! ### argument lists, displays -/
def fANil : FX.Env → R (List Vl) := fun ρ => .ok [] ρ
def fACons (f : FX.Env → R Vl) (g : FX.Env → R (List Vl)) : FX.Env → R (List Vl) := fun ρ => (f ρ).norm.bind fun v ρ1 => (g ρ1).bind fun vs ρ2 => .ok (v :: vs) ρ2
theorem ra_nil : RA X au W [] fANil := ⟨PA.imp pa_nil fun σ H Q ⟨F, ρ, S, h⟩ => h [] F H S (Xt.refl _ _ _ _) trivial⟩
theorem ra_cons {e : Expr} {es : List Expr} {f : FX.Env → R Vl} {g : FX.Env → R (List Vl)} (ha : RE X au W e f) (hr : RA X au W es g) (hs : starEach (e :: es) X.env = (false, eval e X.env) :: starEach es X.env := by rfl) : RA X au W (e :: es) (fACons f g) := by
  refine ⟨PA.imp (pa_cons ha.pe hr.pa hs) fun σ H Q ⟨F, ρ, S, h⟩ => ?_⟩
  exact ⟨F, ρ, S, Post.bindN early_VA h fun x v ρ1 F1 H1 S1 X1 V1 h1 => ⟨F1, ρ1, S1, Post.bind early_VA h1 fun xs vs ρ2 F2 H2 e S2 X2 V2 h2 => h2 (x :: xs) F2 H2 S2 (Xt.refl _ _ _ _) ⟨V1.mono X2.ff, V2⟩⟩⟩
/-- the arguments let out, then k -/
def fEsc {α : Type} (g : FX.Env → R (List Vl)) (k : List T → FX.Env → R α) : FX.Env → R α := fun ρ => (g ρ).bind fun vs ρ1 => match escs vs ρ1 with
  | some (ts, ρ2) => k ts ρ2
  | none => .stuck
theorem esc_post {γ δ : Type} {VR' : FX.Env → L2.St → Hp → Hp → Hp → δ → γ → Prop} (mono : Early VR') {g : FX.Env → R (List Vl)} {k : List T → FX.Env → R γ} {ρ : FX.Env} {σ : L2.St} {F H : Hp} {Q : δ → Hp → Prop} {Q1 : List V → Hp → Prop}
    (h : Post X au W VR' ρ σ F H (fEsc g k ρ) Q)
    (hk : ∀ xs ts ρ1 F1 H1, SRel X.K X.mg au ρ1 σ F1 H1 → Reps X.K X.mg F1 xs ts → Post X au W VR' ρ1 σ F1 H1 (k ts ρ1) Q → Q1 xs H1) : Post X au W (VA X) ρ σ F H (g ρ) Q1 := by
  refine Post.bind mono h fun xs vs ρ1 F1 H1 e S1 X1 V1 h1 => ?_
  cases e2 : escs vs ρ1 with
  | none => rw [e2] at h1; exact h1.elim
  | some p =>
    obtain ⟨ts, ρ2⟩ := p
    rw [e2] at h1
    obtain ⟨F2, S2, X2, r⟩ := escs_ok S1 V1 e2
    exact hk xs ts ρ2 F2 H1 S2 r (Post.step mono h1 X2)
def lim (n : Nat) (v : Nv) : Option Nv := if n ≤ 1000 then some v else none
def fTup (g : FX.Env → R (List Vl)) : FX.Env → R Vl := fEsc g fun ts ρ => R.of (lim ts.length (.fz (.tup ts))) ρ
def fLst (g : FX.Env → R (List Vl)) : FX.Env → R Vl := fEsc g fun ts ρ => R.of (lim ts.length (.own (.lst ts))) ρ
theorem lim_of {K : PySem.W.Frag} {mg : Str → Option Value} {F H : Hp} {n : Nat} {v : Nv} {Q : VK} (h : ResP K mg F H (lim n v) Q) : n ≤ 1000 ∧ ResP K mg F H (some v) Q := by
  unfold lim at h
  split at h
  · rename_i z; exact ⟨z, h⟩
  · exact h.elim
theorem le_line {n : Nat} (h : n ≤ 1000) : n ≤ sizeLine := by rw [sizeLine_eq]; omega
theorem re_tup {es : List Expr} {g : FX.Env → R (List Vl)} {x1 pos} (h : RA X au W es g) : RE X au W (.Tuple es x1 pos) (fTup g) := by
  refine ⟨PE.imp (pe_tup h.pa) fun σ H Q ⟨F, ρ, S, q⟩ => ?_⟩
  refine ⟨F, ρ, S, esc_post early_VE q fun xs ts ρ1 F1 H1 S1 r q1 => ?_⟩
  obtain ⟨hl, q2⟩ := lim_of (res_post S1 q1)
  exact ⟨le_line (by rw [r.length]; exact hl), fun p hp => q2.laid S1.sub hp (.tup upd_same (Reps.mono (same_upd (S1.sub.free hp)) r))⟩
theorem re_lst {es : List Expr} {g : FX.Env → R (List Vl)} {pos} (h : RA X au W es g) : RE X au W (.List es pos) (fLst g) := by
  refine ⟨PE.imp (pe_lst h.pa) fun σ H Q ⟨F, ρ, S, q⟩ => ?_⟩
  refine ⟨F, ρ, S, esc_post early_VE q fun xs ts ρ1 F1 H1 S1 r q1 => ?_⟩
  obtain ⟨hl, q2⟩ := lim_of (res_post S1 q1)
  exact ⟨le_line (by rw [r.length]; exact hl), fun p hp => q2.made S1.sub hp (.lst upd_same r)⟩
def fDK : FX.Env → R Vl := fun ρ => .ok (.own (.dK [])) ρ
def fDT : FX.Env → R Vl := fun ρ => .ok (.own (.dT [])) ρ
theorem re_dK {pos} : RE X au W (.Dict [] [] pos) fDK := by
  refine ⟨PE.imp pe_dnewK fun σ H Q ⟨F, ρ, S, q⟩ p hp => ?_⟩
  exact (res_post (r := some (.own (.dK []))) S q).made S.sub hp (.dK upd_same .nil)
theorem re_dT {pos} : RE X au W (.Dict [] [] pos) fDT := by
  refine ⟨PE.imp pe_dnewT fun σ H Q ⟨F, ρ, S, q⟩ p hp => ?_⟩
  exact (res_post (r := some (.own (.dT []))) S q).made S.sub hp (.dT upd_same .nil)

/-! ### operations -/
section
variable {F H : Hp} {x y : V} {t u : T}
def aAdd : T → T → Option Nv
  | .int i, .int j => some (.fz (.int (i + j)))
  | .str a, .str b => if a.length + b.length ≤ sizeLine then some (.fz (.str (a ++ b))) else none
  | .lst a, .lst b => if a.length + b.length ≤ sizeLine then some (.own (.lst (a ++ b))) else none
  | .tup a, .tup b => if a.length + b.length ≤ sizeLine then some (.fz (.tup (a ++ b))) else none
  | _, _ => none
def rAddA (K : PySem.W.Frag) : R2 := fun x y H Q => (rI0 fun i j => .int (i + j)) x y H Q ∨ (∃ i j, x = .str i ∧ y = .str j ∧ i.length + j.length ≤ sizeLine ∧ Q (.str (i ++ j)) H) ∨ rCat x y H Q ∨ rCatA K x y H Q
theorem op_addA : OpR X (binaryOp .Add) (rAddA X.K) := op_add.or (op_add_str.or (op_cat.or op_catA))
theorem o2_add : Op2 X (rAddA X.K) aAdd := by
  intro F H x y t u Q s rx ry q
  cases rx with
  | int i => cases ry with
    | int j => exact .inl ⟨i, j, rfl, rfl, q.flat s (.int _)⟩
    | _ => exact q.elim
  | str a => cases ry with
    | str b =>
      simp only [aAdd] at q
      split at q
      · rename_i h; exact .inr (.inl ⟨a, b, rfl, rfl, h, q.flat s (.str _)⟩)
      · exact q.elim
    | _ => exact q.elim
  | lst hx r => cases ry with
    | lst hy r' =>
      simp only [aAdd] at q
      split at q
      · rename_i h
        exact .inr (.inr (.inl ⟨_, _, _, _, rfl, rfl, hx, hy, by rw [r.length, r'.length]; exact h, fun p hp => q.made s hp (.lst upd_same (r.append r'))⟩))
      · exact q.elim
    | _ => exact q.elim
  | @tup a vs ts hx r => cases ry with
    | @tup b us ss hy r' =>
      simp only [aAdd] at q
      split at q
      · rename_i h
        refine .inr (.inr (.inr ⟨_, _, vs, us, rfl, rfl, .of (s _ _ hx), .of (s _ _ hy), by rw [r.length, r'.length]; exact h, fun e => ?_, fun _ e => ?_, fun _ _ p hp => ?_⟩))
        · subst e
          have e2 : ts = [] := List.length_eq_zero_iff.mp r.length.symm
          subst e2
          exact q.flat s (.tup hy r')
        · subst e
          have e2 : ss = [] := List.length_eq_zero_iff.mp r'.length.symm
          subst e2
          rw [List.append_nil] at q
          exact q.flat s (.tup hx r)
        · exact q.laid s hp (.tup upd_same (Reps.mono (same_upd (s.free hp)) (r.append r')))
      · exact q.elim
    | _ => exact q.elim
  | _ => exact q.elim
def aSub : T → T → Option Nv
  | .int i, .int j => some (.fz (.int (i - j)))
  | _, _ => none
theorem o2_sub : Op2 X (rI0 fun i j => .int (i - j)) aSub := by
  intro F H x y t u Q s rx ry q
  cases rx with
  | int i => cases ry with
    | int j => exact ⟨i, j, rfl, rfl, q.flat s (.int _)⟩
    | _ => exact q.elim
  | _ => exact q.elim
instance (i j : Int) : Decidable (CMul i j) := by unfold CMul; infer_instance
instance (i j : Int) : Decidable (CDiv i j) := by unfold CDiv; infer_instance
instance (i j : Int) : Decidable (CDivN i j) := by unfold CDivN; infer_instance
instance (i j : Int) : Decidable (CPow i j) := by unfold CPow; infer_instance
def aMul : T → T → Option Nv
  | .int i, .int j => if CMul i j then some (.fz (.int (i * j))) else none
  | .lst a, .int k => if 0 ≤ k ∧ k ≤ 100000 ∧ a.length * k.toNat ≤ sizeLine then some (.own (.lst (List.replicate k.toNat a).flatten)) else none
  | .tup a, .int k => if a ≠ [] ∧ 2 ≤ k ∧ k ≤ 1000 ∧ a.length ≤ 1000 then some (.fz (.tup (List.replicate k.toNat a).flatten)) else none
  | _, _ => none
def rMulA (K : PySem.W.Frag) : R2 := fun x y H Q => rI CMul (fun i j => .int (i * j)) x y H Q ∨ rRep x y H Q ∨ rRepT K x y H Q
theorem op_mulA : OpR X (binaryOp .Mult) (rMulA X.K) := op_mul.or (op_rep.or op_repT)
theorem o2_mul : Op2 X (rMulA X.K) aMul := by
  intro F H x y t u Q s rx ry q
  cases rx with
  | int i => cases ry with
    | int j =>
      simp only [aMul] at q
      split at q
      · rename_i h; exact .inl ⟨i, j, rfl, rfl, h, q.flat s (.int _)⟩
      · exact q.elim
    | _ => exact q.elim
  | lst hx r => cases ry with
    | int k =>
      simp only [aMul] at q
      split at q
      · rename_i h
        exact .inr (.inl ⟨_, k, _, rfl, rfl, hx, by omega, by omega, by rw [r.length]; exact h.2.2, fun p hp => q.made s hp (.lst upd_same (r.rep _))⟩)
      · exact q.elim
    | _ => exact q.elim
  | tup hx r => cases ry with
    | int k =>
      simp only [aMul] at q
      split at q
      · rename_i h
        refine .inr (.inr ⟨_, k, _, rfl, rfl, .of (s _ _ hx), fun e => h.1 ?_, h.2.1, h.2.2.1, by rw [r.length]; exact h.2.2.2, fun p hp => q.laid s hp (.tup upd_same (Reps.mono (same_upd (s.free hp)) (r.rep _)))⟩)
        subst e
        exact List.length_eq_zero_iff.mp r.length.symm
      · exact q.elim
    | _ => exact q.elim
  | _ => exact q.elim
/-- whole numbers alone, under a condition -/
def aI (C : Int → Int → Prop) [∀ i j, Decidable (C i j)] (g : Int → Int → Int) : T → T → Option Nv
  | .int i, .int j => if C i j then some (.fz (.int (g i j))) else none
  | _, _ => none
theorem o2_I (C : Int → Int → Prop) [∀ i j, Decidable (C i j)] (g : Int → Int → Int) : Op2 X (rI C fun i j => .int (g i j)) (aI C g) := by
  intro F H x y t u Q s rx ry q
  cases rx with
  | int i => cases ry with
    | int j =>
      simp only [aI] at q
      split at q
      · rename_i h; exact ⟨i, j, rfl, rfl, h, q.flat s (.int _)⟩
      · exact q.elim
    | _ => exact q.elim
  | _ => exact q.elim
abbrev aDiv := aI CDiv fun i j => i / j
abbrev aMod := aI (fun _ j => 0 < j) fun i j => i % j
abbrev aPow := aI CPow fun i j => i ^ j.toNat
end
section
variable {a b : Expr} {fa fb : FX.Env → R Vl} {pos : Pos}
theorem re_add (ha : RE X au W a fa) (hb : RE X au W b fb) : RE X au W (.BinOp a .Add b pos) (fBin aAdd fa fb) := re_bin op_addA o2_add ha hb
theorem re_sub (ha : RE X au W a fa) (hb : RE X au W b fb) : RE X au W (.BinOp a .Sub b pos) (fBin aSub fa fb) := re_bin op_sub o2_sub ha hb
theorem re_mul (ha : RE X au W a fa) (hb : RE X au W b fb) : RE X au W (.BinOp a .Mult b pos) (fBin aMul fa fb) := re_bin op_mulA o2_mul ha hb
theorem re_div (ha : RE X au W a fa) (hb : RE X au W b fb) : RE X au W (.BinOp a .FloorDiv b pos) (fBin aDiv fa fb) := re_bin op_fdiv (o2_I _ _) ha hb
theorem re_mod (ha : RE X au W a fa) (hb : RE X au W b fb) : RE X au W (.BinOp a .Mod b pos) (fBin aMod fa fb) := re_bin op_mod (o2_I _ _) ha hb
theorem re_pow (ha : RE X au W a fa) (hb : RE X au W b fb) : RE X au W (.BinOp a .Pow b pos) (fBin aPow fa fb) := re_bin op_pow (o2_I _ _) ha hb
def fNeg (f : FX.Env → R Vl) : FX.Env → R Vl := fun ρ => (f ρ).norm.bind fun v ρ1 => match v with
  | .fz (.int i) => .ok (.fz (.int (-i))) ρ1
  | _ => .stuck
theorem re_neg (ha : RE X au W a fa) : RE X au W (.UnaryOp .USub a pos) (fNeg fa) := by
  refine ⟨PE.imp (pe_un un_neg ha.pe) fun σ H Q q => ?_⟩
  obtain ⟨F, ρ, S, h⟩ := q
  refine ⟨F, ρ, S, Post.bindN early_VE h fun x v ρ1 F1 H1 S1 X1 V1 h1 => ?_⟩
  split at h1
  · rename_i i
    cases (show Rep X.K X.mg F1 x (.int i) from V1)
    exact ⟨i, rfl, h1 _ F1 H1 S1 (Xt.refl _ _ _ _) (.int _)⟩
  · exact h1.elim
end

/-! ### comparisons -/
section
def cI (p : Int → Int → Bool) : T → T → Option Bool
  | .int i, .int j => some (p i j)
  | _, _ => none
theorem c2_I (p : Int → Int → Bool) : Cm2 X (rI0 fun i j => .bl (p i j)) (cI p) := by
  intro F H x y t u Q b s rx ry e q
  cases rx with
  | int i => cases ry with
    | int j => cases e; exact ⟨i, j, rfl, rfl, q⟩
    | _ => cases e
  | _ => cases e
def cEq (t u : T) : Option Bool := match t.toD, u.toD with
  | some d, some e => if SeqAt.shaped d = true ∧ SeqAt.shaped e = true then some (PyData.eqv d e) else none
  | _, _ => none
theorem c2_eq : Cm2 X (rEqD X.K) cEq := by
  intro F H x y t u Q b s rx ry e q
  unfold cEq at e
  split at e
  · rename_i d1 d2 e1 e2
    split at e
    · rename_i h; cases e
      exact ⟨d1, d2, (rx.rep s).dp e1, (ry.rep s).dp e2, h.1, h.2, q⟩
    · cases e
  · cases e
def cNe (t u : T) : Option Bool := (cEq t u).map fun b => !b
theorem c2_ne : Cm2 X (rNeD X.K) cNe := by
  intro F H x y t u Q b s rx ry e q
  unfold cNe cEq at e
  split at e
  · rename_i d1 d2 e1 e2
    split at e
    · rename_i h; cases e
      exact ⟨d1, d2, (rx.rep s).dp e1, (ry.rep s).dp e2, h.1, h.2, q⟩
    · cases e
  · cases e
/-- is None -/
def cIsN (t u : T) : Option Bool := match u with
  | .non => match t with
    | .non => some true
    | _ => some false
  | _ => none
theorem isN_v {F H : Hp} {x : V} {t : T} {b : Bool} (r : RepO X.K X.mg F H x t) (e : cIsN t .non = some b) : decide (x = .non) = b := by
  cases r <;> cases e <;> simp
theorem c2_isN : Cm2 X (fun x y H Q => y = .non ∧ Q (.bl (decide (x = .non))) H) cIsN := by
  intro F H x y t u Q b s rx ry e q
  cases ry with
  | non => exact ⟨rfl, by rw [isN_v rx e]; exact q⟩
  | _ => cases e
def cNotN (t u : T) : Option Bool := (cIsN t u).map fun b => !b
theorem c2_notN : Cm2 X (fun x y H Q => y = .non ∧ Q (.bl (!decide (x = .non))) H) cNotN := by
  intro F H x y t u Q b s rx ry e q
  unfold cNotN at e
  rw [Option.map_eq_some_iff] at e
  obtain ⟨c, e1, e2⟩ := e
  cases ry with
  | non => exact ⟨rfl, by rw [isN_v rx e1, e2]; exact q⟩
  | _ => cases e1
end
end
end FX
end

section
set_option Elab.async false
set_option linter.all false
set_option maxRecDepth 100000
set_option maxHeartbeats 4000000
namespace FX
open PySem PySem.Spec PyProof.Rows L2

/-! ### keys -/
def T.key : T → Option Key
  | .int i => some (.inl i)
  | .str x => some (.inr x)
  | _ => none
def keysT : List T → Option (List Key)
  | [] => some []
  | t :: ts => match t.key, keysT ts with
    | some k, some ks => some (k :: ks)
    | _, _ => none
/-- the key of a dict whose keys are tuples -/
def T.keyT : T → Option (List Key)
  | .tup ts => keysT ts
  | _ => none
def keyT : Key → T
  | .inl i => .int i
  | .inr x => .str x
def valT {κ : Type} [DecidableEq κ] (kvs : List (κ × T)) (k : κ) : Option T := (kvs.find? fun kv => decide (kv.1 = k)).map (·.2)
def putT {κ : Type} [DecidableEq κ] (kvs : List (κ × T)) (k : κ) (v : T) : List (κ × T) :=
  if kvs.any fun kv => decide (kv.1 = k) then kvs.map fun kv => if kv.1 = k then (kv.1, v) else kv else kvs ++ [(k, v)]
section
variable {K : PySem.W.Frag} {mg : Str → Option Value} {F H : Hp}
theorem key_v {v : V} {t : T} {k : Key} (r : Rep K mg F v t) (e : t.key = some k) : v = kV k := by
  cases r <;> cases e <;> rfl
theorem keys_v : ∀ {vs : List V} {ts : List T} {ks : List Key}, Reps K mg F vs ts → keysT ts = some ks → vs = ks.map kV
  | _, _, _, .nil, e => by cases e; rfl
  | _, _, _, .cons h r, e => by
    simp only [keysT] at e
    split at e
    · rename_i k ks e1 e2
      cases e
      rw [key_v h e1, keys_v r e2]
      rfl
    · cases e
theorem keyT_rep (k : Key) : Rep K mg F (kV k) (keyT k) := by
  cases k with
  | inl i => exact .int i
  | inr x => exact .str x
theorem RepK.val {k : Key} : ∀ {vs : List (Key × V)} {ts : List (Key × T)}, RepK K mg F vs ts → (valT ts k = none → valV vs k = none) ∧ ∀ t, valT ts k = some t → ∃ v, valV vs k = some v ∧ Rep K mg F v t
  | _, _, .nil => ⟨fun _ => rfl, fun t h => by simp [valT] at h⟩
  | _, _, .cons (k := k') (v := v') (t := t') (vs := vs) (ts := ts) h r => by
    by_cases e : k' = k
    · subst e
      refine ⟨fun z => by simp [valT, List.find?_cons] at z, fun t z => ?_⟩
      have z' : t' = t := by simpa [valT, List.find?_cons] using z
      subst z'
      exact ⟨v', valV_pos rfl, h⟩
    · have e1 : valT ((k', t') :: ts) k = valT ts k := by simp [valT, List.find?_cons, e]
      have e2 : valV ((k', v') :: vs) k = valV vs k := valV_neg e
      rw [e1, e2]
      exact RepK.val r
theorem RepT.val {k : List Key} : ∀ {vs : List (List Key × V)} {ts : List (List Key × T)}, RepT K mg F vs ts → (valT ts k = none → valV vs k = none) ∧ ∀ t, valT ts k = some t → ∃ v, valV vs k = some v ∧ Rep K mg F v t
  | _, _, .nil => ⟨fun _ => rfl, fun t h => by simp [valT] at h⟩
  | _, _, .cons (k := k') (v := v') (t := t') (vs := vs) (ts := ts) h r => by
    by_cases e : k' = k
    · subst e
      refine ⟨fun z => by simp [valT, List.find?_cons] at z, fun t z => ?_⟩
      have z' : t' = t := by simpa [valT, List.find?_cons] using z
      subst z'
      exact ⟨v', valV_pos rfl, h⟩
    · have e1 : valT ((k', t') :: ts) k = valT ts k := by simp [valT, List.find?_cons, e]
      have e2 : valV ((k', v') :: vs) k = valV vs k := valV_neg e
      rw [e1, e2]
      exact RepT.val r
theorem RepK.any {k : Key} : ∀ {vs : List (Key × V)} {ts : List (Key × T)}, RepK K mg F vs ts → (vs.any fun kv => decide (kv.1 = k)) = ts.any fun kv => decide (kv.1 = k)
  | _, _, .nil => rfl
  | _, _, .cons h r => by simp [List.any_cons, RepK.any r]
theorem RepT.any {k : List Key} : ∀ {vs : List (List Key × V)} {ts : List (List Key × T)}, RepT K mg F vs ts → (vs.any fun kv => decide (kv.1 = k)) = ts.any fun kv => decide (kv.1 = k)
  | _, _, .nil => rfl
  | _, _, .cons h r => by simp [List.any_cons, RepT.any r]
theorem RepK.repl {k : Key} {v : V} {t : T} (hv : Rep K mg F v t) : ∀ {vs : List (Key × V)} {ts : List (Key × T)}, RepK K mg F vs ts → RepK K mg F (vs.map fun kv => if kv.1 = k then (kv.1, v) else kv) (ts.map fun kv => if kv.1 = k then (kv.1, t) else kv)
  | _, _, .nil => .nil
  | _, _, .cons (k := k') h r => by
    simp only [List.map_cons]
    by_cases e : k' = k
    · rw [if_pos e, if_pos e]; exact .cons hv (RepK.repl hv r)
    · rw [if_neg e, if_neg e]; exact .cons h (RepK.repl hv r)
theorem RepT.repl {k : List Key} {v : V} {t : T} (hv : Rep K mg F v t) : ∀ {vs : List (List Key × V)} {ts : List (List Key × T)}, RepT K mg F vs ts → RepT K mg F (vs.map fun kv => if kv.1 = k then (kv.1, v) else kv) (ts.map fun kv => if kv.1 = k then (kv.1, t) else kv)
  | _, _, .nil => .nil
  | _, _, .cons (k := k') h r => by
    simp only [List.map_cons]
    by_cases e : k' = k
    · rw [if_pos e, if_pos e]; exact .cons hv (RepT.repl hv r)
    · rw [if_neg e, if_neg e]; exact .cons h (RepT.repl hv r)
theorem RepK.snoc {k : Key} {v : V} {t : T} (hv : Rep K mg F v t) : ∀ {vs : List (Key × V)} {ts : List (Key × T)}, RepK K mg F vs ts → RepK K mg F (vs ++ [(k, v)]) (ts ++ [(k, t)])
  | _, _, .nil => .cons hv .nil
  | _, _, .cons h r => .cons h (RepK.snoc hv r)
theorem RepT.snoc {k : List Key} {v : V} {t : T} (hv : Rep K mg F v t) : ∀ {vs : List (List Key × V)} {ts : List (List Key × T)}, RepT K mg F vs ts → RepT K mg F (vs ++ [(k, v)]) (ts ++ [(k, t)])
  | _, _, .nil => .cons hv .nil
  | _, _, .cons h r => .cons h (RepT.snoc hv r)
theorem RepK.put {k : Key} {v : V} {t : T} (hv : Rep K mg F v t) {vs : List (Key × V)} {ts : List (Key × T)} (r : RepK K mg F vs ts) : RepK K mg F (putK vs k v) (putT ts k t) := by
  unfold putK putT
  rw [r.any]
  split
  · exact r.repl hv
  · exact r.snoc hv
theorem RepT.put {k : List Key} {v : V} {t : T} (hv : Rep K mg F v t) {vs : List (List Key × V)} {ts : List (List Key × T)} (r : RepT K mg F vs ts) : RepT K mg F (putK vs k v) (putT ts k t) := by
  unfold putK putT
  rw [r.any]
  split
  · exact r.repl hv
  · exact r.snoc hv
end

section
variable {X : Cx} {au : Au} {W : WX}
/-! ### order of data -/
def isNone : PyData → Bool
  | .none => true
  | _ => false
def rLtD (K : PySem.W.Frag) : R2 := fun x y H Q => ∃ d e, Dp K H x d ∧ Dp K H y e ∧ PySem.W.alike d e = true ∧ isNone d = false ∧ PyData.depth d ≤ 64 ∧ Q (.bl (PySem.W.dataLt d e)) H
theorem op_ltD (hu : X.A.units + 64 < cLine) : OpR X (compareOp .Lt) (rLtD X.K) := by
  intro pins s σ H x y v u Q I rx ry h
  obtain ⟨d, e, hd, he, al, hn, dp, q⟩ := h
  obtain ⟨as, r1⟩ := Dp.reads I d x v hd rx
  obtain ⟨bs, r2⟩ := Dp.reads I e y u he ry
  refine PySem.W.rcLt_alike d e X.A s v u as bs r1 r2 al (fun z => by rw [z] at hn; cases hn) ?_ X.prog X.w X.xe _ ⟨.bl _, H, I, rfl, q⟩
  have := Nat.min_le_left d.depth e.depth
  omega
def cLtD (t u : T) : Option Bool := match t.toD, u.toD with
  | some d, some e => if PySem.W.alike d e = true ∧ isNone d = false ∧ PyData.depth d ≤ 64 then some (PySem.W.dataLt d e) else none
  | _, _ => none
theorem c2_ltD : Cm2 X (rLtD X.K) cLtD := by
  intro F H x y t u Q b s rx ry e q
  unfold cLtD at e
  split at e
  · rename_i d1 d2 e1 e2
    split at e
    · rename_i h; cases e
      exact ⟨d1, d2, (rx.rep s).dp e1, (ry.rep s).dp e2, h.1, h.2.1, h.2.2, q⟩
    · cases e
  · cases e
/-! ### in -/
def T.fl : T → Option V
  | .non => some .non
  | .bl b => some (.bl b)
  | .int i => some (.int i)
  | .str x => some (.str x)
  | _ => none
def fls : List T → Option (List V)
  | [] => some []
  | t :: ts => match t.fl, fls ts with
    | some v, some vs => some (v :: vs)
    | _, _ => none
theorem fl_v {K : PySem.W.Frag} {mg : Str → Option Value} {F : Hp} {v w : V} {t : T} (r : Rep K mg F v t) (e : t.fl = some w) : v = w ∧ flatV w = true := by
  cases r <;> cases e <;> exact ⟨rfl, rfl⟩
theorem fls_v {K : PySem.W.Frag} {mg : Str → Option Value} {F : Hp} : ∀ {vs ws : List V} {ts : List T}, Reps K mg F vs ts → fls ts = some ws → vs = ws ∧ ws.all flatV = true
  | _, _, _, .nil, e => by cases e; exact ⟨rfl, rfl⟩
  | _, _, _, .cons h r, e => by
    simp only [fls] at e
    split at e
    · rename_i k ks e1 e2
      cases e
      obtain ⟨a, b⟩ := fl_v h e1
      obtain ⟨c, d⟩ := fls_v r e2
      subst a; subst c
      exact ⟨rfl, by rw [List.all_cons, b, d]; rfl⟩
    · cases e
theorem o_rep {F H : Hp} {x : V} {t : T} (s : Same F H) (r : RepO X.K X.mg F H x t) : Rep X.K X.mg H x t := r.rep s
def T.items : T → Option (List T)
  | .tup ts => some ts
  | .lst ts => some ts
  | .seq ts => some ts
  | .tsq ts => some ts
  | _ => none
def cInF (neg : Bool) (t u : T) : Option Bool := match t.fl, u.items with
  | some x, some ts => match fls ts with
    | some xs => some (if neg then !inV x xs else inV x xs)
    | none => none
  | _, _ => none
theorem items_sq {F H : Hp} {x : V} {t : T} {ts : List T} (s : Same F H) (r : RepO X.K X.mg F H x t) (e : t.items = some ts) : ∃ p vs, x = .ref p ∧ (SqL X.K H p vs ∨ SqT X.K H p vs) ∧ Reps X.K X.mg F vs ts := by
  cases r <;> cases e
  · rename_i a vs h r; exact ⟨a, vs, rfl, .inr (.of (s _ _ h)), r⟩
  · rename_i a vs h r; exact ⟨a, vs, rfl, .inr (sqT_mono s h), r⟩
  · rename_i a vs h r; exact ⟨a, vs, rfl, .inl (.of h), r⟩
  · rename_i a vs h r; exact ⟨a, vs, rfl, .inl h, r⟩
theorem c2_inF (neg : Bool) : Cm2 X (rIn X.K neg) (cInF neg) := by
  intro F H x y t u Q b s rx ry e q
  unfold cInF at e
  split at e
  · rename_i x' ts e1 e2
    split at e
    · rename_i xs e3
      cases e
      obtain ⟨a, fx⟩ := fl_v (rx.rep s) e1
      obtain ⟨p, vs, ey, sq, r⟩ := items_sq s ry e2
      obtain ⟨c, fa⟩ := fls_v r e3
      subst a; subst c
      exact ⟨p, vs, ey, sq, fx, fa, q⟩
    · cases e
  · cases e
def cInD (neg : Bool) (t u : T) : Option Bool := match t.toD, u.toD with
  | some d, some (.list ds) => if SeqAt.shaped d = true ∧ SeqAt.shaped (.list ds) = true then some (if neg then !(ds.any fun z => PyData.eqv z d) else ds.any fun z => PyData.eqv z d) else none
  | _, _ => none
theorem c2_inD : Cm2 X (rInD X.K) (cInD false) := by
  intro F H x y t u Q b s rx ry e q
  unfold cInD at e
  split at e
  · rename_i d ds e1 e2
    split at e
    · rename_i h; cases e
      exact ⟨d, ds, (rx.rep s).dp e1, (ry.rep s).dp e2, h.1, h.2, q⟩
    · cases e
  · cases e
theorem c2_notInD : Cm2 X (rNotInD X.K) (cInD true) := by
  intro F H x y t u Q b s rx ry e q
  unfold cInD at e
  split at e
  · rename_i d ds e1 e2
    split at e
    · rename_i h; cases e
      exact ⟨d, ds, (rx.rep s).dp e1, (ry.rep s).dp e2, h.1, h.2, q⟩
    · cases e
  · cases e
def cInS (neg : Bool) (t u : T) : Option Bool := match t, u with
  | .str i, .str j => some (if neg then !(!(Builtin.Str.occurrences j i 0 j.length 1).isEmpty) else !(Builtin.Str.occurrences j i 0 j.length 1).isEmpty)
  | _, _ => none
/-- what a dict holds at a key -/
def dGet (d k : T) : Option (Option T) := match d with
  | .dK kvs => k.key.map (valT kvs)
  | .dT kvs => k.keyT.map (valT kvs)
  | _ => none
def ValR (K : PySem.W.Frag) (mg : Str → Option Value) (F : Hp) (o : Option T) (w : Option V) : Prop := (o = none → w = none) ∧ ∀ t, o = some t → ∃ v, w = some v ∧ Rep K mg F v t
theorem dGet_v {F H : Hp} {x y : V} {d k : T} {o : Option T} (s : Same F H) (rx : RepO X.K X.mg F H x d) (ry : RepO X.K X.mg F H y k) (e : dGet d k = some o) :
    ∃ a w, x = .ref a ∧ DGet H a y w ∧ ValR X.K X.mg F o w := by
  unfold dGet at e
  split at e
  · rename_i kvs
    obtain ⟨k', e1, e2⟩ := Option.map_eq_some_iff.mp e
    cases rx with
    | dK h r =>
      have ey := key_v (ry.rep s) e1
      refine ⟨_, _, rfl, .inl ⟨_, k', h, ey, rfl⟩, ?_⟩
      subst e2
      exact r.val
  · rename_i kvs
    obtain ⟨k', e1, e2⟩ := Option.map_eq_some_iff.mp e
    cases rx with
    | dT h r =>
      cases ry with
      | tup hy ry =>
        have ey := keys_v ry e1
        subst ey
        refine ⟨_, _, rfl, .inr ⟨_, k', _, h, rfl, s _ _ hy, rfl⟩, ?_⟩
        subst e2
        exact r.val
      | _ => cases e1
  · cases e
def rInDict (neg : Bool) : R2 := fun y x H Q => ∃ a o, x = .ref a ∧ DGet H a y o ∧ Q (.bl (if neg then !o.isSome else o.isSome)) H
theorem op_inDict (hu : X.A.units + 1 < cLine) : OpR X (compareOp .In) (rInDict false) := by
  intro pins s σ H y x u v Q I ry rx h
  obtain ⟨a, o, rfl, g, q⟩ := h
  cases rx
  exact d_in hu I g ry fun s3 I3 => ⟨.bl o.isSome, H, I3, rfl, q⟩
theorem op_notInDict (hu : X.A.units + 1 < cLine) : OpR X (compareOp .NotIn) (rInDict true) := by
  intro pins s σ H y x u v Q I ry rx h
  obtain ⟨a, o, rfl, g, q⟩ := h
  cases rx
  exact d_notIn hu I g ry fun s3 I3 => ⟨.bl (!o.isSome), H, I3, rfl, q⟩
def cInK (neg : Bool) (k d : T) : Option Bool := (dGet d k).map fun o => if neg then !o.isSome else o.isSome
theorem c2_inK (neg : Bool) : Cm2 X (rInDict neg) (cInK neg) := by
  intro F H y x k d Q b s ry rx e q
  unfold cInK at e
  obtain ⟨o, e1, e2⟩ := Option.map_eq_some_iff.mp e
  obtain ⟨a, w, ex, g, h⟩ := dGet_v s rx ry e1
  refine ⟨a, w, ex, g, ?_⟩
  subst e2
  cases o with
  | none => rw [h.1 rfl]; exact q
  | some t =>
    obtain ⟨v, ev, _⟩ := h.2 t rfl
    rw [ev]; exact q
def orB (g g' : T → T → Option Bool) : T → T → Option Bool := fun t u => match g t u with | some v => some v | none => g' t u
theorem Cm2.orB {r r' : R2} {g g' : T → T → Option Bool} (h : Cm2 X r g) (h' : Cm2 X r' g') : Cm2 X (fun x y H Q => r x y H Q ∨ r' x y H Q) (orB g g') := h.or h'
theorem c2_inS : Cm2 X (fun x y H Q => ∃ i j, x = .str i ∧ y = .str j ∧ Q (.bl (!(Builtin.Str.occurrences j i 0 j.length 1).isEmpty)) H) (cInS false) := by
  intro F H x y t u Q b s rx ry e q
  cases rx with
  | str i => cases ry with
    | str j => cases e; exact ⟨i, j, rfl, rfl, q⟩
    | _ => cases e
  | _ => cases e
theorem c2_notInS : Cm2 X (fun x y H Q => ∃ i j, x = .str i ∧ y = .str j ∧ Q (.bl (!(!(Builtin.Str.occurrences j i 0 j.length 1).isEmpty))) H) (cInS true) := by
  intro F H x y t u Q b s rx ry e q
  cases rx with
  | str i => cases ry with
    | str j => cases e; exact ⟨i, j, rfl, rfl, q⟩
    | _ => cases e
  | _ => cases e
abbrev cIn : T → T → Option Bool := orB (cInF false) (orB (cInK false) (orB (cInD false) (cInS false)))
abbrev cNotIn : T → T → Option Bool := orB (cInF true) (orB (cInK true) (orB (cInD true) (cInS true)))
abbrev cLt : T → T → Option Bool := orB (cI fun i j => decide (i < j)) cLtD
section
variable {a b c : Expr} {fa fb fc : FX.Env → R Vl} {pos : Pos} {k : Nat}
theorem op_inA (hr : Room k X.A) (hu : X.A.units + 65 < cLine) : OpR X (compareOp .In) (fun x y H Q => rIn X.K false x y H Q ∨ rInDict false x y H Q ∨ rInD X.K x y H Q ∨ ∃ i j, x = .str i ∧ y = .str j ∧ Q (.bl (!(Builtin.Str.occurrences j i 0 j.length 1).isEmpty)) H) :=
  op_in_seq.or ((op_inDict (hu_of hr)).or ((op_inD hu).or op_in_str))
theorem op_notInA (hr : Room k X.A) (hu : X.A.units + 65 < cLine) : OpR X (compareOp .NotIn) (fun x y H Q => rIn X.K true x y H Q ∨ rInDict true x y H Q ∨ rNotInD X.K x y H Q ∨ ∃ i j, x = .str i ∧ y = .str j ∧ Q (.bl (!(!(Builtin.Str.occurrences j i 0 j.length 1).isEmpty))) H) :=
  op_notIn_seq.or ((op_notInDict (hu_of hr)).or ((op_notInD hu).or op_notin_str))
theorem c2_in : Cm2 X (fun x y H Q => rIn X.K false x y H Q ∨ rInDict false x y H Q ∨ rInD X.K x y H Q ∨ ∃ i j, x = .str i ∧ y = .str j ∧ Q (.bl (!(Builtin.Str.occurrences j i 0 j.length 1).isEmpty)) H) cIn := (c2_inF false).orB ((c2_inK false).orB (c2_inD.orB c2_inS))
theorem c2_notIn : Cm2 X (fun x y H Q => rIn X.K true x y H Q ∨ rInDict true x y H Q ∨ rNotInD X.K x y H Q ∨ ∃ i j, x = .str i ∧ y = .str j ∧ Q (.bl (!(!(Builtin.Str.occurrences j i 0 j.length 1).isEmpty))) H) cNotIn := (c2_inF true).orB ((c2_inK true).orB (c2_notInD.orB c2_notInS))
theorem Room.u65 (hr : Room k X.A) : X.A.units + 65 < cLine := by have := hr.un; omega
theorem op_ltA (hr : Room k X.A) : OpR X (compareOp .Lt) (fun x y H Q => rI0 (fun i j => .bl (decide (i < j))) x y H Q ∨ rLtD X.K x y H Q) := op_lt.or (op_ltD hr.units)
theorem c2_lt : Cm2 X (fun x y H Q => rI0 (fun i j => .bl (decide (i < j))) x y H Q ∨ rLtD X.K x y H Q) cLt := (c2_I _).orB c2_ltD

/-! ### subscripts -/
def rIxD : R2 := fun x y H Q => ∃ a v, x = .ref a ∧ DGet H a y (some v) ∧ Q v H
theorem ix_dict (hu : X.A.units + 1 < cLine) : IxR X rIxD := by
  intro value slice pins s σ H x y v u Q I rx ry h hs
  obtain ⟨a, z, rfl, g, q⟩ := h
  cases rx
  exact tail_any (dict_typeIs I g) PySem.F.slot_dict_getitem.lookup (d_getItem hu I g ry fun w' s' I' r' => ⟨z, H, I', r', q⟩) hs
def aIxS (ts : List T) (u : T) : Option Nv := match u with
  | .int i => (atI ts i).map .fz
  | _ => none
def aIx (t u : T) : Option Nv := match t with
  | .tup ts => aIxS ts u
  | .lst ts => aIxS ts u
  | .seq ts => aIxS ts u
  | .tsq ts => aIxS ts u
  | .str z => match u with
    | .int i => if z.length ≤ sizeLine then (atI z.cps.toList i).map fun c => .fz (.str ⟨#[c]⟩) else none
    | _ => none
  | _ => match dGet t u with
    | some (some w) => some (.fz w)
    | _ => none
theorem Reps.atI {K : PySem.W.Frag} {mg : Str → Option Value} {F : Hp} {vs : List V} {ts : List T} (r : Reps K mg F vs ts) {i : Int} {t : T} (h : L2.atI ts i = some t) : ∃ v, L2.atI vs i = some v ∧ Rep K mg F v t := by
  unfold L2.atI at h ⊢
  rw [r.length]
  cases e : ixN ts.length i with
  | none => rw [e] at h; cases h
  | some j =>
    rw [e] at h
    exact r.get h
theorem o2_ix : Op2 X (fun x y H Q => rIx X.K x y H Q ∨ rIxD x y H Q) aIx := by
  intro F H x y t u Q s rx ry q
  have seq : ∀ {ts : List T} {vs : List V} {p : Addr}, x = .ref p → (SqL X.K H p vs ∨ SqT X.K H p vs) → Reps X.K X.mg F vs ts → ResP X.K X.mg F H (aIxS ts u) Q → rIx X.K x y H Q := by
    intro ts vs p ex sq r q
    subst ex
    cases ry with
    | int i =>
      cases e : atI ts i with
      | none => simp only [aIxS, e] at q; exact q.elim
      | some w =>
        simp only [aIxS, e] at q
        obtain ⟨v, ev, rv⟩ := r.atI e
        rcases sq with sq | sq
        · exact .inl ⟨p, vs, i, v, rfl, rfl, sq, ev, q.flat s rv⟩
        · exact .inr (.inl ⟨p, vs, i, v, rfl, rfl, sq, ev, q.flat s rv⟩)
    | _ => exact q.elim
  have dic : ResP X.K X.mg F H (match dGet t u with | some (some w) => some (Nv.fz w) | _ => none) Q → rIxD x y H Q := by
    intro q
    split at q
    · rename_i w e
      obtain ⟨a, w', ex, g, hv⟩ := dGet_v s rx ry e
      obtain ⟨v, ev, r⟩ := hv.2 w rfl
      subst ev
      exact ⟨a, v, ex, g, q.flat s r⟩
    · exact q.elim
  cases rx with
  | tup h r => exact .inl (seq rfl (.inr (.of (s _ _ h))) r q)
  | lst h r => exact .inl (seq rfl (.inl (.of h)) r q)
  | seq h r => exact .inl (seq rfl (.inl h) r q)
  | tsq h r => exact .inl (seq rfl (.inr (sqT_mono s h)) r q)
  | str z =>
    cases ry with
    | int i =>
      simp only [aIx] at q
      split at q
      · rename_i hz
        cases e : atI z.cps.toList i with
        | none => rw [e] at q; exact q.elim
        | some c => rw [e] at q; exact .inl (.inr (.inr ⟨z, i, c, rfl, rfl, hz, e, q.flat s (.str _)⟩))
      · exact q.elim
    | _ => exact q.elim
  | non => exact .inr (dic q)
  | bl b => exact .inr (dic q)
  | int i => exact .inr (dic q)
  | dK h r => exact .inr (dic q)
  | dT h r => exact .inr (dic q)
  | ins hc h r => exact .inr (dic q)
  | fn h => exact .inr (dic q)
  | ty n => exact .inr (dic q)
  | dN h r => exact .inr (dic q)
theorem re_ix (hr : Room k X.A) (ha : RE X au W a fa) (hb : RE X au W b fb) (hs : PlainIx b := by exact fun _ _ => rfl) : RE X au W (.Subscript a b pos) (fBin aIx fa fb) :=
  ⟨PE.imp (pe_ix (ix_seq.or (ix_dict (hu_of hr))) ha.pe hb.pe hs) fun σ H Q q => bin_of o2_ix q⟩
end
end
end FX
end

section
set_option Elab.async false
set_option linter.all false
set_option maxRecDepth 100000
set_option maxHeartbeats 4000000
namespace FX
open PySem PySem.Spec PyProof.Rows L2

inductive RepOs (K : PySem.W.Frag) (mg : Str → Option Value) (F H : Hp) : List V → List T → Prop
  | nil : RepOs K mg F H [] []
  | cons {v : V} {t : T} {vs : List V} {ts : List T} (h : RepO K mg F H v t) (r : RepOs K mg F H vs ts) : RepOs K mg F H (v :: vs) (t :: ts)
def looks (ρ : FX.Env) : List Vl → Option (List T)
  | [] => some []
  | v :: vs => match look ρ v, looks ρ vs with
    | some t, some ts => some (t :: ts)
    | _, _ => none
section
variable {X : Cx} {au : Au} {W : WX}
theorem looks_o {ρ : FX.Env} {σ : L2.St} {F H : Hp} (S : SRel X.K X.mg au ρ σ F H) : ∀ {xs : List V} {vs : List Vl} {ts : List T}, VRels X.K X.mg σ F xs vs → looks ρ vs = some ts → RepOs X.K X.mg F H xs ts
  | [], [], _, _, e => by cases e; exact .nil
  | x :: xs, v :: vs, ts, h, e => by
    simp only [looks] at e
    split at e
    · rename_i t ts' e1 e2
      cases e
      exact .cons (look_o (v := v) S h.1 e1) (looks_o S h.2 e2)
    · cases e
  | [], _ :: _, _, h, _ => h.elim
  | _ :: _, [], _, h, _ => h.elim
/-- a call's reading r does what g says -/
def Ca (X : Cx) (r : List V → Hp → VK → Prop) (g : List T → Option Nv) : Prop := ∀ F H xs ts Q, Same F H → RepOs X.K X.mg F H xs ts → ResP X.K X.mg F H (g ts) Q → r xs H Q
def fCB (g : List T → Option Nv) (fa : FX.Env → R (List Vl)) : FX.Env → R Vl := fun ρ => (fa ρ).bind fun vs ρ1 => R.of ((looks ρ1 vs).bind g) ρ1
theorem cb_of {r : List V → Hp → VK → Prop} {g : List T → Option Nv} {fa : FX.Env → R (List Vl)} (hs : Ca X r g) {σ : L2.St} {H : Hp} {Q : VK} (q : tF X au W (VE X) (fCB g fa) σ H Q) : tCB r (tF X au W (VA X) fa) σ H Q := by
  obtain ⟨F, ρ, S, h⟩ := q
  refine ⟨F, ρ, S, Post.bind early_VE h fun xs vs ρ1 F1 H1 e S1 X1 V1 h1 => ?_⟩
  have h1 := res_post S1 h1
  cases e1 : looks ρ1 vs with
  | none => rw [e1] at h1; exact h1.elim
  | some ts => rw [e1] at h1; exact hs F1 H1 xs ts Q S1.sub (looks_o S1 V1 e1) h1
theorem Ca.or {r r' : List V → Hp → VK → Prop} {g g' : List T → Option Nv} (h : Ca X r g) (h' : Ca X r' g') : Ca X (fun xs H Q => r xs H Q ∨ r' xs H Q) (fun ts => match g ts with | some v => some v | none => g' ts) := by
  intro F H xs ts Q s rs q
  dsimp only at q
  cases e : g ts with
  | none => rw [e] at q; exact .inr (h' F H xs ts Q s rs q)
  | some v => rw [e] at q; exact .inl (h F H xs ts Q s rs (by rw [e]; exact q))
section
variable {x : Str} {p pos : Pos} {e : Expr} {es : List Expr} {id Ty : String} {r : List V → Hp → VK → Prop} {g : List T → Option Nv} {fa : FX.Env → R (List Vl)}
theorem re_callB (hc : CallR X (.builtin id) r) (hs : Ca X r g) (hm : X.mg x = none) (hv : bootBuiltins x = some (.builtin id)) (ha : RA X au W (e :: es) fa) (hg : Gl X x := by rfl) (hn : x ≠ "__name__" := by decide) (hdb : (x == ("__debug__" : Str)) = false := by decide)
    (he : starEach (e :: es) X.env = (false, eval e X.env) :: starEach es X.env := by rfl) (hpl : (backTo pos (starEach es X.env)).any (·.1) = false := by rfl) : RE X au W (.Call (.Name x p) (e :: es) [] pos) (fCB g fa) :=
  ⟨PE.imp (pe_callB hc hg hm hv ha.pa hn hdb he hpl) fun σ H Q q => cb_of hs q⟩
theorem re_callTy (hc : CallR X (.type Ty) r) (hs : Ca X r g) (hm : X.mg x = none) (hv : bootBuiltins x = some (.type Ty)) (ha : RA X au W (e :: es) fa) (hg : Gl X x := by rfl) (hn : x ≠ "__name__" := by decide) (hdb : (x == ("__debug__" : Str)) = false := by decide)
    (he : starEach (e :: es) X.env = (false, eval e X.env) :: starEach es X.env := by rfl) (hpl : (backTo pos (starEach es X.env)).any (·.1) = false := by rfl) : RE X au W (.Call (.Name x p) (e :: es) [] pos) (fCB g fa) :=
  ⟨PE.imp (pe_callTy hc hg hm hv ha.pa hn hdb he hpl) fun σ H Q q => cb_of hs q⟩
/-- a built-in type's name -/
theorem re_ty (hm : X.mg x = none) (hv : bootBuiltins x = some (.type Ty)) (hg : Gl X x := by rfl) (hn : x ≠ "__name__" := by decide) (hdb : (x == ("__debug__" : Str)) = false := by decide) : RE X au W (.Name x p) (fC (.ty Ty)) :=
  re_const (v := .ty Ty) (pe_bltn hg hm hv rfl hn hdb) fun _ => .ty _
end

/-! ### len -/
def bLen : List T → Option Nv
  | [.tup ts] => some (.fz (.int ts.length))
  | [.lst ts] => some (.fz (.int ts.length))
  | [.seq ts] => some (.fz (.int ts.length))
  | [.tsq ts] => some (.fz (.int ts.length))
  | [.dK kvs] => some (.fz (.int kvs.length))
  | [.str x] => if x.length ≤ sizeLine then some (.fz (.int x.length)) else none
  | _ => none
def rLenD : List V → Hp → VK → Prop := fun xs H Q => ∃ d kvs, xs = [V.ref d] ∧ Rd H d (.dK kvs) ∧ Q (.int kvs.length) H
theorem call_lenDR : CallR X (.builtin "len") rLenD := by
  intro pins s σ H xs us Q I r h
  obtain ⟨d, kvs, rfl, e, q⟩ := h
  obtain ⟨u, rfl, rx⟩ := vals1 r
  cases rx
  exact d_len I e fun t s' I' => ⟨.int kvs.length, H, I', ⟨_, rfl⟩, q⟩
theorem call_lenA : CallR X (.builtin "len") (fun xs H Q => (∃ x n, xs = [x] ∧ LenV X.K x H n ∧ Q (.int n) H) ∨ rLenD xs H Q) := call_len.or call_lenDR
theorem ca_len : Ca X (fun xs H Q => (∃ x n, xs = [x] ∧ LenV X.K x H n ∧ Q (.int n) H) ∨ rLenD xs H Q) bLen := by
  intro F H xs ts Q s rs q
  cases rs with
  | nil => exact q.elim
  | @cons v t vs ts h r =>
    cases r with
    | cons h' r' => cases t <;> exact q.elim
    | nil =>
      cases h with
      | tup h r => exact .inl ⟨_, _, rfl, .inr ⟨_, .of (s _ _ h), rfl⟩, by rw [r.length]; exact q.flat s (.int _)⟩
      | tsq h r => exact .inl ⟨_, _, rfl, .inr ⟨_, sqT_mono s h, rfl⟩, by rw [r.length]; exact q.flat s (.int _)⟩
      | lst h r => exact .inl ⟨_, _, rfl, .inl ⟨_, .of h, rfl⟩, by rw [r.length]; exact q.flat s (.int _)⟩
      | seq h r => exact .inl ⟨_, _, rfl, .inl ⟨_, h, rfl⟩, by rw [r.length]; exact q.flat s (.int _)⟩
      | dK h r => exact .inr ⟨_, _, rfl, h, by rw [r.length]; exact q.flat s (.int _)⟩
      | str z =>
        simp only [bLen] at q
        split at q
        · rename_i hz; exact .inl ⟨_, _, rfl, ⟨hz, rfl⟩, q.flat s (.int _)⟩
        · exact q.elim
      | _ => exact q.elim
/-! ### isinstance -/
def isiB (a b : String) : Bool := a == b || (a == "bool" && b == "int")
theorem kitB_tab : ∀ a ∈ ["NoneType", "bool", "int", "str", "tuple", "list", "dict"], ∀ b ∈ ["int", "bool", "str", "tuple", "list", "dict"], kitB a b = some (isiB a b) := by decide +kernel
def T.tyn : T → Option String
  | .non => some "NoneType"
  | .bl _ => some "bool"
  | .int _ => some "int"
  | .str _ => some "str"
  | .tup _ => some "tuple"
  | .tsq _ => some "tuple"
  | .lst _ => some "list"
  | .seq _ => some "list"
  | .dK _ => some "dict"
  | _ => none
theorem tyn_x {F H : Hp} {x : V} {t : T} {n : String} (s : Same F H) (r : RepO X.K X.mg F H x t) (e : t.tyn = some n) : TyX X.K H x (.type n) ∧ n ∈ ["NoneType", "bool", "int", "str", "tuple", "list", "dict"] := by
  cases r with
  | non => cases e; exact ⟨.base .non, by decide⟩
  | bl b => cases e; exact ⟨.base (.bl b), by decide⟩
  | int i => cases e; exact ⟨.base (.int i), by decide⟩
  | str z => cases e; exact ⟨.base (.str z), by decide⟩
  | tup h r => cases e; exact ⟨.base (.tup (s _ _ h)), by decide⟩
  | tsq h r =>
    cases e
    rcases h with (h | ⟨o, h⟩) | ⟨o, its, n, h1, h2, _⟩
    · exact ⟨.base (.tup (s _ _ h)), by decide⟩
    · exact ⟨.fTuple (s _ _ h), by decide⟩
    · exact ⟨.kTuple h1 h2, by decide⟩
  | lst h r => cases e; exact ⟨.base (.lst h), by decide⟩
  | seq h r =>
    cases e
    rcases h with (h | ⟨o, h⟩) | ⟨o, its, n, h1, h2, _⟩
    · exact ⟨.base (.lst h), by decide⟩
    · exact ⟨.base (.frz h), by decide⟩
    · exact ⟨.kList h1 h2, by decide⟩
  | dK h r =>
    cases e
    rcases h with h | ⟨o, h⟩
    · exact ⟨.base (.dK h), by decide⟩
    · exact ⟨.fDict h, by decide⟩
  | _ => cases e
def okTy (n : String) : Bool := ["int", "bool", "str", "tuple", "list", "dict"].contains n
def isiT (t : T) (n : String) : Option Bool := match t.tyn with
  | some a => if okTy n = true then some (isiB a n) else none
  | none => none
def isiAny (t : T) : List T → Option Bool
  | [] => some false
  | .ty n :: r => match isiT t n, isiAny t r with
    | some b, some c => some (b || c)
    | _, _ => none
  | _ => none
def bIsi : List T → Option Nv
  | [t, .ty n] => (isiT t n).map fun b => .fz (.bl b)
  | [t, .tup (c :: cs)] => (isiAny t (c :: cs)).map fun b => .fz (.bl b)
  | _ => none
theorem isiT_kit {F H : Hp} {x : V} {t : T} {n : String} {b : Bool} (s : Same F H) (r : RepO X.K X.mg F H x t) (e : isiT t n = some b) : ∃ ty, t.tyn = some ty ∧ TyX X.K H x (.type ty) ∧ PySem.W.kitOne X.K (.type ty) (.type n) = some b := by
  unfold isiT at e
  split at e
  · rename_i a ea
    split at e
    · rename_i hk
      cases e
      obtain ⟨h1, h2⟩ := tyn_x s r ea
      exact ⟨a, ea, h1, kit_ty (kitB_tab a h2 n (by simpa [okTy] using hk))⟩
    · cases e
  · cases e
theorem isiAny_kit {F H : Hp} {x : V} {t : T} {ty : String} (s : Same F H) (r : RepO X.K X.mg F H x t) (ht : t.tyn = some ty) : ∀ {cs : List T} {vs : List V} {b : Bool}, Reps X.K X.mg F vs cs → isiAny t cs = some b → ∃ us, Paired ClsV vs us ∧ PySem.W.kitAny X.K (.type ty) us = some b
  | _, _, _, .nil, e => by cases e; exact ⟨[], .nil, kitAny_nil⟩
  | _, _, _, .cons (t := c) h rs, e => by
    cases c with
    | ty n =>
      simp only [isiAny] at e
      split at e
      · rename_i b1 b2 e1 e2
        cases e
        cases h
        obtain ⟨us, p, k⟩ := isiAny_kit s r ht rs e2
        obtain ⟨ty', et, _, k1⟩ := isiT_kit s r e1
        rw [ht] at et; cases et
        exact ⟨_, .cons (.ty n) p, kitAny_cons k1 (fun hb => by subst hb; exact k) (fun hb => by rw [hb]; rfl)⟩
      · cases e
    | _ => cases e
theorem isi_tyn {t : T} {n : String} {b : Bool} (e : isiT t n = some b) : ∃ ty, t.tyn = some ty := by
  unfold isiT at e
  split at e
  · exact ⟨_, by assumption⟩
  · cases e
theorem call_isiA : CallR X (.builtin "isinstance") (fun xs H Q => rIsi X.K xs H Q ∨ rIsiT X.K xs H Q) := call_isi.or call_isiT
theorem ca_isi : Ca X (fun xs H Q => rIsi X.K xs H Q ∨ rIsiT X.K xs H Q) bIsi := by
  intro F H xs ts Q s rs q
  cases rs with
  | nil => exact q.elim
  | @cons v t vs ts h r =>
    cases r with
    | nil => cases t <;> exact q.elim
    | @cons v2 t2 vs2 ts2 h2 r2 =>
      cases r2 with
      | cons _ _ => cases t2 <;> first | exact q.elim | (rename_i l; cases l <;> exact q.elim)
      | nil =>
        cases h2 with
        | ty n =>
          simp only [bIsi] at q
          cases e : isiT t n with
          | none => rw [e] at q; exact q.elim
          | some b =>
            rw [e] at q
            obtain ⟨ty, _, h3, h4⟩ := isiT_kit s h e
            exact .inl ⟨v, .ty n, _, _, b, rfl, .ty n, h3, h4, q.flat s (.bl _)⟩
        | @tup a us cs ha hr =>
          cases cs with
          | nil => exact q.elim
          | cons c cs =>
            simp only [bIsi] at q
            cases e : isiAny t (c :: cs) with
            | none => rw [e] at q; exact q.elim
            | some b =>
              rw [e] at q
              have ex : ∃ ty, t.tyn = some ty := by
                cases c with
                | ty n =>
                  simp only [isiAny] at e
                  split at e
                  · rename_i b1 b2 e1 e2; exact isi_tyn e1
                  · cases e
                | _ => cases e
              obtain ⟨ty, et⟩ := ex
              obtain ⟨ws, p, k⟩ := isiAny_kit s h et hr e
              exact .inr ⟨v, a, us, _, ws, b, rfl, s _ _ ha, p, (tyn_x s h et).1, k, q.flat s (.bl _)⟩
        | _ => exact q.elim
/-! ### small ones -/
def bInt : List T → Option Nv
  | [.int i] => some (.fz (.int i))
  | [.bl k] => some (.fz (.int (if k then 1 else 0)))
  | _ => none
theorem ca_int : Ca X (fun xs H Q => (∃ i, xs = [.int i] ∧ Q (.int i) H) ∨ ∃ k, xs = [.bl k] ∧ Q (.int (if k then 1 else 0)) H) bInt := by
  intro F H xs ts Q s rs q
  cases rs with
  | nil => exact q.elim
  | @cons v t vs ts h r =>
    cases r with
    | cons _ _ => cases t <;> exact q.elim
    | nil =>
      cases h with
      | int i => exact .inl ⟨i, rfl, q.flat s (.int _)⟩
      | bl b => exact .inr ⟨b, rfl, q.flat s (.int _)⟩
      | _ => exact q.elim
def bAbs : List T → Option Nv
  | [.int i] => some (.fz (.int (if i < 0 then -i else i)))
  | _ => none
theorem ca_abs : Ca X (fun xs H Q => ∃ i, xs = [.int i] ∧ Q (.int (if i < 0 then -i else i)) H) bAbs := by
  intro F H xs ts Q s rs q
  cases rs with
  | nil => exact q.elim
  | @cons v t vs ts h r =>
    cases r with
    | cons _ _ => cases t <;> exact q.elim
    | nil =>
      cases h with
      | int i => exact ⟨i, rfl, q.flat s (.int _)⟩
      | _ => exact q.elim
def bStr : List T → Option Nv
  | [.int i] => if i.natAbs.log2 < 1920 then some (.fz (.str (toString i))) else none
  | _ => none
theorem ca_str : Ca X (fun xs H Q => ∃ i, xs = [.int i] ∧ i.natAbs.log2 < 1920 ∧ Q (.str (toString i)) H) bStr := by
  intro F H xs ts Q s rs q
  cases rs with
  | nil => exact q.elim
  | @cons v t vs ts h r =>
    cases r with
    | cons _ _ => cases t <;> exact q.elim
    | nil =>
      cases h with
      | int i =>
        simp only [bStr] at q
        split at q
        · rename_i hz; exact ⟨i, rfl, hz, q.flat s (.str _)⟩
        · exact q.elim
      | _ => exact q.elim
def bTuple : List T → Option Nv
  | [.tup ts] => some (.fz (.tup ts))
  | [.lst ts] => some (.fz (.tup ts))
  | _ => none
theorem ca_tuple : Ca X (fun xs H Q => ∃ p ys, xs = [.ref p] ∧ ((SqL X.K H p ys ∧ ∀ l, H l = none → Q (.ref l) (upd H l (.tup ys))) ∨ (SqT X.K H p ys ∧ Q (.ref p) H))) bTuple := by
  intro F H xs ts Q s rs q
  cases rs with
  | nil => exact q.elim
  | @cons v t vs ts h r =>
    cases r with
    | cons _ _ => cases t <;> exact q.elim
    | nil =>
      cases h with
      | lst h r => exact ⟨_, _, rfl, .inl ⟨.of h, fun p hp => q.laid s hp (.tup upd_same (Reps.mono (same_upd (s.free hp)) r))⟩⟩
      | tup h r => exact ⟨_, _, rfl, .inr ⟨.of (s _ _ h), q.flat s (.tup h r)⟩⟩
      | _ => exact q.elim
def bList : List T → Option Nv
  | [.tup ts] => some (.own (.lst ts))
  | [.lst ts] => some (.own (.lst ts))
  | [.seq ts] => some (.own (.lst ts))
  | [.tsq ts] => some (.own (.lst ts))
  | _ => none
theorem ca_list : Ca X (fun xs H Q => ∃ p ys, xs = [.ref p] ∧ (SqL X.K H p ys ∨ SqT X.K H p ys) ∧ ∀ l, H l = none → Q (.ref l) (upd H l (.lst ys))) bList := by
  intro F H xs ts Q s rs q
  cases rs with
  | nil => exact q.elim
  | @cons v t vs ts h r =>
    cases r with
    | cons _ _ => cases t <;> exact q.elim
    | nil =>
      cases h with
      | lst h r => exact ⟨_, _, rfl, .inl (.of h), fun p hp => q.made s hp (.lst upd_same r)⟩
      | seq h r => exact ⟨_, _, rfl, .inl h, fun p hp => q.made s hp (.lst upd_same r)⟩
      | tup h r => exact ⟨_, _, rfl, .inr (.of (s _ _ h)), fun p hp => q.made s hp (.lst upd_same r)⟩
      | tsq h r => exact ⟨_, _, rfl, .inr (sqT_mono s h), fun p hp => q.made s hp (.lst upd_same r)⟩
      | _ => exact q.elim
/-! ### lists of truth values, of whole numbers -/
def allBl : List T → Option (List Bool)
  | [] => some []
  | .bl b :: r => (allBl r).map (b :: ·)
  | _ => none
def allInt : List T → Option (List Int)
  | [] => some []
  | .int b :: r => (allInt r).map (b :: ·)
  | _ => none
theorem allBl_v {K : PySem.W.Frag} {mg : Str → Option Value} {F : Hp} : ∀ {vs : List V} {ts : List T} {bs : List Bool}, Reps K mg F vs ts → allBl ts = some bs → vs = bs.map V.bl
  | _, _, _, .nil, e => by cases e; rfl
  | _, _, _, .cons h r, e => by
    cases h with
    | bl b =>
      simp only [allBl, Option.map_eq_some_iff] at e
      obtain ⟨bs, e1, e2⟩ := e; subst e2
      rw [allBl_v r e1]; rfl
    | _ => cases e
theorem allInt_v {K : PySem.W.Frag} {mg : Str → Option Value} {F : Hp} : ∀ {vs : List V} {ts : List T} {bs : List Int}, Reps K mg F vs ts → allInt ts = some bs → vs = bs.map V.int
  | _, _, _, .nil, e => by cases e; rfl
  | _, _, _, .cons h r, e => by
    cases h with
    | int b =>
      simp only [allInt, Option.map_eq_some_iff] at e
      obtain ⟨bs, e1, e2⟩ := e; subst e2
      rw [allInt_v r e1]; rfl
    | _ => cases e
def bAll : List T → Option Nv
  | [.lst ts] => (allBl ts).map fun bs => .fz (.bl (bs.all id))
  | _ => none
def bAny : List T → Option Nv
  | [.lst ts] => (allBl ts).map fun bs => .fz (.bl (bs.any id))
  | _ => none
def bSum : List T → Option Nv
  | [.lst ts] => (allInt ts).map fun bs => .fz (.int bs.sum)
  | _ => none
theorem ca_all : Ca X (rAll X.K) bAll := by
  intro F H xs ts Q s rs q
  cases rs with
  | nil => exact q.elim
  | @cons v t vs ts h r =>
    cases r with
    | cons _ _ => cases t <;> exact q.elim
    | nil =>
      cases h with
      | @lst a vs ts h r =>
        simp only [bAll] at q
        cases e : allBl ts with
        | none => rw [e] at q; exact q.elim
        | some bs =>
          rw [e] at q
          have ev := allBl_v r e
          subst ev
          exact ⟨_, bs, rfl, .of h, q.flat s (.bl _)⟩
      | _ => exact q.elim
theorem ca_any : Ca X (rAny X.K) bAny := by
  intro F H xs ts Q s rs q
  cases rs with
  | nil => exact q.elim
  | @cons v t vs ts h r =>
    cases r with
    | cons _ _ => cases t <;> exact q.elim
    | nil =>
      cases h with
      | @lst a vs ts h r =>
        simp only [bAny] at q
        cases e : allBl ts with
        | none => rw [e] at q; exact q.elim
        | some bs =>
          rw [e] at q
          have ev := allBl_v r e
          subst ev
          exact ⟨_, bs, rfl, .of h, q.flat s (.bl _)⟩
      | _ => exact q.elim
theorem ca_sum : Ca X (rSum X.K) bSum := by
  intro F H xs ts Q s rs q
  cases rs with
  | nil => exact q.elim
  | @cons v t vs ts h r =>
    cases r with
    | cons _ _ => cases t <;> exact q.elim
    | nil =>
      cases h with
      | @lst a vs ts h r =>
        simp only [bSum] at q
        cases e : allInt ts with
        | none => rw [e] at q; exact q.elim
        | some bs =>
          rw [e] at q
          have ev := allInt_v r e
          subst ev
          exact ⟨_, bs, rfl, .of h, q.flat s (.int _)⟩
      | _ => exact q.elim
/-! ### data that are what they look like -/
mutual
def T.cD : T → Option PyData
  | .non => some .none
  | .bl b => some (.bool b)
  | .int i => some (.int i)
  | .str x => some (.str x)
  | .tup ts => (cDs ts).map .tuple
  | .lst ts => (cDs ts).map .list
  | .seq _ => none
  | .tsq _ => none
  | .dK _ => none
  | .dT _ => none
  | .ins _ _ => none
  | .fn _ => none
  | .ty _ => none
  | .dN _ => none
def cDs : List T → Option (List PyData)
  | [] => some []
  | t :: ts => match t.cD, cDs ts with
    | some d, some ds => some (d :: ds)
    | _, _ => none
end
mutual
def ofD : PyData → T
  | .none => .non
  | .bool b => .bl b
  | .int i => .int i
  | .str x => .str x
  | .tuple ds => .tup (ofDs ds)
  | .list ds => .lst (ofDs ds)
  | .dict _ => .non
def ofDs : List PyData → List T
  | [] => []
  | d :: ds => ofD d :: ofDs ds
end
mutual
theorem cD_of : ∀ {t : T} {d : PyData}, t.cD = some d → t = ofD d ∧ t.toD = some d
  | .non, _, e => by simp only [T.cD, Option.some.injEq] at e; subst e; exact ⟨rfl, rfl⟩
  | .bl b, _, e => by simp only [T.cD, Option.some.injEq] at e; subst e; exact ⟨rfl, rfl⟩
  | .int b, _, e => by simp only [T.cD, Option.some.injEq] at e; subst e; exact ⟨rfl, rfl⟩
  | .str b, _, e => by simp only [T.cD, Option.some.injEq] at e; subst e; exact ⟨rfl, rfl⟩
  | .tup ts, _, e => by
    simp only [T.cD, Option.map_eq_some_iff] at e
    obtain ⟨ds, e1, e2⟩ := e; subst e2
    obtain ⟨a, b⟩ := cDs_of e1
    exact ⟨by rw [a]; rfl, by simp only [T.toD, b, Option.map_some]⟩
  | .lst ts, _, e => by
    simp only [T.cD, Option.map_eq_some_iff] at e
    obtain ⟨ds, e1, e2⟩ := e; subst e2
    obtain ⟨a, b⟩ := cDs_of e1
    exact ⟨by rw [a]; rfl, by simp only [T.toD, b, Option.map_some]⟩
  | .seq _, _, e => by simp [T.cD] at e
  | .tsq _, _, e => by simp [T.cD] at e
  | .dK _, _, e => by simp [T.cD] at e
  | .dT _, _, e => by simp [T.cD] at e
  | .ins _ _, _, e => by simp [T.cD] at e
  | .fn _, _, e => by simp [T.cD] at e
  | .ty _, _, e => by simp [T.cD] at e
  | .dN _, _, e => by simp [T.cD] at e
theorem cDs_of : ∀ {ts : List T} {ds : List PyData}, cDs ts = some ds → ts = ofDs ds ∧ toDs ts = some ds
  | [], _, e => by simp only [cDs, Option.some.injEq] at e; subst e; exact ⟨rfl, rfl⟩
  | t :: ts, _, e => by
    simp only [cDs] at e
    split at e
    · rename_i d ds e1 e2
      cases e
      obtain ⟨a, b⟩ := cD_of e1
      obtain ⟨c, d'⟩ := cDs_of e2
      exact ⟨by rw [a, c]; rfl, by simp only [toDs, b, d']⟩
    · cases e
end
theorem ofDs_map : ∀ ds : List PyData, ofDs ds = ds.map ofD
  | [] => rfl
  | d :: ds => by rw [ofDs, ofDs_map ds]; rfl
/-- they can be put in order -/
def okOrd (ds : List PyData) : Bool := (ds.all fun x => ds.all fun y => PySem.W.alike x y) && (ds.all fun x => !isNone x) && decide (PyData.depthAll ds ≤ 60)
theorem okOrd_alike {ds : List PyData} (h : okOrd ds = true) : PySem.W.AlikeAll ds ∧ PyData.depthAll ds ≤ 60 := by
  simp only [okOrd, Bool.and_eq_true, List.all_eq_true, decide_eq_true_eq] at h
  refine ⟨⟨fun x hx y hy => h.1.1 x hx y hy, fun x hx e => ?_⟩, h.2⟩
  have := h.1.2 x hx
  rw [e] at this
  cases this
def bMin : List T → Option Nv
  | [.lst ts] => match cDs ts with
    | some (d :: ds) => if okOrd (d :: ds) = true then some (.fz (ofD (PySem.W.minD d ds))) else none
    | _ => none
  | [.int i, .int j] => some (.fz (.int (if j < i then j else i)))
  | _ => none
def bMax : List T → Option Nv
  | [.lst ts] => match cDs ts with
    | some (d :: ds) => if okOrd (d :: ds) = true then some (.fz (ofD (PySem.W.maxD d ds))) else none
    | _ => none
  | [.int i, .int j] => some (.fz (.int (if j > i then j else i)))
  | _ => none
/-- min of a list: the first least item itself -/
def rMinD (K : PySem.W.Frag) : List V → Hp → VK → Prop := fun vs H Q => ∃ (a : Addr) (xs : List V) (d : PyData) (ds : List PyData), vs = [V.ref a] ∧ H a = some (.lst xs) ∧ DpAll K H xs (d :: ds) ∧ okOrd (d :: ds) = true ∧
  ∀ (i : Nat) (x : V), xs[i]? = some x → (d :: ds)[i]? = some (PySem.W.minD d ds) → Q x H
def rMaxD (K : PySem.W.Frag) : List V → Hp → VK → Prop := fun vs H Q => ∃ (a : Addr) (xs : List V) (d : PyData) (ds : List PyData), vs = [V.ref a] ∧ H a = some (.lst xs) ∧ DpAll K H xs (d :: ds) ∧ okOrd (d :: ds) = true ∧
  ∀ (i : Nat) (x : V), xs[i]? = some x → (d :: ds)[i]? = some (PySem.W.maxD d ds) → Q x H
theorem vals_at {vs : List V} {us : List Value} (r : Vals vs us) {i : Nat} {u : Value} (h : us[i]? = some u) : ∃ v, vs[i]? = some v ∧ RelV v u := by
  have hl := r.length
  have hi : i < us.length := (List.getElem?_eq_some_iff.mp h).1
  obtain ⟨u', e1, e2⟩ := r.get (i := i) (x := vs[i]'(by omega)) (by simp)
  rw [h] at e1; cases e1
  exact ⟨_, by simp, e2⟩
theorem minD_mem : ∀ (ds : List PyData) (d : PyData), PySem.W.minD d ds ∈ d :: ds
  | [], d => by simp [PySem.W.minD]
  | e :: ds, d => by
    have h := minD_mem ds (if PySem.W.dataLt e d then e else d)
    have e1 : PySem.W.minD d (e :: ds) = PySem.W.minD (if PySem.W.dataLt e d then e else d) ds := rfl
    rw [e1]
    rcases List.mem_cons.mp h with h | h
    · rw [h]; split <;> simp
    · exact List.mem_cons_of_mem _ (List.mem_cons_of_mem _ h)
theorem maxD_mem : ∀ (ds : List PyData) (d : PyData), PySem.W.maxD d ds ∈ d :: ds
  | [], d => by simp [PySem.W.maxD]
  | e :: ds, d => by
    have h := maxD_mem ds (if PySem.W.dataLt d e then e else d)
    have e1 : PySem.W.maxD d (e :: ds) = PySem.W.maxD (if PySem.W.dataLt d e then e else d) ds := rfl
    rw [e1]
    rcases List.mem_cons.mp h with h | h
    · rw [h]; split <;> simp
    · exact List.mem_cons_of_mem _ (List.mem_cons_of_mem _ h)
theorem cr_minD {k : Nat} (hr : Room k X.A) (hc : X.calm = true) : CallR X (.builtin "min") (rMinD X.K) := by
  intro pins s σ H xs us Q I r h
  obtain ⟨a, vs, d, ds, rfl, ha, hd, ok, q⟩ := h
  obtain ⟨u, rfl, rx⟩ := vals1 r
  cases rx
  obtain ⟨al, dp⟩ := okOrd_alike ok
  obtain ⟨its, rv, pl, _⟩ := I.list (.of ha)
  obtain ⟨as, hrd⟩ := Dp.readsAll I (d :: ds) _ its hd rv
  have hu := hr.un
  refine PySem.W.min_list_data (I.ok.hd hc) pl.isList (x := d) (xs := ds) (as := as) (by simpa using hrd) al (by show X.A.units + 1 + _ < _; omega) fun i v h' tk bs hv rd kk => ?_
  have hv' : its[i]? = some v := by simpa using hv
  obtain ⟨x, hx, rxv⟩ := vals_at rv hv'
  have I' : Inv X pins σ H { s with heap := h', toks := tk } := I.kept kk
  refine ⟨x, H, I', rxv, q i x hx ?_⟩
  obtain ⟨bs', r1, hi, m1, _⟩ := PySem.W.readsAll_at (by simpa using hrd) i v hv'
  have r2 := PySem.W.reads_keeps kk r1
  have e := PySem.W.alike_unique _ _ _ _ _ (al.1 _ m1 _ (minD_mem ds d)) r2 rd
  rw [← e, List.getD_eq_getElem?_getD]
  cases q2 : (d :: ds)[i]? with
  | none => rw [List.getElem?_eq_none_iff] at q2; omega
  | some z => rfl
theorem cr_maxD {k : Nat} (hr : Room k X.A) (hc : X.calm = true) : CallR X (.builtin "max") (rMaxD X.K) := by
  intro pins s σ H xs us Q I r h
  obtain ⟨a, vs, d, ds, rfl, ha, hd, ok, q⟩ := h
  obtain ⟨u, rfl, rx⟩ := vals1 r
  cases rx
  obtain ⟨al, dp⟩ := okOrd_alike ok
  obtain ⟨its, rv, pl, _⟩ := I.list (.of ha)
  obtain ⟨as, hrd⟩ := Dp.readsAll I (d :: ds) _ its hd rv
  have hu := hr.un
  refine PySem.W.max_list_data (I.ok.hd hc) pl.isList (x := d) (xs := ds) (as := as) (by simpa using hrd) al (by show X.A.units + 1 + _ < _; omega) fun i v h' tk bs hv rd kk => ?_
  have hv' : its[i]? = some v := by simpa using hv
  obtain ⟨x, hx, rxv⟩ := vals_at rv hv'
  have I' : Inv X pins σ H { s with heap := h', toks := tk } := I.kept kk
  refine ⟨x, H, I', rxv, q i x hx ?_⟩
  obtain ⟨bs', r1, hi, m1, _⟩ := PySem.W.readsAll_at (by simpa using hrd) i v hv'
  have r2 := PySem.W.reads_keeps kk r1
  have e := PySem.W.alike_unique _ _ _ _ _ (al.1 _ m1 _ (maxD_mem ds d)) r2 rd
  rw [← e, List.getD_eq_getElem?_getD]
  cases q2 : (d :: ds)[i]? with
  | none => rw [List.getElem?_eq_none_iff] at q2; omega
  | some z => rfl

theorem cDs_get : ∀ {ts : List T} {ds : List PyData}, cDs ts = some ds → ∀ {i : Nat} {d : PyData}, ds[i]? = some d → ts[i]? = some (ofD d)
  | ts, ds, e, i, d, h => by
    rw [(cDs_of e).1, ofDs_map, List.getElem?_map, h]
    rfl
theorem call_minA {k : Nat} (hr : Room k X.A) (hc : X.calm = true) : CallR X (.builtin "min") (fun xs H Q => rMinD X.K xs H Q ∨ ∃ i j, xs = [.int i, .int j] ∧ Q (.int (if j < i then j else i)) H) := (cr_minD hr hc).or (call_min2 hc)
theorem call_maxA {k : Nat} (hr : Room k X.A) (hc : X.calm = true) : CallR X (.builtin "max") (fun xs H Q => rMaxD X.K xs H Q ∨ ∃ i j, xs = [.int i, .int j] ∧ Q (.int (if j > i then j else i)) H) := (cr_maxD hr hc).or (call_max2 hc)
theorem ca_min : Ca X (fun xs H Q => rMinD X.K xs H Q ∨ ∃ i j, xs = [.int i, .int j] ∧ Q (.int (if j < i then j else i)) H) bMin := by
  intro F H xs ts Q s rs q
  cases rs with
  | nil => exact q.elim
  | @cons v t vs ts h r =>
    cases r with
    | @cons v2 t2 vs2 ts2 h2 r2 =>
      cases r2 with
      | cons _ _ => cases t <;> first | exact q.elim | (cases t2 <;> exact q.elim)
      | nil =>
        cases h with
        | int i => cases h2 with
          | int j => exact .inr ⟨i, j, rfl, q.flat s (.int _)⟩
          | _ => exact q.elim
        | _ => exact q.elim
    | nil =>
      cases h with
      | @lst a vs ts h r =>
        simp only [bMin] at q
        split at q
        · rename_i d ds e
          split at q
          · rename_i ok
            refine .inl ⟨_, vs, d, ds, rfl, h, (Reps.mono s r).dp (cDs_of e).2, ok, fun i x hx hd => ?_⟩
            obtain ⟨t, e1, r1⟩ := r.get' hx
            rw [cDs_get e hd] at e1
            cases e1
            exact q.flat s r1
          · exact q.elim
        · exact q.elim
      | _ => exact q.elim
theorem ca_max : Ca X (fun xs H Q => rMaxD X.K xs H Q ∨ ∃ i j, xs = [.int i, .int j] ∧ Q (.int (if j > i then j else i)) H) bMax := by
  intro F H xs ts Q s rs q
  cases rs with
  | nil => exact q.elim
  | @cons v t vs ts h r =>
    cases r with
    | @cons v2 t2 vs2 ts2 h2 r2 =>
      cases r2 with
      | cons _ _ => cases t <;> first | exact q.elim | (cases t2 <;> exact q.elim)
      | nil =>
        cases h with
        | int i => cases h2 with
          | int j => exact .inr ⟨i, j, rfl, q.flat s (.int _)⟩
          | _ => exact q.elim
        | _ => exact q.elim
    | nil =>
      cases h with
      | @lst a vs ts h r =>
        simp only [bMax] at q
        split at q
        · rename_i d ds e
          split at q
          · rename_i ok
            refine .inl ⟨_, vs, d, ds, rfl, h, (Reps.mono s r).dp (cDs_of e).2, ok, fun i x hx hd => ?_⟩
            obtain ⟨t, e1, r1⟩ := r.get' hx
            rw [cDs_get e hd] at e1
            cases e1
            exact q.flat s r1
          · exact q.elim
        · exact q.elim
      | _ => exact q.elim
end
end FX
end

section
set_option Elab.async false
set_option linter.all false
set_option maxRecDepth 100000
set_option maxHeartbeats 4000000
namespace FX
open PySem PySem.Spec PyProof.Rows L2
section
variable {X : Cx} {au : Au} {W : WX}
/-! ### sorted -/
def isTupC : PyData → Bool
  | .tuple (_ :: _) => true
  | _ => false
def isFlatK : PyData → Bool
  | .none => false
  | .tuple _ => false
  | _ => true
def okSort (ds : List PyData) : Bool := okOrd ds && (ds.all isTupC || ds.all isFlatK)
abbrev sortD (ds : List PyData) : List PyData := ds.mergeSort (PySem.W.dataLe false id)
theorem okSort_s {ds : List PyData} (h : okSort ds = true) : PySem.W.AllAlike ds ∧ PySem.W.Sortable ds ∧ PyData.depthAll ds ≤ 60 := by
  simp only [okSort, Bool.and_eq_true, Bool.or_eq_true, List.all_eq_true] at h
  obtain ⟨h1, h2⟩ := h
  obtain ⟨al, dp⟩ := okOrd_alike h1
  refine ⟨fun d hd d' hd' => al.1 d hd d' hd', ?_, dp⟩
  rcases h2 with h2 | h2
  · refine .inl fun d hd => ?_
    have := h2 d hd
    unfold isTupC at this
    split at this
    · exact ⟨_, _, rfl⟩
    · cases this
  · refine .inr fun d hd => ⟨fun e => ?_, fun xs e => ?_⟩
    · have := h2 d hd; rw [e] at this; cases this
    · have := h2 d hd; rw [e] at this; cases this
theorem depth_mem : ∀ {ds : List PyData} {d : PyData}, d ∈ ds → d.depth ≤ PyData.depthAll ds
  | d :: ds, e, h => by
    rcases List.mem_cons.mp h with h | h
    · subst h; exact Nat.le_max_left _ _
    · exact Nat.le_trans (depth_mem h) (Nat.le_max_right _ _)
def rSortedD (K : PySem.W.Frag) : List V → Hp → VK → Prop := fun vs H Q => ∃ (a : Addr) (xs : List V) (ds : List PyData), vs = [V.ref a] ∧ SqL K H a xs ∧ DpAll K H xs ds ∧ okSort ds = true ∧
  ∀ (ys : List V) (p : Addr), H p = none → PySem.W.EachIs (fun y d => (y, d) ∈ xs.zip ds) ys (sortD ds) → Q (.ref p) (upd H p (.lst ys))
theorem each_zip {L : List (V × PyData)} : ∀ {xs : List V} {its : List Value} {ds : List PyData}, Vals xs its → xs.length = ds.length → (∀ p ∈ xs.zip ds, p ∈ L) → PySem.W.EachIs (fun u d => ∃ v, RelV v u ∧ (v, d) ∈ L) its ds
  | _, _, [], .nil, _, _ => .nil
  | _, _, [], .cons _ _, h, _ => by simp at h
  | _, _, _ :: _, .nil, h, _ => by simp at h
  | _, _, d :: ds, .cons r rs, h, k => .cons ⟨_, r, k _ (by simp)⟩ (each_zip rs (by simpa using h) fun p hp => k p (by simp [hp]))
theorem each_ys {L : List (V × PyData)} : ∀ {out : List Value} {es : List PyData}, PySem.W.EachIs (fun u d => ∃ v, RelV v u ∧ (v, d) ∈ L) out es → ∃ ys, Vals ys out ∧ PySem.W.EachIs (fun y d => (y, d) ∈ L) ys es
  | _, _, .nil => ⟨[], .nil, .nil⟩
  | _, _, .cons h r => by
    obtain ⟨v, r1, m⟩ := h
    obtain ⟨ys, a, b⟩ := each_ys r
    exact ⟨v :: ys, .cons r1 a, .cons m b⟩
theorem each_reads {h : Heap} : ∀ {vs : List Value} {ds : List PyData} {as : List Addr}, ReadsAll h vs ds as → PySem.W.EachIs (fun v b => ∃ as, Reads h v (id b) as) vs ds
  | _, _, _, .nil => .nil
  | _, _, _, .cons r rs => .cons ⟨_, r⟩ (each_reads rs)
theorem dpAll_length {K : PySem.W.Frag} {H : Hp} : ∀ {xs : List V} {ds : List PyData}, DpAll K H xs ds → xs.length = ds.length
  | _, _, .nil => rfl
  | _, _, .cons _ r => by simp [dpAll_length r]
theorem cr_sortedD {k : Nat} (hr : Room k X.A) : CallR X (.builtin "sorted") (rSortedD X.K) := by
  intro pins s σ H vs us Q I r h
  obtain ⟨a, xs, ds, rfl, hs, hd, ok, q⟩ := h
  obtain ⟨its, rv, hl, hz⟩ := I.list hs
  rw [Vals.ref1 r]
  obtain ⟨al, so, dp⟩ := okSort_s ok
  obtain ⟨as, hrd⟩ := Dp.readsAll I ds _ its hd rv
  have hlen := dpAll_length hd
  have hu := hr.un
  refine PySem.W.sorted_data (enc := id) (bs := ds) (R := fun u d => ∃ v, RelV v u ∧ (v, d) ∈ xs.zip ds) hl.isList (each_zip rv hlen fun p hp => hp) (each_reads hrd) (by simpa using al) (by simpa using so) (by rw [← hlen]; exact hz) (fun b hb => ?_) fun out ho eo => ?_
  · have := depth_mem hb
    show X.A.units + 2 + b.depth < cLine
    omega
  · obtain ⟨ys, v1, e1⟩ := each_ys eo
    obtain ⟨ep, he'⟩ := PyProof.Rows.sortedAll_at s.heap its out.toArray
    refine ⟨.ref _, upd H (s.heap.objs.size + 1) (.lst ys), I.laid (t' := s.toks) (fun _ _ => PyProof.Rows.sortedAll_old) (Nat.le_succ _) ⟨by rw [v1.length, ho, ← hlen]; exact hz, out, ep, v1, he'⟩, rfl, q _ _ (I.hok.fresh (Nat.le_succ _)) e1⟩
def bSorted : List T → Option Nv
  | [.lst ts] => match cDs ts with
    | some ds => if okSort ds = true then some (.own (.lst (ofDs (sortD ds)))) else none
    | _ => none
  | [.tup _] => none
  | _ => none
theorem reps_zip {K : PySem.W.Frag} {mg : Str → Option Value} {F : Hp} : ∀ {xs : List V} {ds : List PyData}, Reps K mg F xs (ofDs ds) → ∀ {y : V} {d : PyData}, (y, d) ∈ xs.zip ds → Rep K mg F y (ofD d)
  | [], _, _, _, _, h => by simp at h
  | _ :: _, [], _, _, _, h => by simp at h
  | x :: xs, e :: ds, r, y, d, h => by
    cases r with
    | cons r1 r2 =>
      rw [List.zip_cons_cons] at h
      rcases List.mem_cons.mp h with h | h
      · cases h; exact r1
      · exact reps_zip r2 h
theorem each_reps {K : PySem.W.Frag} {mg : Str → Option Value} {F : Hp} {L : List (V × PyData)} (hL : ∀ {y : V} {d : PyData}, (y, d) ∈ L → Rep K mg F y (ofD d)) : ∀ {ys : List V} {es : List PyData}, PySem.W.EachIs (fun y d => (y, d) ∈ L) ys es → Reps K mg F ys (ofDs es)
  | _, _, .nil => .nil
  | _, _, .cons h r => .cons (hL h) (each_reps hL r)
theorem ca_sorted : Ca X (rSortedD X.K) bSorted := by
  intro F H xs ts Q s rs q
  cases rs with
  | nil => exact q.elim
  | @cons v t vs ts h r =>
    cases r with
    | cons _ _ => cases t <;> exact q.elim
    | nil =>
      cases h with
      | @lst a vs ts h r =>
        simp only [bSorted] at q
        split at q
        · rename_i ds e
          split at q
          · rename_i ok
            refine ⟨_, vs, ds, rfl, .of h, (Reps.mono s r).dp (cDs_of e).2, ok, fun ys p hp he => ?_⟩
            have r' : Reps X.K X.mg F vs (ofDs ds) := by rw [← (cDs_of e).1]; exact r
            exact q.made s hp (.lst upd_same (each_reps (fun hy => reps_zip r' hy) he))
          · exact q.elim
        · exact q.elim
      | _ => exact q.elim
/-! ### slices -/
structure RO (X : Cx) (au : Au) (W : WX) (e : Option Expr) (f : FX.Env → R (Option Int)) : Prop where
  po : PO X e (tF X au W (fun _ _ _ _ _ a b => a = b) f)
theorem PO.imp {e : Option Expr} {t t' : TO} (h : PO X e t) (i : ∀ σ H Q, t' σ H Q → t σ H Q) : PO X e t' := ⟨fun pins s σ H Q I q => h.run pins s σ H Q I (i σ H Q q)⟩
def fNone : FX.Env → R (Option Int) := fun ρ => .ok none ρ
def fSome (f : FX.Env → R Vl) : FX.Env → R (Option Int) := fun ρ => (f ρ).norm.bind fun v ρ1 => match v with
  | .fz (.int i) => .ok (some i) ρ1
  | _ => .stuck
theorem ro_none : RO X au W none fNone := ⟨PO.imp po_none fun σ H Q ⟨F, ρ, S, h⟩ => h none F H S (Xt.refl _ _ _ _) rfl⟩
theorem ro_some {e : Expr} {f : FX.Env → R Vl} (he : RE X au W e f) : RO X au W (some e) (fSome f) := by
  refine ⟨PO.imp (po_some he.pe) fun σ H Q ⟨F, ρ, S, h⟩ => ?_⟩
  refine ⟨F, ρ, S, Post.bindN (fun _ _ _ _ _ _ _ _ _ h => h) h fun x v ρ1 F1 H1 S1 X1 V1 h1 => ?_⟩
  split at h1
  · rename_i i
    cases (show Rep X.K X.mg F1 x (.int i) from V1)
    exact ⟨i, rfl, h1 _ F1 H1 S1 (Xt.refl _ _ _ _) rfl⟩
  · exact h1.elim
def cutT (ts : List T) (lo hi : Option Int) : List T := (ts.drop (HT.sIx ts.length 0 lo)).take (HT.sIx ts.length ts.length hi - HT.sIx ts.length 0 lo)
def aCut (t : T) (lo hi : Option Int) : Option Nv := match t with
  | .lst ts => some (.own (.lst (cutT ts lo hi)))
  | .tup ts => some (.fz (.tup (cutT ts lo hi)))
  | _ => none
def fCut (fa : FX.Env → R Vl) (fl fh : FX.Env → R (Option Int)) : FX.Env → R Vl := fun ρ => (fa ρ).norm.bind fun v ρ1 => (fl ρ1).bind fun lo ρ2 => (fh ρ2).bind fun hi ρ3 => R.of ((look ρ3 v).bind fun t => aCut t lo hi) ρ3
theorem Reps.cut {K : PySem.W.Frag} {mg : Str → Option Value} {F : Hp} {vs : List V} {ts : List T} (r : Reps K mg F vs ts) (lo hi : Option Int) : Reps K mg F (cutV vs lo hi) (cutT ts lo hi) := by
  unfold cutV cutT
  rw [r.length]
  exact (r.drop _).take _
theorem early_eq {α : Type} : Early (fun (_ : FX.Env) (_ : L2.St) (_ _ _ : Hp) (a b : α) => a = b) := fun _ _ _ _ _ _ _ _ _ h => h
theorem re_cut {e : Expr} {lo hi : Option Expr} {fa : FX.Env → R Vl} {fl fh : FX.Env → R (Option Int)} {p2 pos : Pos} (he : RE X au W e fa) (hl : RO X au W lo fl) (hh : RO X au W hi fh) : RE X au W (.Subscript e (.Slice lo hi none p2) pos) (fCut fa fl fh) := by
  refine ⟨PE.imp (pe_slice (sl_list.or sl_tupA) he.pe hl.po hh.po) fun σ H Q ⟨F, ρ, S, h⟩ => ?_⟩
  refine ⟨F, ρ, S, Post.bindN early_VE h fun x v ρ1 F1 H1 S1 X1 V1 h1 => ⟨F1, ρ1, S1, Post.bind early_VE h1 fun l l' ρ2 F2 H2 e2 S2 X2 V2 h2 => ⟨F2, ρ2, S2, Post.bind early_VE h2 fun u u' ρ3 F3 H3 e3 S3 X3 V3 h3 => ?_⟩⟩⟩
  have V2 : l = l' := V2
  have V3 : u = u' := V3
  subst V2 V3
  have hx := (V1.mono X2.ff).mono X3.ff
  have q := res_post S3 h3
  cases e1 : look ρ3 v with
  | none => rw [e1] at q; exact q.elim
  | some t =>
    rw [e1] at q
    have q : ResP X.K X.mg F3 H3 (aCut t l u) Q := q
    cases look_o S3 hx e1 with
    | lst h r => exact .inl ⟨_, _, rfl, .of h, fun p hp => q.made S3.sub hp (.lst upd_same (r.cut l u))⟩
    | @tup a vs ts h r =>
      refine .inr ⟨_, _, rfl, .of (S3.sub _ _ h), fun hw => ?_, fun hw p hp => q.laid S3.sub hp (.tup upd_same (Reps.mono (same_upd (S3.sub.free hp)) (r.cut l u)))⟩
      have ec : cutT ts l u = ts := by
        unfold cutT
        rw [← r.length, hw.1, hw.2]
        simp [r.length]
      have q : Q (.ref a) H3 := (show ResP X.K X.mg F3 H3 (some (.fz (.tup (cutT ts l u)))) Q from q).flat S3.sub (by rw [ec]; exact .tup h r)
      exact q
    | _ => exact q.elim
end
end FX
end

section
set_option Elab.async false
set_option linter.all false
set_option maxRecDepth 100000
set_option maxHeartbeats 4000000
namespace FX
open PySem PySem.Spec PyProof.Rows L2

/-! ### slots stored -/
theorem tabs_upd {T : List (Addr × Str)} {H : Hp} {a : Addr} {o o' : HO} (t : LamX.Tabs T H) (h : H a = some o) (n1 : ∀ ps, o ≠ .tbl ps) (n2 : ∀ φ, o ≠ .ext φ) : LamX.Tabs T (upd H a o') := fun p hp => by
  obtain ⟨ps, h1, h2, h3⟩ := t p hp
  refine ⟨ps, ?_, h2, fun pos cv hc => ?_⟩
  · rw [upd_ne (fun e => n1 ps (by rw [e, h] at h1; exact (Option.some.inj h1)))]; exact h1
  · obtain ⟨c, e1, e2⟩ := h3 pos cv hc
    refine ⟨c, e1, ?_⟩
    rw [upd_ne (fun e => by rw [e, h] at e2; exact n2 _ (Option.some.inj e2))]
    exact e2
section
variable {K : PySem.W.Frag} {mg : Str → Option Value} {au : Au} {ρ : FX.Env} {σ : L2.St} {F F' H H' : Hp}
theorem SRel.set_fz (S : SRel K mg au ρ σ F H) {x : V} {t : T} (r : Rep K mg F x t) (i : Nat) : SRel K mg au (ρ.set i (.fz t)) (σ.set i (some x)) F H ∧ ∀ b, OwnA (ρ.set i (.fz t)) (σ.set i (some x)) b → OwnA ρ σ b := by
  have ow : ∀ {j : Nat} {k : Option Nat} {t' : T} {a : Addr}, (ρ.set i (.fz t))[j]? = some (.own k t') → (σ.set i (some x))[j]? = some (some (.ref a)) → ρ[j]? = some (.own k t') ∧ σ[j]? = some (some (.ref a)) := by
    intro j k t' a h1 h2
    rcases set_get h1 with ⟨_, z⟩ | ⟨ne, h1⟩
    · cases z
    · rcases set_get h2 with ⟨z, _⟩ | ⟨_, h2⟩
      · exact absurd z ne
      · exact ⟨h1, h2⟩
  refine ⟨⟨S.sub, S.nw, S.tabs, by rw [List.length_set, List.length_set]; exact S.len, fun {j t'} hj => ?_, fun {j k t'} hj => ?_, fun h1 h2 e1 e2 => S.ds (ow h1 e1).1 (ow h2 e2).1 (ow h1 e1).2 (ow h2 e2).2, S.nt⟩, fun b ⟨j, k, t', h1, h2⟩ => ⟨j, k, t', ow h1 h2⟩⟩
  · rcases set_get hj with ⟨q, z⟩ | ⟨ne, hj⟩
    · cases z
      have hl : i < σ.length := by
        rw [← S.len]
        by_cases hi : i < ρ.length
        · exact hi
        · rw [q, List.getElem?_eq_none (by simpa using hi)] at hj; cases hj
      exact ⟨x, by rw [q, List.getElem?_set_self hl], r⟩
    · obtain ⟨v, a, b⟩ := S.fz hj
      exact ⟨v, by rw [List.getElem?_set_ne (fun e => ne e.symm)]; exact a, b⟩
  · rcases set_get hj with ⟨q, z⟩ | ⟨ne, hj⟩
    · cases z
    · obtain ⟨a, e, n, o, d⟩ := S.ow hj
      exact ⟨a, by rw [List.getElem?_set_ne (fun e => ne e.symm)]; exact e, n, o, d⟩
theorem SRel.set_own (S : SRel K mg au ρ σ F H) {p : Addr} {t : T} (n : F p = none) (o : OwnAt K mg F H p t) (nw : au.new p) (no : ¬ OwnA ρ σ p) (i : Nat) :
    SRel K mg au (ρ.set i (.own none t)) (σ.set i (some (.ref p))) F H ∧ ∀ b, OwnA (ρ.set i (.own none t)) (σ.set i (some (.ref p))) b → OwnA ρ σ b ∨ b = p := by
  have ow : ∀ {j : Nat} {k : Option Nat} {t' : T} {a : Addr}, (ρ.set i (.own none t))[j]? = some (.own k t') → (σ.set i (some (.ref p)))[j]? = some (some (.ref a)) → (j = i ∧ a = p) ∨ (j ≠ i ∧ ρ[j]? = some (.own k t') ∧ σ[j]? = some (some (.ref a))) := by
    intro j k t' a h1 h2
    rcases set_get h1 with ⟨z, _⟩ | ⟨ne, h1⟩
    · rcases set_get h2 with ⟨_, z2⟩ | ⟨n2, _⟩
      · cases z2; exact .inl ⟨z, rfl⟩
      · exact absurd z n2
    · rcases set_get h2 with ⟨z, _⟩ | ⟨_, h2⟩
      · exact absurd z ne
      · exact .inr ⟨ne, h1, h2⟩
  refine ⟨⟨S.sub, S.nw, S.tabs, by rw [List.length_set, List.length_set]; exact S.len, fun {j t'} hj => ?_, fun {j k t'} hj => ?_, fun h1 h2 e1 e2 => ?_, S.nt⟩, fun b ⟨j, k, t', h1, h2⟩ => ?_⟩
  · rcases set_get hj with ⟨q, z⟩ | ⟨ne, hj⟩
    · cases z
    · obtain ⟨v, a, b⟩ := S.fz hj
      exact ⟨v, by rw [List.getElem?_set_ne (fun e => ne e.symm)]; exact a, b⟩
  · rcases set_get hj with ⟨q, z⟩ | ⟨ne, hj⟩
    · cases z
      have hl : i < σ.length := by
        rw [← S.len]
        by_cases hi : i < ρ.length
        · exact hi
        · rw [q, List.getElem?_eq_none (by simpa using hi)] at hj; cases hj
      exact ⟨p, by rw [q, List.getElem?_set_self hl], n, o, nw⟩
    · obtain ⟨a, e, n, o, d⟩ := S.ow hj
      exact ⟨a, by rw [List.getElem?_set_ne (fun e => ne e.symm)]; exact e, n, o, d⟩
  · rcases ow h1 e1 with ⟨a1, b1⟩ | ⟨a1, b1, c1⟩
    · rcases ow h2 e2 with ⟨a2, b2⟩ | ⟨a2, b2, c2⟩
      · rw [a1, a2]
      · exact absurd ⟨_, _, _, b2, by rw [c2, b1]⟩ no
    · rcases ow h2 e2 with ⟨a2, b2⟩ | ⟨a2, b2, c2⟩
      · exact absurd ⟨_, _, _, b1, by rw [c1, b2]⟩ no
      · exact S.ds b1 b2 c1 c2
  · rcases ow h1 h2 with ⟨_, b1⟩ | ⟨_, b1, c1⟩
    · exact .inr b1
    · exact .inl ⟨_, _, _, b1, c1⟩
/-- the object of a slot is changed -/
theorem SRel.mut (S : SRel K mg au ρ σ F H) {i : Nat} {k : Option Nat} {t t' : T} {a : Addr} {o o' : HO} (h : ρ[i]? = some (.own k t)) (e : σ[i]? = some (some (.ref a))) (ho : H a = some o) (n1 : ∀ ps, o ≠ .tbl ps) (n2 : ∀ φ, o ≠ .ext φ)
    (ow : OwnAt K mg F (upd H a o') a t') : SRel K mg au (ρ.set i (.own k t')) σ F (upd H a o') ∧ Xt (au.tb ≠ []) (OwnA ρ σ) F H (OwnA (ρ.set i (.own k t')) σ) F (upd H a o') := by
  obtain ⟨a', ea, na, _, da⟩ := S.ow h
  rw [e] at ea; cases ea
  have own : ∀ {j : Nat} {k' : Option Nat} {t2 : T} {b : Addr}, (ρ.set i (.own k t'))[j]? = some (.own k' t2) → σ[j]? = some (some (.ref b)) → ∃ t3, ρ[j]? = some (.own k' t3) := by
    intro j k' t2 b h1 h2
    rcases set_get h1 with ⟨z, z2⟩ | ⟨ne, h1⟩
    · cases z2; exact ⟨t, by rw [z]; exact h⟩
    · exact ⟨t2, h1⟩
  refine ⟨⟨fun b u q => ?_, fun b hb => S.nw b ?_, tabs_upd S.tabs ho n1 n2, by rw [List.length_set]; exact S.len, fun {j t2} hj => ?_, fun {j k2 t2} hj => ?_, fun h1 h2 e1 e2 => ?_, S.nt⟩, ⟨.refl _, fun b u q _ nb => ?_, fun b hb => ?_, fun b hb => .inl hb, fun b ⟨j, k2, t2, h1, h2⟩ => ?_, fun b vs q => by
    by_cases z : b = a
    · subst z; exact .inr ⟨i, k, t, h, e⟩
    · rw [upd_ne z] at q; exact .inl (.inr ⟨vs, q⟩)⟩⟩
  · rw [upd_ne (fun z => by rw [z, na] at q; cases q)]; exact S.sub _ _ q
  · by_cases z : b = a
    · subst z; rw [upd_same] at hb; cases hb
    · rw [upd_ne z] at hb; exact hb
  · rcases set_get hj with ⟨_, z⟩ | ⟨_, hj⟩
    · cases z
    · exact S.fz hj
  · rcases set_get hj with ⟨q, z⟩ | ⟨ne, hj⟩
    · cases z; exact ⟨a, by rw [q]; exact e, na, ow, da⟩
    · obtain ⟨b, eb, nb, ob, db⟩ := S.ow hj
      have hne : b ≠ a := fun z => ne (S.ds hj h (by rw [eb, z]) e)
      exact ⟨b, eb, nb, ob.mono (.refl _) (fun u q _ => by rw [upd_ne hne]; exact q), db⟩
  · obtain ⟨_, g1⟩ := own h1 e1
    obtain ⟨_, g2⟩ := own h2 e2
    exact S.ds g1 g2 e1 e2
  · rw [upd_ne (fun z => nb (by rw [z]; exact ⟨_, _, _, h, e⟩))]; exact q
  · by_cases z : b = a
    · subst z; rw [upd_same] at hb; cases hb
    · rw [upd_ne z] at hb; exact hb
  · obtain ⟨_, g⟩ := own h1 h2
    exact .inl ⟨_, _, _, g, h2⟩
end

section
variable {X : Cx} {au : Au} {W : WX}
/-! ### statements -/
def O.after (o : O) (h : FX.Env → O) : O := match o with
  | .nx ρ => h ρ
  | o => o
def gNil : FX.Env → O := .nx
def gSeq (g h : FX.Env → O) : FX.Env → O := fun ρ => (g ρ).after h
def R.o {α : Type} (r : R α) (k : α → FX.Env → O) : O := match r with
  | .ok v ρ => k v ρ
  | .err e ρ => .er e ρ
  | .stuck => .stuck
theorem PostS.step {ρ ρ1 : FX.Env} {σ σ1 : L2.St} {F H F1 H1 : Hp} {o : O} {D : Ends} (h : PostS X au W ρ σ F H o D) (X1 : Xtn au ρ σ F H ρ1 σ1 F1 H1) : PostS X au W ρ1 σ1 F1 H1 o D := by
  cases o with
  | stuck => exact h
  | nx ρ2 => exact fun σ2 F2 H2 S2 X2 => h σ2 F2 H2 S2 (X1.trans X2)
  | bk ρ2 => exact fun σ2 F2 H2 S2 X2 => h σ2 F2 H2 S2 (X1.trans X2)
  | ct ρ2 => exact fun σ2 F2 H2 S2 X2 => h σ2 F2 H2 S2 (X1.trans X2)
  | rt v ρ2 => exact fun x σ2 F2 H2 S2 X2 V2 => h x σ2 F2 H2 S2 (X1.trans X2) (VRel.start (fun b => X1.nn b) V2)
  | er e ρ2 => exact fun cls d σ2 F2 H2 S2 X2 E2 => h cls d σ2 F2 H2 S2 (X1.trans X2) E2
/-- an evaluation, then a statement's rest -/
theorem PostS.eval {α β : Type} {VR : FX.Env → L2.St → Hp → Hp → Hp → β → α → Prop} {ρ : FX.Env} {σ : L2.St} {F H : Hp} {r : R α} {k : α → FX.Env → O} {D : Ends} {Q1 : β → Hp → Prop} (h : PostS X au W ρ σ F H (r.o k) D)
    (hk : ∀ x v ρ1 F1 H1, r = .ok v ρ1 → SRel X.K X.mg au ρ1 σ F1 H1 → Xtn au ρ σ F H ρ1 σ F1 H1 → VR ρ1 σ F1 H1 H x v → PostS X au W ρ σ F H (k v ρ1) D → Q1 x H1) : Post X au W VR ρ σ F H r Q1 := by
  cases r with
  | stuck => exact h
  | err e ρ1 => exact fun cls d F1 H1 S1 X1 E1 => h cls d σ F1 H1 S1 X1 E1
  | ok v ρ1 => exact fun x F1 H1 S1 X1 V1 => hk x v ρ1 F1 H1 rfl S1 X1 V1 h
theorem rss_nil : RSs X au W [] gNil := ⟨PSs.imp pss_nil fun D σ H ⟨F, ρ, S, h⟩ => h σ F H S (Xt.refl _ _ _ _)⟩
theorem seq_post {ρ : FX.Env} {σ : L2.St} {F H : Hp} {o : O} {h : FX.Env → O} {D : Ends} (q : PostS X au W ρ σ F H (o.after h) D) : PostS X au W ρ σ F H o { D with nx := tS X au W h D } := by
  cases o with
  | nx ρ1 => exact fun σ1 F1 H1 S1 X1 => ⟨F1, ρ1, S1, q.step X1⟩
  | _ => exact q
theorem rss_cons {st : Stmt} {rest : List Stmt} {g h : FX.Env → O} (h1 : RS X au W st g) (h2 : RSs X au W rest h) : RSs X au W (st :: rest) (gSeq g h) :=
  ⟨PSs.imp (pss_cons h1.ps h2.pss) fun D σ H ⟨F, ρ, S, q⟩ => ⟨F, ρ, S, seq_post q⟩⟩
theorem rss_one {st : Stmt} {g : FX.Env → O} (h1 : RS X au W st g) : RSs X au W [st] g := ⟨pss_one h1.ps⟩
def gDrop (f : FX.Env → R Vl) : FX.Env → O := fun ρ => (f ρ).o fun _ ρ1 => .nx ρ1
def gRet (f : FX.Env → R Vl) : FX.Env → O := fun ρ => (f ρ).o fun v ρ1 => .rt v ρ1
theorem rs_expr {e : Expr} {f : FX.Env → R Vl} {pos} (he : RE X au W e f) (hs : swapsWith e none pos.line X.env = pure false := by rfl) : RS X au W (.Expr e pos) (gDrop f) :=
  ⟨PS.imp (ps_expr he.pe hs) fun D σ H ⟨F, ρ, S, q⟩ => ⟨F, ρ, S, PostS.eval q fun x v ρ1 F1 H1 e S1 X1 V1 h1 => h1 σ F1 H1 S1 X1⟩⟩
theorem rs_ret {e : Expr} {f : FX.Env → R Vl} {pos} (he : RE X au W e f) : RS X au W (.Return (some e) pos) (gRet f) :=
  ⟨PS.imp (ps_ret he.pe) fun D σ H ⟨F, ρ, S, q⟩ => ⟨F, ρ, S, PostS.eval q fun x v ρ1 F1 H1 e S1 X1 V1 h1 => h1 x σ F1 H1 S1 X1 V1⟩⟩
def gRetN : FX.Env → O := fun ρ => .rt (.fz .non) ρ
theorem rs_retN {pos} : RS X au W (.Return none pos) gRetN := ⟨PS.imp ps_retN fun D σ H ⟨F, ρ, S, q⟩ => q .non σ F H S (Xt.refl _ _ _ _) .non⟩
theorem rs_pass {pos} : RS X au W (.Pass pos) gNil := ⟨PS.imp ps_pass fun D σ H ⟨F, ρ, S, q⟩ => q σ F H S (Xt.refl _ _ _ _)⟩
theorem rs_doc {x j pos pos'} : RS X au W (.Expr (.Constant (.str x) j pos) pos') gNil := ⟨PS.imp ps_doc fun D σ H ⟨F, ρ, S, q⟩ => q σ F H S (Xt.refl _ _ _ _)⟩
theorem rs_break {pos} : RS X au W (.Break pos) .bk := ⟨PS.imp ps_break fun D σ H ⟨F, ρ, S, q⟩ => q σ F H S (Xt.refl _ _ _ _)⟩
theorem rs_continue {pos} : RS X au W (.Continue pos) .ct := ⟨PS.imp ps_continue fun D σ H ⟨F, ρ, S, q⟩ => q σ F H S (Xt.refl _ _ _ _)⟩
def gIf (c : FX.Env → R Bool) (g h : FX.Env → O) : FX.Env → O := fun ρ => (c ρ).o fun b ρ1 => if b = true then g ρ1 else h ρ1
theorem rs_if {c : Expr} {a b : List Stmt} {fc : FX.Env → R Bool} {g h : FX.Env → O} {pos} (hc : RT X au W c fc) (ha : RSs X au W a g) (hb : RSs X au W b h) : RS X au W (.If c a b pos) (gIf fc g h) := by
  refine ⟨PS.imp (ps_if hc.pt ha.pss hb.pss) fun D σ H ⟨F, ρ, S, q⟩ => ⟨F, ρ, S, PostS.eval q fun x v ρ1 F1 H1 e S1 X1 V1 h1 => ?_⟩⟩
  have V1 : x = v := V1
  subst V1
  split at h1
  · rename_i hb; rw [if_pos hb]; exact ⟨F1, ρ1, S1, h1.step X1⟩
  · rename_i hb; rw [if_neg hb]; exact ⟨F1, ρ1, S1, h1.step X1⟩

/-! ### targets -/
def tgR (X : Cx) (au : Au) (ws : List Nat) (b : T → FX.Env → Option FX.Env) : TG := fun x σ H Q => ∃ F ρ t ρ', SRel X.K X.mg au ρ σ F H ∧ Rep X.K X.mg F x t ∧ b t ρ = some ρ' ∧ ∀ σ', SRel X.K X.mg au ρ' σ' F H → (∀ a, OwnA ρ' σ' a → OwnA ρ σ a) → (∀ i, i ∉ ws → σ'[i]? = σ[i]?) → σ'.length = σ.length → Q σ' H
/-- a target takes a still value -/
structure RG (X : Cx) (au : Au) (ws : List Nat) (tg : Expr) (b : T → FX.Env → Option FX.Env) : Prop where
  pg : PG X tg (tgR X au ws b)
structure RGs (X : Cx) (au : Au) (ws : List Nat) (tgs : List Expr) (b : List T → FX.Env → Option FX.Env) : Prop where
  pg : PGs X tgs fun xs σ H Q => ∃ F ρ ts ρ', SRel X.K X.mg au ρ σ F H ∧ Reps X.K X.mg F xs ts ∧ b ts ρ = some ρ' ∧ ∀ σ', SRel X.K X.mg au ρ' σ' F H → (∀ a, OwnA ρ' σ' a → OwnA ρ σ a) → (∀ i, i ∉ ws → σ'[i]? = σ[i]?) → σ'.length = σ.length → Q σ' H
theorem PG.imp {tg : Expr} {t t' : TG} (h : PG X tg t) (i : ∀ v σ H Q, t' v σ H Q → t v σ H Q) : PG X tg t' := ⟨fun pins s σ H v u Q I r q => h.run pins s σ H v u Q I r (i v σ H Q q)⟩
theorem PGs.imp {tg : List Expr} {t t' : TGs} (h : PGs X tg t) (i : ∀ v σ H Q, t' v σ H Q → t v σ H Q) : PGs X tg t' := ⟨fun pins s σ H v u Q I r q => h.run pins s σ H v u Q I r (i v σ H Q q)⟩
def bName (i : Nat) : T → FX.Env → Option FX.Env := fun t ρ => some (ρ.set i (.fz t))
def bNil : List T → FX.Env → Option FX.Env := fun ts ρ => match ts with | [] => some ρ | _ => none
def bCons (b : T → FX.Env → Option FX.Env) (c : List T → FX.Env → Option FX.Env) : List T → FX.Env → Option FX.Env := fun ts ρ => match ts with
  | t :: r => (b t ρ).bind (c r)
  | [] => none
def bTup (n : Nat) (c : List T → FX.Env → Option FX.Env) : T → FX.Env → Option FX.Env := fun t ρ => match t with
  | .tup ts => if ts.length = n then c ts ρ else none
  | .tsq ts => if ts.length = n then c ts ρ else none
  | _ => none
theorem rg_name (i : Nat) {x : Str} {pos : Pos} (hN : X.N.Nodup) (hi : X.N[i]? = some x := by rfl) (hx : Loc X.env.scope x := by first | exact Or.inl rfl | exact Or.inr rfl) (hf : X.fn x = true ∨ X.env.scope.names.lookup x = some .local := by first | exact .inl rfl | exact .inr rfl) : RG X au [i] (.Name x pos) (bName i) := by
  refine ⟨PG.imp (pg_name hN hi hx hf) fun v σ H Q ⟨F, ρ, t, ρ', S, r, e, q⟩ => ?_⟩
  cases e
  obtain ⟨S', o⟩ := S.set_fz r i
  exact q _ S' o (fun j hj => List.getElem?_set_ne (fun e => hj (by simp [e]))) (List.length_set ..)
theorem rgs_nil : RGs X au [] [] bNil := by
  refine ⟨PGs.imp pgs_nil fun v σ H Q ⟨F, ρ, ts, ρ', S, r, e, q⟩ => ?_⟩
  cases ts with
  | nil => cases r; cases e; exact ⟨rfl, q σ S (fun _ h => h) (fun _ _ => rfl) rfl⟩
  | cons _ _ => cases e
theorem rgs_cons {ws1 ws2 : List Nat} {e : Expr} {es : List Expr} {b : T → FX.Env → Option FX.Env} {c : List T → FX.Env → Option FX.Env} (h1 : RG X au ws1 e b) (h2 : RGs X au ws2 es c) (hs : (assignEach (e :: es) X.env).map (·.2) = assign e X.env :: (assignEach es X.env).map (·.2) := by rfl) : RGs X au (ws1 ++ ws2) (e :: es) (bCons b c) := by
  refine ⟨PGs.imp (pgs_cons h1.pg h2.pg hs) fun v σ H Q ⟨F, ρ, ts, ρ', S, r, e, q⟩ => ?_⟩
  cases ts with
  | nil => cases e
  | cons t ts =>
    cases r with
    | @cons x _ xs _ rx rs =>
      obtain ⟨ρ1, e1, e2⟩ := Option.bind_eq_some_iff.mp e
      exact ⟨x, xs, rfl, F, ρ, t, ρ1, S, rx, e1, fun σ1 S1 o1 k1 l1 => ⟨F, ρ1, ts, ρ', S1, rs, e2, fun σ2 S2 o2 k2 l2 => q σ2 S2 (fun a ha => o1 a (o2 a ha)) (fun j hj => (k2 j (fun z => hj (List.mem_append_right _ z))).trans (k1 j fun z => hj (List.mem_append_left _ z))) (l2.trans l1)⟩⟩
theorem rg_tup {ws : List Nat} {es : List Expr} {k : Nat} {n : Nat} {c : List T → FX.Env → Option FX.Env} {pos : Pos} (h : RGs X au ws es c) (hc : X.calm = true := by rfl) (hn : (assignEach es X.env).length = n := by rfl) (hst : (assignEach es X.env).findIdx? (·.1) = none := by rfl) : RG X au ws (.Tuple es k pos) (bTup n c) := by
  refine ⟨PG.imp (pg_tup hc h.pg hn hst) fun v σ H Q ⟨F, ρ, t, ρ', S, r, e, q⟩ => ?_⟩
  unfold bTup at e
  split at e
  · rename_i ts
    split at e
    · rename_i hl
      cases r with
      | tup hr rs => exact ⟨_, _, rfl, .of (S.sub _ _ hr), by rw [rs.length]; exact hl, F, ρ, ts, ρ', S, rs, e, q⟩
    · cases e
  · rename_i ts
    split at e
    · rename_i hl
      cases r with
      | tsq hr rs => exact ⟨_, _, rfl, sqT_mono S.sub hr, by rw [rs.length]; exact hl, F, ρ, ts, ρ', S, rs, e, q⟩
    · cases e
  · cases e
/-! ### assignments -/
def put1 (i : Nat) (v : Vl) (ρ : FX.Env) : O := match v with
  | .fz t => .nx (ρ.set i (.fz t))
  | .own t => .nx (ρ.set i (.own none t))
  | .bor j => match esc1 (.bor j) ρ with
    | some (t, ρ1) => .nx (ρ1.set i (.fz t))
    | none => .stuck
def gSet (i : Nat) (f : FX.Env → R Vl) : FX.Env → O := fun ρ => (f ρ).o (put1 i)
theorem xtn_own {ρ ρ1 ρ' : FX.Env} {σ σ' : L2.St} {F H F1 H1 : Hp} {p : Addr} (X1 : Xtn au ρ σ F H ρ1 σ F1 H1) (hp : H p = none) (o : ∀ b, OwnA ρ' σ' b → OwnA ρ1 σ b ∨ b = p) : Xtn au ρ σ F H ρ' σ' F1 H1 :=
  ⟨X1.ff, X1.hh, X1.nn, X1.fn, fun b hb => (o b hb).elim (fun q => X1.ow b q) fun q => .inr (by rw [q]; exact hp), X1.tp⟩
theorem put1_post {i : Nat} {ρ ρ1 : FX.Env} {σ : L2.St} {F H F1 H1 : Hp} {x : V} {v : Vl} {D : Ends} (S : SRel X.K X.mg au ρ σ F H) (S1 : SRel X.K X.mg au ρ1 σ F1 H1) (X1 : Xtn au ρ σ F H ρ1 σ F1 H1) (V1 : VRel X.K X.mg ρ1 σ F1 H1 H x v) (h : PostS X au W ρ σ F H (put1 i v ρ1) D) : D.nx (σ.set i (some x)) H1 := by
  cases v with
  | fz t =>
    obtain ⟨S2, o⟩ := S1.set_fz V1 i
    exact h _ F1 H1 S2 (X1.imp o)
  | own t =>
    obtain ⟨p, e, n, ow, n0, no⟩ := V1
    subst e
    obtain ⟨S2, o⟩ := S1.set_own n ow (S.nw p n0) no i
    exact h _ F1 H1 S2 (xtn_own X1 n0 o)
  | bor j =>
    simp only [put1] at h
    split at h
    · rename_i t ρ2 e
      obtain ⟨k, t', e1, e2⟩ := V1
      obtain ⟨F2, S2, X2, r⟩ := esc1_ok (v := .bor j) S1 e2 e
      obtain ⟨S3, o⟩ := S2.set_fz r i
      exact h _ F2 H1 S3 ((X1.trans X2).imp o)
    · exact h.elim
end
end FX
end

section
set_option Elab.async false
set_option linter.all false
set_option maxRecDepth 100000
set_option maxHeartbeats 4000000
namespace FX
open PySem PySem.Spec PyProof.Rows L2
section
variable {X : Cx} {au : Au} {W : WX}
theorem PostS.evalN {ρ : FX.Env} {σ : L2.St} {F H : Hp} {r : R Vl} {k : Vl → FX.Env → O} {D : Ends} {Q1 : V → Hp → Prop} (h : PostS X au W ρ σ F H (r.norm.o k) D)
    (hk : ∀ x v ρ1 F1 H1, SRel X.K X.mg au ρ1 σ F1 H1 → Xtn au ρ σ F H ρ1 σ F1 H1 → Held X.K X.mg σ F1 x v → PostS X au W ρ σ F H (k v ρ1) D → Q1 x H1) : Post X au W (VE X) ρ σ F H r Q1 :=
  norm_post (PostS.eval h fun x v ρ1 F1 H1 e S1 X1 V1 h1 => hk x v ρ1 F1 H1 S1 X1 (norm_held ⟨_, e⟩ V1) h1)
theorem rs_set (i : Nat) {x : Str} {e : Expr} {f : FX.Env → R Vl} {pos pos' : Pos} (hN : X.N.Nodup) (he : RE X au W e f) (hi : X.N[i]? = some x := by rfl) (hx : Loc X.env.scope x := by first | exact Or.inl rfl | exact Or.inr rfl) (hs : swapsWith e (some (.Name x pos')) pos.line X.env = pure false := by rfl)
    (hf : X.fn x = true ∨ X.env.scope.names.lookup x = some .local := by first | exact .inl rfl | exact .inr rfl) : RS X au W (.Assign [.Name x pos'] e pos) (gSet i f) :=
  ⟨PS.imp (ps_set hN hi hx he.pe hs hf) fun D σ H ⟨F, ρ, S, q⟩ => ⟨F, ρ, S, PostS.eval q fun x v ρ1 F1 H1 e S1 X1 V1 h1 => put1_post S S1 X1 V1 h1⟩⟩
/-- a, b, .. = e -/
def gAsg (b : T → FX.Env → Option FX.Env) (f : FX.Env → R Vl) : FX.Env → O := fun ρ => (f ρ).norm.o fun v ρ1 => match esc1 v ρ1 with
  | some (t, ρ2) => match b t ρ2 with
    | some ρ3 => .nx ρ3
    | none => .stuck
  | none => .stuck
theorem rs_asg {ws : List Nat} {tg e : Expr} {f : FX.Env → R Vl} {b : T → FX.Env → Option FX.Env} {pos : Pos} (he : RE X au W e f) (hg : RG X au ws tg b) (hs : swapsWithSole [tg] e pos.line X.env = pure false := by rfl) (hw : swappedStores [tg] e X.env = pure none := by rfl)
    (h1 : (assignEach [tg] X.env).map (·.2) = [assign tg X.env] := by rfl) : RS X au W (.Assign [tg] e pos) (gAsg b f) := by
  refine ⟨PS.imp (ps_asg he.pe hg.pg hs hw h1) fun D σ H ⟨F, ρ, S, q⟩ => ⟨F, ρ, S, PostS.evalN q fun x v ρ1 F1 H1 S1 X1 V1 h1 => ?_⟩⟩
  split at h1
  · rename_i t ρ2 e2
    obtain ⟨F2, S2, X2, r⟩ := esc1_ok S1 V1 e2
    split at h1
    · rename_i ρ3 e3
      exact ⟨F2, ρ2, t, ρ3, S2, r, e3, fun σ' S' o _ _ => h1 σ' F2 H1 S' ((X1.trans X2).imp o)⟩
    · exact h1.elim
  · exact h1.elim
/-- a, b = x, y with plain local names -/
def gPar (i j : Nat) (fa : FX.Env → R (List Vl)) : FX.Env → O := fun ρ => (fa ρ).o fun vs ρ1 => match escs vs ρ1 with
  | some ([t, u], ρ2) => .nx ((ρ2.set i (.fz t)).set j (.fz u))
  | _ => .stuck
theorem rs_par (i j : Nat) {x y : Str} {a b : Expr} {fa : FX.Env → R (List Vl)} {px py pt pos : Pos} {kt k2 pt2} (hN : X.N.Nodup) (ha : RA X au W [a, b] fa) (hc : X.calm = true := by rfl) (hi : X.N[i]? = some x := by rfl) (hj : X.N[j]? = some y := by rfl) (hij : i ≠ j := by decide)
    (hx : X.env.scope.names.lookup x = some .local := by rfl) (hy : X.env.scope.names.lookup y = some .local := by rfl)
    (hw : swappedStores [.Tuple [.Name x px, .Name y py] kt pt] (.Tuple [a, b] k2 pt2) X.env = pure (some [x, y]) := by rfl)
    (hs : swapsWithSole [.Tuple [.Name x px, .Name y py] kt pt] (.Tuple [a, b] k2 pt2) pos.line X.env = pure false := by rfl) :
    RS X au W (.Assign [.Tuple [.Name x px, .Name y py] kt pt] (.Tuple [a, b] k2 pt2) pos) (gPar i j fa) := by
  refine ⟨PS.imp (ps_par hc hN hi hj hij hx hy ha.pa hw hs) fun D σ H ⟨F, ρ, S, q⟩ => ⟨F, ρ, S, PostS.eval q fun xs vs ρ1 F1 H1 e S1 X1 V1 h1 => ?_⟩⟩
  split at h1
  · rename_i t u ρ2 e2
    obtain ⟨F2, S2, X2, r⟩ := escs_ok S1 V1 e2
    cases r with
    | cons r1 r =>
      cases r with
      | cons r2 r =>
        cases r
        obtain ⟨S3, o3⟩ := S2.set_fz r1 i
        obtain ⟨S4, o4⟩ := S3.set_fz r2 j
        exact ⟨_, _, rfl, h1 _ F2 H1 S4 ((X1.trans X2).imp fun b hb => o3 b (o4 b hb))⟩
  · exact h1.elim
/-- name op= e -/
def Nv.vl : Nv → Vl
  | .fz t => .fz t
  | .own t => .own t
def gAug (i : Nat) (g : T → T → Option Nv) (f : FX.Env → R Vl) : FX.Env → O := fun ρ => match ρ[i]? with
  | some (.fz t) => (f ρ).norm.o fun v ρ1 => match (look ρ1 v).bind (g t) with
    | some w => put1 i w.vl ρ1
    | none => .stuck
  | _ => .stuck
theorem rs_aug (i : Nat) {x : Str} {e : Expr} {f : FX.Env → R Vl} {op : Operator} {r : R2} {g : T → T → Option Nv} {pos pos' : Pos} (hN : X.N.Nodup) (ho : PIp X op r) (hg : Op2 X r g) (he : RE X au W e f) (hi : X.N[i]? = some x := by rfl) (hx : Loc X.env.scope x := by first | exact Or.inl rfl | exact Or.inr rfl)
    (hf : X.fn x = true ∨ X.env.scope.names.lookup x = some .local := by first | exact .inl rfl | exact .inr rfl) : RS X au W (.AugAssign (.Name x pos') op e pos) (gAug i g f) := by
  refine ⟨PS.imp (ps_aug hN hi hx he.pe ho hf) fun D σ H ⟨F, ρ, S, q⟩ => ?_⟩
  unfold gAug at q
  split at q
  · rename_i t et
    obtain ⟨x0, ex, rx⟩ := S.fz et
    refine ⟨x0, ex, F, ρ, S, PostS.evalN q fun y v ρ1 F1 H1 S1 X1 V1 h1 => ?_⟩
    cases e1 : look ρ1 v with
    | none => rw [e1] at h1; exact h1.elim
    | some u =>
      rw [e1] at h1
      have rx1 : RepO X.K X.mg F1 H1 x0 t := (rx.mono X1.ff).o S1.sub
      refine hg F1 H1 x0 y t u _ S1.sub rx1 (look_o S1 V1 e1) ?_
      simp only [Option.bind_some] at h1
      cases e2 : g t u with
      | none => rw [e2] at h1; exact h1.elim
      | some w =>
        rw [e2] at h1
        cases w with
        | fz w =>
          intro z F2 H2 s1 s2 s3 nw rz
          obtain ⟨F3, C⟩ := clean (K := X.K) (mg := X.mg) S1.nt s1 s3 nw
          exact put1_post S (S1.new C.s s2 C.s3 C.nw C.nt) (X1.trans (Xt.new C.s s2 C.nw)) (v := .fz w) (C.rep rz) h1
        | own w =>
          intro p F2 H2 s1 s2 s3 nw hp fp ow
          obtain ⟨F3, C⟩ := clean (K := X.K) (mg := X.mg) S1.nt s1 s3 nw
          have S2 := S1.new C.s s2 C.s3 C.nw C.nt
          refine put1_post S S2 (X1.trans (Xt.new C.s s2 C.nw)) (v := .own w) ⟨p, rfl, C.le.free fp, C.own ow, X1.nn p hp, fun ⟨j, k, t', hj, ej⟩ => ?_⟩ h1
          obtain ⟨a, ea, _, o, _⟩ := S1.ow hj
          rw [ej] at ea; cases ea
          obtain ⟨_, ho, _⟩ := o.there
          rw [hp] at ho; cases ho
  · exact q.elim
def gA : T → T → Option Nv
  | .int i, .int j => some (.fz (.int (i + j)))
  | .str a, .str b => if a.length + b.length ≤ sizeLine then some (.fz (.str (a ++ b))) else none
  | _, _ => none
theorem o2_A : Op2 X (fun x y H Q => (rI0 fun i j => .int (i + j)) x y H Q ∨ (∃ i j, x = .str i ∧ y = .str j ∧ i.length + j.length ≤ sizeLine ∧ Q (.str (i ++ j)) H)) gA := by
  intro F H x y t u Q s rx ry q
  cases rx with
  | int i => cases ry with
    | int j => exact .inl ⟨i, j, rfl, rfl, q.flat s (.int _)⟩
    | _ => exact q.elim
  | str a => cases ry with
    | str b =>
      simp only [gA] at q
      split at q
      · rename_i h; exact .inr ⟨a, b, rfl, rfl, h, q.flat s (.str _)⟩
      · exact q.elim
    | _ => exact q.elim
  | _ => exact q.elim
theorem ip_addA : PIp X .Add (fun x y H Q => (rI0 fun i j => .int (i + j)) x y H Q ∨ (∃ i j, x = .str i ∧ y = .str j ∧ i.length + j.length ≤ sizeLine ∧ Q (.str (i ++ j)) H)) := iop_add.or iop_add_str
theorem rs_augAdd (i : Nat) {x : Str} {e : Expr} {f : FX.Env → R Vl} {pos pos' : Pos} (hN : X.N.Nodup) (he : RE X au W e f) (hi : X.N[i]? = some x := by rfl) (hx : Loc X.env.scope x := by first | exact Or.inl rfl | exact Or.inr rfl)
    (hf : X.fn x = true ∨ X.env.scope.names.lookup x = some .local := by first | exact .inl rfl | exact .inr rfl) : RS X au W (.AugAssign (.Name x pos') .Add e pos) (gAug i gA f) := rs_aug i hN ip_addA o2_A he hi hx hf

/-! ### what is walked -/
/-- from the still heap F on, the iterator gives the trees ts -/
def Wk (K : PySem.W.Frag) (mg : Str → Option Value) (J : It) (F H : Hp) (ts : List T) : Prop := ∃ (G : Hp → Prop) (Y : Nat → Hp → V → Hp → Prop), Walk J ts.length G Y ∧ (∀ F' H', Same F F' → Same F' H' → G H') ∧
  ∀ i H1 x H2 F1 t, ts[i]? = some t → Same F F1 → Same F1 H1 → Y i H1 x H2 → ∃ F2, Same F1 F2 ∧ Same H1 H2 ∧ Same F2 H2 ∧ (∀ b, F2 b ≠ none → F1 b ≠ none ∨ Nh H1 b) ∧ Rep K mg F2 x t
abbrev VW (X : Cx) : FX.Env → L2.St → Hp → Hp → Hp → It → List T → Prop := fun _ _ F H _ J ts => Wk X.K X.mg J F H ts
structure RI (X : Cx) (au : Au) (W : WX) (tg e : Expr) (f : FX.Env → R (List T)) : Prop where
  pi : PI X tg e (tF X au W (VW X) f)
theorem PI.imp {tg e : Expr} {w w' : TI} (h : PI X tg e w) (i : ∀ σ H R, w' σ H R → w σ H R) : PI X tg e w' := ⟨fun pins s σ H R I q => h.run pins s σ H R I (i σ H R q)⟩
theorem PI.or {tg e : Expr} {w w' : TI} (h : PI X tg e w) (h' : PI X tg e w') : PI X tg e fun σ H R => w σ H R ∨ w' σ H R := ⟨fun pins s σ H R I q => q.elim (fun q => h.run pins s σ H R I q) fun q => h'.run pins s σ H R I q⟩
theorem early_VW : Early (VW X) := fun _ _ _ _ _ _ _ _ _ h => h
theorem wk_list {F H : Hp} {a : Addr} {vs : List V} {ts : List T} (h : SqL X.K F a vs) (r : Reps X.K X.mg F vs ts) : Wk X.K X.mg (Itl X.K a) F H ts := by
  refine ⟨_, _, by rw [← r.length]; exact walk_list (xs := vs), fun F' H' s1 s2 => (s1.trans s2).seq h, fun i H1 x H2 F1 t ht s1 s2 y => ?_⟩
  obtain ⟨e, hx⟩ := y
  subst e
  obtain ⟨v, hv, rv⟩ := r.get ht
  rw [hx] at hv; cases hv
  exact ⟨F1, .refl _, .refl _, s2, fun _ h => .inl h, rv.mono s1⟩
theorem wk_tup {F H : Hp} {a : Addr} {vs : List V} {ts : List T} (h : SqT X.K F a vs) (r : Reps X.K X.mg F vs ts) : Wk X.K X.mg (Itt X.K a) F H ts := by
  refine ⟨_, _, by rw [← r.length]; exact walk_tup (xs := vs), fun F' H' s1 s2 => sqT_mono (s1.trans s2) h, fun i H1 x H2 F1 t ht s1 s2 y => ?_⟩
  obtain ⟨e, hx⟩ := y
  subst e
  obtain ⟨v, hv, rv⟩ := r.get ht
  rw [hx] at hv; cases hv
  exact ⟨F1, .refl _, .refl _, s2, fun _ h => .inl h, rv.mono s1⟩
theorem wk_range {F H : Hp} {lo : Int} {n : Nat} : Wk X.K X.mg (Itr lo n) F H ((List.range n).map fun i => .int (lo + (i : Nat))) := by
  have hl : ((List.range n).map fun i : Nat => T.int (lo + (i : Nat))).length = n := by simp
  refine ⟨fun _ => True, _, by rw [hl]; exact walk_range, fun _ _ _ _ => trivial, fun i H1 x H2 F1 t ht s1 s2 y => ?_⟩
  obtain ⟨e, hx⟩ := y
  subst e hx
  have et : t = .int (lo + (i : Nat)) := by
    rw [List.getElem?_map] at ht
    cases q : (List.range n)[i]? with
    | none => rw [q] at ht; cases ht
    | some j =>
      rw [q] at ht
      have : j = i := by
        obtain ⟨h1, h2⟩ := List.getElem?_eq_some_iff.mp q
        simpa using h2.symm
      subst this
      exact (Option.some.inj ht).symm
  subst et
  exact ⟨F1, .refl _, .refl _, s2, fun _ h => .inl h, .int _⟩
/-- a list or a tuple, walked: it is still from then on -/
def fItems (f : FX.Env → R Vl) : FX.Env → R (List T) := fun ρ => (f ρ).norm.bind fun v ρ1 => match esc1 v ρ1 with
  | some (t, ρ2) => match t.items with
    | some ts => .ok ts ρ2
    | none => .stuck
  | none => .stuck
def isTupT : T → Bool
  | .tup _ => true
  | .tsq _ => true
  | _ => false
theorem Post.imp {α β : Type} {VR : FX.Env → L2.St → Hp → Hp → Hp → β → α → Prop} {ρ : FX.Env} {σ : L2.St} {F H : Hp} {r : R α} {Q Q' : β → Hp → Prop} (h : Post X au W VR ρ σ F H r Q)
    (i : ∀ x v ρ1 F1 H1, r = .ok v ρ1 → SRel X.K X.mg au ρ1 σ F1 H1 → Xtn au ρ σ F H ρ1 σ F1 H1 → VR ρ1 σ F1 H1 H x v → Q x H1 → Q' x H1) : Post X au W VR ρ σ F H r Q' := by
  cases r with
  | stuck => exact h
  | err e ρ1 => exact h
  | ok v ρ1 => exact fun x F1 H1 S1 X1 V1 => i x v ρ1 F1 H1 rfl S1 X1 V1 (h x F1 H1 S1 X1 V1)
theorem ri_seq {tg e : Expr} {f : FX.Env → R Vl} (he : RE X au W e f) : RI X au W tg e (fItems f) := by
  refine ⟨PI.imp (PI.or (pi_list he.pe) (pi_tup he.pe)) fun σ H R ⟨F, ρ, S, h⟩ => ?_⟩
  have key : ∀ (isT : Bool), (∀ v ρ1 t ρ2, (f ρ).norm = .ok v ρ1 → esc1 v ρ1 = some (t, ρ2) → isTupT t = isT) →
      Post X au W (VE X) ρ σ F H (f ρ) (fun x H1 => if isT = true then ∃ a, x = .ref a ∧ (∃ xs, SqT X.K H1 a xs) ∧ R (Itt X.K a) H1 else ∃ a, x = .ref a ∧ (∃ xs, SqL X.K H1 a xs) ∧ R (Itl X.K a) H1) := by
    intro isT hk
    refine norm_post (Post.bind early_VW h fun x v ρ1 F1 H1 e S1 X1 V1 h1 => ?_)
    have hv := norm_held ⟨_, e⟩ V1
    split at h1
    · rename_i t ρ2 e2
      obtain ⟨F2, S2, X2, r⟩ := esc1_ok S1 hv e2
      split at h1
      · rename_i ts e3
        have hk := hk v ρ1 t ρ2 e e2
        cases r with
        | tup hr rs =>
          cases e3
          subst hk
          rw [if_pos (by rfl)]
          exact ⟨_, rfl, ⟨_, .of (S2.sub _ _ hr)⟩, h1 _ F2 H1 S2 X2 (wk_tup (.of hr) rs)⟩
        | tsq hr rs =>
          cases e3
          subst hk
          rw [if_pos (by rfl)]
          exact ⟨_, rfl, ⟨_, sqT_mono S2.sub hr⟩, h1 _ F2 H1 S2 X2 (wk_tup hr rs)⟩
        | lst hr rs =>
          cases e3
          subst hk
          rw [if_neg (by simp [isTupT])]
          exact ⟨_, rfl, ⟨_, .of (S2.sub _ _ hr)⟩, h1 _ F2 H1 S2 X2 (wk_list (.of hr) rs)⟩
        | seq hr rs =>
          cases e3
          subst hk
          rw [if_neg (by simp [isTupT])]
          exact ⟨_, rfl, ⟨_, S2.sub.seq hr⟩, h1 _ F2 H1 S2 X2 (wk_list hr rs)⟩
        | _ => cases e3
      · exact h1.elim
    · exact h1.elim
  cases e1 : (f ρ).norm with
  | stuck => exact .inl ⟨F, ρ, S, (key false fun v ρ1 t ρ2 q => by rw [e1] at q; cases q).mono fun x H z => z⟩
  | err e ρ1 => exact .inl ⟨F, ρ, S, (key false fun v ρ1 t ρ2 q => by rw [e1] at q; cases q).mono fun x H z => z⟩
  | ok v ρ1 =>
    cases e2 : esc1 v ρ1 with
    | none => exact .inl ⟨F, ρ, S, (key false fun v' ρ1' t ρ2 q q2 => by rw [e1] at q; cases q; rw [e2] at q2; cases q2).mono fun x H z => z⟩
    | some p =>
      obtain ⟨t, ρ2⟩ := p
      have kk := key (isTupT t) fun v' ρ1' t' ρ2' q q2 => by rw [e1] at q; cases q; rw [e2] at q2; cases q2; rfl
      cases e3 : isTupT t with
      | true => rw [e3] at kk; exact .inr ⟨F, ρ, S, kk.mono fun x H z => z⟩
      | false => rw [e3] at kk; exact .inl ⟨F, ρ, S, kk.mono fun x H z => z⟩
def rangeT (lo hi : Int) : List T := (List.range (hi - lo).toNat).map fun i => .int (lo + (i : Nat))
def okR (i : Int) : Bool := decide (-1000000000000 ≤ i) && decide (i ≤ 1000000000000)
def fRange1 (fa : FX.Env → R (List Vl)) : FX.Env → R (List T) := fun ρ => (fa ρ).bind fun vs ρ1 => match vs with
  | [.fz (.int n)] => if okR n = true then .ok (rangeT 0 n) ρ1 else .stuck
  | _ => .stuck
def fRange2 (fa : FX.Env → R (List Vl)) : FX.Env → R (List T) := fun ρ => (fa ρ).bind fun vs ρ1 => match vs with
  | [.fz (.int m), .fz (.int n)] => if okR m = true ∧ okR n = true then .ok (rangeT m n) ρ1 else .stuck
  | _ => .stuck
theorem okR_b {i : Int} (h : okR i = true) : -(2 ^ 62) ≤ i ∧ i < 2 ^ 62 := by
  simp only [okR, Bool.and_eq_true, decide_eq_true_eq] at h
  omega
theorem ri_range1 {tg a : Expr} {fa : FX.Env → R (List Vl)} {p pos : Pos} (hm : X.mg "range" = none) (ha : RA X au W [a] fa) (hg : Gl X "range" := by rfl) (hs : starEach [a] X.env = [(false, eval a X.env)] := by rfl) : RI X au W tg (.Call (.Name "range" p) [a] [] pos) (fRange1 fa) := by
  refine ⟨PI.imp (pi_range1 hg hm ha.pa hs) fun σ H R ⟨F, ρ, S, h⟩ => ⟨F, ρ, S, Post.bind early_VW h fun xs vs ρ1 F1 H1 e S1 X1 V1 h1 => ?_⟩⟩
  split at h1
  · rename_i n
    split at h1
    · rename_i ok
      match xs, V1 with
      | [x], V1 =>
        cases (show Rep X.K X.mg F1 x (.int n) from V1.1)
        refine ⟨n, rfl, (okR_b ok).1, (okR_b ok).2, ?_⟩
        have q := h1 (Itr 0 (n - 0).toNat) F1 H1 S1 (Xt.refl _ _ _ _) wk_range
        rwa [Int.sub_zero] at q
    · exact h1.elim
  · exact h1.elim
theorem ri_range2 {tg a b : Expr} {fa : FX.Env → R (List Vl)} {p pos : Pos} (hm : X.mg "range" = none) (ha : RA X au W [a, b] fa) (hg : Gl X "range" := by rfl) (hs : starEach [a, b] X.env = [(false, eval a X.env), (false, eval b X.env)] := by rfl) (hs2 : starEach [b] X.env = [(false, eval b X.env)] := by rfl) :
    RI X au W tg (.Call (.Name "range" p) [a, b] [] pos) (fRange2 fa) := by
  refine ⟨PI.imp (pi_range2 hg hm ha.pa hs hs2) fun σ H R ⟨F, ρ, S, h⟩ => ⟨F, ρ, S, Post.bind early_VW h fun xs vs ρ1 F1 H1 e S1 X1 V1 h1 => ?_⟩⟩
  split at h1
  · rename_i m n
    split at h1
    · rename_i ok
      match xs, V1 with
      | [x, y], V1 =>
        cases (show Rep X.K X.mg F1 x (.int m) from V1.1)
        cases (show Rep X.K X.mg F1 y (.int n) from V1.2.1)
        exact ⟨m, n, rfl, ⟨(okR_b ok.1).1, (okR_b ok.1).2, (okR_b ok.2).1, (okR_b ok.2).2⟩, h1 _ F1 H1 S1 (Xt.refl _ _ _ _) wk_range⟩
    · exact h1.elim
  · exact h1.elim
/-! ### for -/
def forL (b : T → FX.Env → Option FX.Env) (g : FX.Env → O) : List T → FX.Env → O
  | [], ρ => .nx ρ
  | t :: ts, ρ => match b t ρ with
    | none => .stuck
    | some ρ1 => match g ρ1 with
      | .nx ρ2 => forL b g ts ρ2
      | .ct ρ2 => forL b g ts ρ2
      | .bk ρ2 => .nx ρ2
      | .rt v ρ2 => .rt v ρ2
      | .er e ρ2 => .er e ρ2
      | .stuck => .stuck
def gFor (fi : FX.Env → R (List T)) (b : T → FX.Env → Option FX.Env) (g : FX.Env → O) : FX.Env → O := fun ρ => (fi ρ).o fun ts ρ1 => forL b g ts ρ1
theorem for_core {ws : List Nat} {fi : FX.Env → R (List T)} {b : T → FX.Env → Option FX.Env} {g : FX.Env → O} {D : Ends} {σ : L2.St} {H : Hp} (q : tS X au W (gFor fi b g) D σ H) : tFor (tF X au W (VW X) fi) (tgR X au ws b) (tS X au W g) D σ H := by
  obtain ⟨F, ρ, S, q⟩ := q
  refine ⟨F, ρ, S, PostS.eval q fun J ts ρ1 F1 H1 e S1 X1 V1 h1 => ?_⟩
  obtain ⟨G, Y, wk, hG, hY⟩ := V1
  refine for_it (D := D) (tb := tS X au W g) (g := tgR X au ws b) wk (fun i σ' H' => ∃ F' ρ', SRel X.K X.mg au ρ' σ' F' H' ∧ Xtn au ρ σ F H ρ' σ' F' H' ∧ Same F1 F' ∧ PostS X au W ρ σ F H (forL b g (ts.drop i) ρ') D) ⟨F1, ρ1, S1, X1, .refl _, by simpa using h1⟩ (fun i σ' H' _ ⟨F', ρ', S', _, s, _⟩ => hG F' H' s S'.sub) ?_ ?_
  · rintro i x σ' H' H2 hi ⟨F', ρ', S', X', s', h'⟩ y
    have ht : ts[i]? = some ts[i] := by simp [hi]
    obtain ⟨F0, s1, s2, s3, nw, r⟩ := hY i H' x H2 F' ts[i] ht s' S'.sub y
    obtain ⟨F2, C⟩ := clean (K := X.K) (mg := X.mg) S'.nt s1 s3 nw
    replace s1 := C.s
    replace s3 := C.s3
    replace nw := C.nw
    replace r := C.rep r
    have S2 := S'.new s1 s2 s3 nw C.nt
    have X2 := X'.trans (Xt.new s1 s2 nw)
    rw [List.drop_eq_getElem_cons hi] at h'
    simp only [forL] at h'
    cases eb : b ts[i] ρ' with
    | none => rw [eb] at h'; exact h'.elim
    | some ρ3 =>
      rw [eb] at h'
      dsimp only at h'
      refine ⟨F2, ρ', ts[i], ρ3, S2, r, eb, fun σ3 S3 o3 _ _ => ⟨F2, ρ3, S3, ?_⟩⟩
      have X3 : Xtn au ρ σ F H ρ3 σ3 F2 H2 := X2.imp o3
      have ss : Same F1 F2 := s'.trans s1
      have again : ∀ ρ4, PostS X au W ρ σ F H (forL b g (ts.drop (i + 1)) ρ4) D → ∀ σ4 F4 H4, SRel X.K X.mg au ρ4 σ4 F4 H4 → Xtn au ρ3 σ3 F2 H2 ρ4 σ4 F4 H4 → ∃ F' ρ', SRel X.K X.mg au ρ' σ4 F' H4 ∧ Xtn au ρ σ F H ρ' σ4 F' H4 ∧ Same F1 F' ∧ PostS X au W ρ σ F H (forL b g (ts.drop (i + 1)) ρ') D :=
        fun ρ4 h4 σ4 F4 H4 S4 X4 => ⟨F4, ρ4, S4, X3.trans X4, ss.trans X4.ff, h4⟩
      cases eg : g ρ3 with
      | stuck => rw [eg] at h'; exact h'.elim
      | nx ρ4 => rw [eg] at h'; exact again ρ4 h'
      | ct ρ4 => rw [eg] at h'; exact again ρ4 h'
      | bk ρ4 => rw [eg] at h'; exact fun σ4 F4 H4 S4 X4 => h' σ4 F4 H4 S4 (X3.trans X4)
      | rt v ρ4 => rw [eg] at h'; exact fun x σ4 F4 H4 S4 X4 V4 => h' x σ4 F4 H4 S4 (X3.trans X4) (VRel.start (fun b => X3.nn b) V4)
      | er e ρ4 => rw [eg] at h'; exact fun cls d σ4 F4 H4 S4 X4 E4 => h' cls d σ4 F4 H4 S4 (X3.trans X4) E4
  · rintro σ' H' ⟨F', ρ', S', X', s', h'⟩
    rw [List.drop_length] at h'
    exact h' σ' F' H' S' X'
theorem rs_for {ws : List Nat} {tg iter : Expr} {body : List Stmt} {fi : FX.Env → R (List T)} {b : T → FX.Env → Option FX.Env} {g : FX.Env → O} {pos : Pos} (hi : RI X au W tg iter fi) (hg : RG X au ws tg b) (hb : RSs X au W body g) (hp : PassesOwn (model X.prog X.w) X.A X.env X.xe) (hc : X.calm = true := by rfl)
    (hs : ∀ x, foldedSetIterable iter X.env x = pure x := by intro _; rfl) : RS X au W (.For tg iter body [] pos) (gFor fi b g) :=
  ⟨PS.imp (ps_for hp hc hi.pi hg.pg hb.pss hs) fun D σ H q => for_core q⟩
/-! ### while -/
def whL (c : FX.Env → R Bool) (g : FX.Env → O) : Nat → FX.Env → O
  | 0, _ => .stuck
  | n + 1, ρ => (c ρ).o fun b ρ1 => if b = true then match g ρ1 with
      | .nx ρ2 => whL c g n ρ2
      | .ct ρ2 => whL c g n ρ2
      | .bk ρ2 => .nx ρ2
      | .rt v ρ2 => .rt v ρ2
      | .er e ρ2 => .er e ρ2
      | .stuck => .stuck
    else .nx ρ1
def gWhile (n : Nat) (c : FX.Env → R Bool) (g : FX.Env → O) : FX.Env → O := whL c g n
theorem rs_while (n : Nat) {c : Expr} {body : List Stmt} {fc : FX.Env → R Bool} {g : FX.Env → O} {pos : Pos} (hc : RT X au W c fc) (hb : RSs X au W body g) (hp : PassesOwn (model X.prog X.w) X.A X.env X.xe) : RS X au W (.While c body [] pos) (gWhile n fc g) := by
  refine ⟨PS.imp (ps_while hp hc.pt hb.pss) fun D σ H ⟨F, ρ, S, q⟩ => ?_⟩
  refine ⟨fun m σ' H' => ∃ F' ρ', SRel X.K X.mg au ρ' σ' F' H' ∧ Xtn au ρ σ F H ρ' σ' F' H' ∧ PostS X au W ρ σ F H (whL fc g m ρ') D, ⟨n, F, ρ, S, Xt.refl _ _ _ _, q⟩, ?_⟩
  rintro m σ' H' ⟨F', ρ', S', X', h'⟩
  cases m with
  | zero => exact h'.elim
  | succ m =>
    refine ⟨F', ρ', S', ?_⟩
    have h'' : PostS X au W ρ' σ' F' H' (whL fc g (m + 1) ρ') D := h'.step X'
    simp only [whL] at h''
    refine PostS.eval h'' fun b v ρ1 F1 H1 e S1 X1 V1 h1 => ?_
    have V1 : b = v := V1
    subst V1
    split at h1
    · rename_i hb
      rw [if_pos hb]
      refine ⟨fun σ2 H2 => ∃ F2 ρ2, SRel X.K X.mg au ρ2 σ2 F2 H2 ∧ Xtn au ρ σ F H ρ2 σ2 F2 H2 ∧ PostS X au W ρ σ F H (whL fc g m ρ2) D, fun σ2 H2 z => ⟨m, Nat.lt_succ_self _, z⟩, F1, ρ1, S1, ?_⟩
      have hw : PostS X au W ρ σ F H (whL fc g (m + 1) ρ') D := h'
      simp only [whL, e, R.o] at hw
      rw [if_pos hb] at hw
      have X3 : Xtn au ρ σ F H ρ1 σ' F1 H1 := X'.trans X1
      cases eg : g ρ1 with
      | stuck => rw [eg] at hw; exact hw.elim
      | nx ρ4 => rw [eg] at hw; exact fun σ4 F4 H4 S4 X4 => ⟨F4, ρ4, S4, X3.trans X4, hw⟩
      | ct ρ4 => rw [eg] at hw; exact fun σ4 F4 H4 S4 X4 => ⟨F4, ρ4, S4, X3.trans X4, hw⟩
      | bk ρ4 => rw [eg] at hw; exact fun σ4 F4 H4 S4 X4 => hw σ4 F4 H4 S4 (X3.trans X4)
      | rt v ρ4 => rw [eg] at hw; exact fun x σ4 F4 H4 S4 X4 V4 => hw x σ4 F4 H4 S4 (X3.trans X4) (VRel.start (fun b => X3.nn b) V4)
      | er e ρ4 => rw [eg] at hw; exact fun cls d σ4 F4 H4 S4 X4 E4 => hw cls d σ4 F4 H4 S4 (X3.trans X4) E4
    · rename_i hb
      rw [if_neg hb]
      exact h1 σ' F1 H1 S1 X1
end
end FX
end

section
set_option Elab.async false
set_option linter.all false
set_option maxRecDepth 100000
set_option maxHeartbeats 4000000
namespace FX
open PySem PySem.Spec PyProof.Rows L2
/-! ### defs -/
inductive Rp where
  | ok (v : Nv) | err (e : Ex) | stuck
def endP : O → Rp
  | .nx _ => .ok (.fz .non)
  | .rt (.fz t) _ => .ok (.fz t)
  | .rt (.own t) _ => .ok (.own t)
  | .rt (.bor i) ρ => match ρ[i]? with
    | some (.own none t) => .ok (.own t)
    | some (.fz t) => .ok (.fz t)
    | _ => .stuck
  | .er e _ => .err e
  | .bk _ => .stuck
  | .ct _ => .stuck
  | .stuck => .stuck
def RpP (K : PySem.W.Frag) (mg : Str → Option Value) (F H : Hp) (r : Rp) (Q : VK) (E : XK) : Prop := match r with
  | .ok v => ResP K mg F H (some v) Q
  | .err e => ∀ cls d F' H', Same F F' → Same H H' → Same F' H' → (∀ b, F' b ≠ none → F b ≠ none ∨ Nh H b) → ExR K mg F' H' e cls d → E cls d H'
  | .stuck => False
/-- the promise of a def that changes nothing: it runs as g says -/
def spP (K : PySem.W.Frag) (mg : Str → Option Value) (g : List T → Rp) : Sp := fun vs H Q E => ∃ F ts, Same F H ∧ Reps K mg F vs ts ∧ RpP K mg F H (g ts) Q E
def startP (N n : Nat) (ts : List T) : FX.Env := ts.map .fz ++ List.replicate (N - n) .un
def mkP (n N : Nat) (G : FX.Env → O) : List T → Rp := fun ts => if ts.length = n then endP (G (startP N n ts)) else .stuck
theorem startP_get {N n : Nat} {ts : List T} {i : Nat} {x : Sl} (h : (startP N n ts)[i]? = some x) : x = .un ∨ ∃ t, x = .fz t ∧ ts[i]? = some t := by
  unfold startP at h
  by_cases hi : i < ts.length
  · rw [List.getElem?_append_left (by simpa using hi), List.getElem?_map] at h
    cases e : ts[i]? with
    | none => rw [e] at h; cases h
    | some t => rw [e] at h; cases h; exact .inr ⟨t, rfl, rfl⟩
  · rw [List.getElem?_append_right (by simpa using hi), List.getElem?_replicate] at h
    split at h
    · cases h; exact .inl rfl
    · cases h
theorem startP_own {N n : Nat} {ts : List T} {σ : L2.St} {a : Addr} : ¬ OwnA (startP N n ts) σ a := fun ⟨i, k, t, h, _⟩ => by
  rcases startP_get h with e | ⟨t, e, _⟩ <;> cases e
theorem startP_rel {K : PySem.W.Frag} {mg : Str → Option Value} {au : Au} {N : List Str} {n : Nat} {ts : List T} {vs : List V} {F H : Hp} (s : Same F H) (r : Reps K mg F vs ts) (hn : ts.length = n) (nw : ∀ b, H b = none → au.new b) (ht : au.tb = []) : SRel K mg au (startP N.length n ts) (L2.start N vs) F H where
  sub := s
  nw := nw
  tabs := fun p hp => by rw [ht] at hp; cases hp
  len := by simp [startP, L2.start, r.length, hn]
  fz := fun {i t} h => by
    rcases startP_get h with e | ⟨t', e, h'⟩
    · cases e
    · cases e
      obtain ⟨v, hv, rv⟩ := r.get h'
      have hi : i < vs.length := (List.getElem?_eq_some_iff.mp hv).1
      exact ⟨v, by unfold L2.start; rw [List.getElem?_append_left (by simpa using hi), List.getElem?_map, hv]; rfl, rv⟩
  ow := fun h => by rcases startP_get h with e | ⟨t, e, _⟩ <;> cases e
  ds := fun h => by rcases startP_get h with e | ⟨t, e, _⟩ <;> cases e
  nt := fun h => absurd ht h
/-- the end of a body, as the promise wants it -/
theorem endP_post {X : Cx} {au : Au} {ρ : FX.Env} {σ : L2.St} {F H : Hp} {o : O} {Q : VK} {E : XK} (hn : ∀ a, ¬ OwnA ρ σ a) (ht : au.tb = []) (hnew : ∀ a, au.new a → H a = none) (h : RpP X.K X.mg F H (endP o) Q E) :
    PostS X au (fun cls d _ H => E cls d H) ρ σ F H o { nx := fun _ H' => Q .non H', rt := Q } := by
  have ext : ∀ {ρ' : FX.Env} {σ' : L2.St} {F' H' : Hp}, Xtn au ρ σ F H ρ' σ' F' H' → Same H H' ∧ ∀ b, F' b ≠ none → F b ≠ none ∨ Nh H b := fun x => ⟨fun b o q => x.hh b o q (fun z => absurd ht z) (hn b), fun b q => by
    rcases x.fn b q with z | z | z
    · exact .inl z
    · exact .inr z
    · exact absurd z (hn b)⟩
  cases o with
  | stuck => exact h
  | bk ρ' => exact h.elim
  | ct ρ' => exact h.elim
  | nx ρ' => exact fun σ' F' H' S' X' => h .non F' H' X'.ff (ext X').1 S'.sub (ext X').2 .non
  | er e ρ' => exact fun cls d σ' F' H' S' X' E' => h cls d F' H' X'.ff (ext X').1 S'.sub (ext X').2 E'
  | rt v ρ' =>
    intro x σ' F' H' S' X' V'
    cases v with
    | fz t => exact h x F' H' X'.ff (ext X').1 S'.sub (ext X').2 V'
    | own t =>
      obtain ⟨p, e, n, ow, n0, no⟩ := V'
      subst e
      exact h p F' H' X'.ff (ext X').1 S'.sub (ext X').2 n0 n ow
    | bor i =>
      obtain ⟨k, t, e1, e2⟩ := V'
      simp only [endP, e1] at h
      obtain ⟨a, ea, na, oa, da⟩ := S'.ow e1
      rw [e2] at ea; cases ea
      cases k with
      | some j => exact h.elim
      | none => exact h a F' H' X'.ff (ext X').1 S'.sub (ext X').2 (hnew a da) na oa
theorem RpP.len {K : PySem.W.Frag} {mg : Str → Option Value} {F H : Hp} {n N : Nat} {G : FX.Env → O} {ts : List T} {Q : VK} {E : XK} (h : RpP K mg F H (mkP n N G ts) Q E) : ts.length = n ∧ RpP K mg F H (endP (G (startP N n ts))) Q E := by
  unfold mkP at h
  split at h
  · rename_i e; exact ⟨e, h⟩
  · exact h.elim
section
variable {P : Program} {w : World} {K : PySem.W.Frag} {mg : Str → Option Value} {base : Heap}
theorem fnP {x qual : Str} {st : Stmt} {f : Addr} {fd : FuncData} {N ps : List Str} {k : Nat} {G : FX.Env → O} (Fn : Fun K x qual st f fd) (S : FnScope N ps (defScope st))
    (hb : ∀ (cdv : Value) (A : Around) (outer : List PySem.Env) (s : Shared) (H : Hp) (E : XK) (au : Au), au.tb = [] → Room k (A.deeper (envOfC qual (defScope st) s.heap.objs.size f cdv)) →
      RSs (cxOf (L2.CX P w) P w K mg base N qual (defScope st) f cdv A outer s H E) au (fun cls d _ H => E cls d H) (defBody st) G) : FnOk P w K mg base (L2.CX P w) (k + 1) f fd ps (spP K mg (mkP ps.length N.length G)) := by
  refine Fn.okX S (fun vs H Q E ⟨F, ts, s0, r, h⟩ => by rw [r.length]; exact h.len.1) fun cdv A outer s H vs Q E hr ⟨F, ts, s0, r, h⟩ => ?_
  obtain ⟨hl, h⟩ := h.len
  refine ⟨_, (hb cdv A outer s H E ⟨fun _ => 0, fun b => H b = none, []⟩ rfl hr).pss, F, startP N.length ps.length ts, startP_rel s0 r hl (fun _ h => h) rfl, ?_⟩
  exact endP_post (fun a => startP_own) rfl (fun a h => h) h
end
section
variable {X : Cx} {au : Au} {W : WX}
def Rp.r (r : Rp) (ρ : FX.Env) : R Vl := match r with
  | .ok v => R.of (some v) ρ
  | .err e => .err e ρ
  | .stuck => .stuck
def fCall (g : List T → Rp) (fa : FX.Env → R (List Vl)) : FX.Env → R Vl := fEsc fa fun ts ρ => (g ts).r ρ
theorem rp_post {ρ : FX.Env} {σ : L2.St} {F H : Hp} (S : SRel X.K X.mg au ρ σ F H) {r : Rp} {Q : VK} (h : Post X au W (VE X) ρ σ F H (r.r ρ) Q) : RpP X.K X.mg F H r Q (fun cls d H => W cls d σ H) := by
  cases r with
  | stuck => exact h
  | ok v => exact res_post S h
  | err e =>
    intro cls d F' H' s1 s2 s3 nw E'
    obtain ⟨F2, C⟩ := clean (K := X.K) (mg := X.mg) S.nt s1 s3 nw
    obtain ⟨C', dx, fs, e1, e2, e3, e4, e5⟩ := E'
    exact h cls d F2 H' (S.new C.s s2 C.s3 C.nw C.nt) (Xt.new C.s s2 C.nw) ⟨C', dx, fs, e1, e2, e3, e4, C.repF e5⟩
theorem re_call {x : Str} {f : Addr} {fd : FuncData} {ps : List Str} {k : Nat} {g : List T → Rp} {e : Expr} {es : List Expr} {fa : FX.Env → R (List Vl)} {p pos : Pos} (F : FnOk X.prog X.w X.K X.mg X.base (L2.CX X.prog X.w) k f fd ps (spP X.K X.mg g)) (tk : Takes X W) (hr : Room k X.A) (hm : X.mg x = some (.ref f)) (hk : PySem.W.keepIn X.K (.ref f) = true)
    (hb : Binds X.K fd ps []) (ha : RA X au W (e :: es) fa) (hg : Gl X x := by rfl) (hdb : (x == ("__debug__" : Str)) = false := by decide) (he : starEach (e :: es) X.env = (false, eval e X.env) :: starEach es X.env := by rfl) (hpl : (backTo pos (starEach es X.env)).any (·.1) = false := by rfl) :
    RE X au W (.Call (.Name x p) (e :: es) [] pos) (fCall g fa) := by
  refine ⟨PE.imp (pe_callS (E := fun σ cls d H => W cls d σ H) F hr hg hm hk hb (fun σ => passAt tk σ) ha.pa hdb he hpl) fun σ H Q ⟨F, ρ, S, q⟩ => ?_⟩
  exact ⟨F, ρ, S, esc_post early_VE q fun xs ts ρ1 F1 H1 S1 r q1 => ⟨F1, ts, S1.sub, r, rp_post S1 q1⟩⟩
/-! ### attributes -/
def fAttr (c f : Str) (fa : FX.Env → R Vl) : FX.Env → R Vl := fun ρ => (fa ρ).norm.bind fun v ρ1 => match look ρ1 v with
  | some (.ins c' fs) => if c' = c then R.of ((fs.lookup f).map .fz) ρ1 else .stuck
  | _ => .stuck
theorem RepF.look {K : PySem.W.Frag} {mg : Str → Option Value} {F : Hp} {f : Str} : ∀ {vs : List (Str × V)} {ts : List (Str × T)} {t : T}, RepF K mg F vs ts → ts.lookup f = some t → ∃ v, vs.lookup f = some v ∧ Rep K mg F v t
  | _, _, _, .nil, e => by simp [List.lookup] at e
  | _, _, t, .cons (k := k) h r, e => by
    simp only [List.lookup] at e ⊢
    split at e
    · cases e; exact ⟨_, rfl, h⟩
    · exact RepF.look r e
theorem re_attr {c f : Str} {C : Addr} {e : Expr} {fa : FX.Env → R Vl} {pos : Pos} (hc : X.mg c = some (.ref C)) (cl : Cls X.K C) (na : NoAttr X.K C f) (he : RE X au W e fa) (hb : attributeBase e f X.env (eval e X.env) = eval e X.env := by rfl) : RE X au W (.Attribute e f pos) (fAttr c f fa) := by
  refine ⟨PE.imp (pe_fld he.pe hb) fun σ H Q ⟨F, ρ, S, h⟩ => ⟨F, ρ, S, Post.bindN early_VE h fun x v ρ1 F1 H1 S1 X1 V1 h1 => ?_⟩⟩
  split at h1
  · rename_i c' fs e1
    split at h1
    · rename_i ec
      subst ec
      cases look_o S1 V1 e1 with
      | ins hc' ha r =>
        rw [hc] at hc'
        cases hc'
        cases e2 : fs.lookup f with
        | none => rw [e2] at h1; exact h1.elim
        | some t =>
          rw [e2] at h1
          obtain ⟨v', ev, rv⟩ := r.look e2
          exact ⟨_, C, _, _, v', rfl, ha, cl, na, ev, h1 v' F1 H1 S1 (Xt.refl _ _ _ _) rv⟩
    · exact h1.elim
  · exact h1.elim
/-! ### own exceptions, one field -/
/-- the promise of PartError.__init__ -/
def spXI (K : PySem.W.Frag) : Sp := fun vs H Q _ => ∃ (a C : Addr) (v : V), vs = [.ref a, v] ∧ OexC K C ∧ PySem.W.findIn K (.ref C) "value" = some none ∧ H a = some (exo a C none) ∧ ∀ dx, H dx = none → dx ≠ a → Q .non (upd (upd H dx (exd dx [("value", v)])) a (exo a C (some dx)))
structure ExcC (K : PySem.W.Frag) (C fI : Addr) : Prop where
  ox : OexC K C
  nv : PySem.W.findIn K (.ref C) "value" = some none
  init : PySem.W.findIn K (.ref C) "__init__" = some (some (.ref fI))
  tyI : PySem.W.typeIn K (.ref fI) = some (.type "function")
def gRaise (c : Str) (fa : FX.Env → R (List Vl)) : FX.Env → O := fun ρ => (fa ρ).o fun vs ρ1 => match escs vs ρ1 with
  | some ([t], ρ2) => .er ⟨c, [("value", t)]⟩ ρ2
  | _ => .stuck
theorem rs_raise {c : Str} {C fI : Addr} {fd : FuncData} {k : Nat} {e : Expr} {fa : FX.Env → R (List Vl)} {p p2 pos : Pos} (T : ExcC X.K C fI) (FI : FnOk X.prog X.w X.K X.mg X.base (L2.CX X.prog X.w) k fI fd ["self", "value"] (spXI X.K)) (tk : Takes X W) (hr : Room (k + 1) X.A) (hb : Binds X.K fd ["self", "value"] [])
    (hm : X.mg c = some (.ref C)) (ha : RA X au W [e] fa) (hg : Gl X c := by rfl) (hc : X.calm = true := by rfl) (hdb : (c == ("__debug__" : Str)) = false := by decide) (he : starEach [e] X.env = (false, eval e X.env) :: starEach [] X.env := by rfl) (hpl : (backTo p2 (starEach [] X.env)).any (·.1) = false := by rfl) :
    RS X au W (.Raise (some (.Call (.Name c p) [e] [] p2)) none pos) (gRaise c fa) := by
  have hx : Passes (L2.CX X.prog X.w) X (fun _ _ _ => False) := fun _ _ _ _ _ _ _ h => by
    obtain ⟨_, _, _, _, _, _, _, _, _, _, _, _, z⟩ := h
    exact z.elim
  refine ⟨PS.imp (ps_raise hc tk (pmk_oex T.ox T.init T.tyI FI hr hb .nil hx hg hm ha.pa hdb he hpl)) fun D σ H ⟨F, ρ, S, q⟩ => ⟨F, ρ, S, PostS.eval q fun xs vs ρ1 F1 H1 e S1 X1 V1 h1 => ?_⟩⟩
  split at h1
  · rename_i t ρ2 e2
    obtain ⟨F2, S2, X2, r⟩ := escs_ok S1 V1 e2
    cases r with
    | @cons x _ _ _ rx r =>
      cases r
      refine ⟨by simp, fun a na => ⟨a, C, x, by simp, T.ox, T.nv, upd_same, fun dx nd ne => ⟨rfl, dx, [("value", x)], upd_same, by rw [upd_ne ne]; exact upd_same, ?_, ?_⟩⟩⟩
      · rw [upd_ne ne] at nd; exact nd
      · have nd' : H1 dx = none := by rw [upd_ne ne] at nd; exact nd
        have eh : upd (del (upd (upd (upd H1 a (exo a C none)) dx (exd dx [("value", x)])) a (exo a C (some dx))) a) dx (.xd [("value", x)]) = upd H1 dx (.xd [("value", x)]) := by
          funext b
          by_cases h1 : b = dx
          · rw [h1, upd_same, upd_same]
          · rw [upd_ne h1, upd_ne h1]
            by_cases h2 : b = a
            · rw [h2, del_same, na]
            · rw [del_ne h2, upd_ne h2, upd_ne h1, upd_ne h2]
        rw [eh]
        have s2 : Same H1 (upd H1 dx (.xd [("value", x)])) := same_upd nd'
        have nw : ∀ b, F2 b ≠ none → F2 b ≠ none ∨ Nh H1 b := fun b h => .inl h
        exact h1 _ _ σ F2 _ (S2.new (.refl _) s2 (S2.sub.trans s2) nw S2.nt) ((X1.trans X2).trans (Xt.new (.refl _) s2 nw)) ⟨C, dx, _, hm, rfl, rfl, upd_same, .cons rx .nil⟩
  · exact h1.elim
end
end FX
end

section
set_option Elab.async false
set_option linter.all false
set_option maxRecDepth 100000
set_option maxHeartbeats 4000000
namespace FX
open PySem PySem.Spec PyProof.Rows L2
/-! ### comprehensions -/
def wipeE (ρ : FX.Env) : List Nat → FX.Env
  | [] => ρ
  | v :: vs => (wipeE ρ vs).set v .un
/-- behind a block: its own slots as they were -/
def backE (ρ : FX.Env) : List Nat → FX.Env → FX.Env
  | [], ρ' => ρ'
  | v :: vs, ρ' => (backE ρ vs ρ').set v (ρ[v]?.getD .un)
theorem wipeE_length (ρ : FX.Env) : ∀ vs, (wipeE ρ vs).length = ρ.length
  | [] => rfl
  | v :: vs => by unfold wipeE; rw [List.length_set, wipeE_length ρ vs]
theorem backE_length (ρ ρ' : FX.Env) : ∀ vs, (backE ρ vs ρ').length = ρ'.length
  | [] => rfl
  | v :: vs => by unfold backE; rw [List.length_set, backE_length ρ ρ' vs]
theorem wipeE_get {ρ : FX.Env} {i : Nat} {x : Sl} : ∀ {vs : List Nat}, (wipeE ρ vs)[i]? = some x → x = .un ∨ (ρ[i]? = some x ∧ i ∉ vs)
  | [], h => .inr ⟨h, by simp⟩
  | v :: vs, h => by
    unfold wipeE at h
    rcases set_get h with ⟨_, e⟩ | ⟨ne, h⟩
    · exact .inl e
    · rcases wipeE_get h with e | ⟨e, n⟩
      · exact .inl e
      · exact .inr ⟨e, by simp only [List.mem_cons, not_or]; exact ⟨ne, n⟩⟩
theorem backE_get {ρ ρ' : FX.Env} {i : Nat} {x : Sl} (hl : ρ'.length = ρ.length) : ∀ {vs : List Nat}, (backE ρ vs ρ')[i]? = some x → (i ∈ vs ∧ ρ[i]? = some x) ∨ (i ∉ vs ∧ ρ'[i]? = some x)
  | [], h => .inr ⟨by simp, h⟩
  | v :: vs, h => by
    have hb : i < (backE ρ (v :: vs) ρ').length := (List.getElem?_eq_some_iff.mp h).1
    rw [backE_length, hl] at hb
    unfold backE at h
    rcases set_get h with ⟨e, e2⟩ | ⟨ne, h⟩
    · subst e
      refine .inl ⟨List.mem_cons_self, ?_⟩
      rw [e2, List.getElem?_eq_getElem hb]
      rfl
    · rcases backE_get hl h with ⟨m, e⟩ | ⟨m, e⟩
      · exact .inl ⟨List.mem_cons_of_mem _ m, e⟩
      · exact .inr ⟨by simp only [List.mem_cons, not_or]; exact ⟨ne, m⟩, e⟩
theorem wipe_in {σ : L2.St} {i : Nat} : ∀ {vs : List Nat}, i ∈ vs → (wipe σ vs)[i]? = if i < σ.length then some none else none
  | v :: vs, h => by
    unfold wipe
    by_cases e : v = i
    · subst e
      by_cases hl : v < σ.length
      · rw [if_pos hl, List.getElem?_set_self (by rw [wipe_length]; exact hl)]
      · rw [if_neg hl, List.getElem?_eq_none (by rw [List.length_set, wipe_length]; omega)]
    · rw [List.getElem?_set_ne e]
      rcases List.mem_cons.mp h with z | z
      · exact absurd z.symm e
      · exact wipe_in z
theorem wipe_ext {σ σ' : L2.St} {vs : List Nat} (hl : σ'.length = σ.length) (h : ∀ i, i ∉ vs → σ'[i]? = σ[i]?) : wipe σ' vs = wipe σ vs := by
  refine List.ext_getElem? fun i => ?_
  by_cases m : i ∈ vs
  · rw [wipe_in m, wipe_in m, hl]
  · rw [wipe_out m, wipe_out m]; exact h i m
theorem wipe_get {σ : L2.St} {i : Nat} {vs : List Nat} (h : i ∉ vs) : (wipe σ vs)[i]? = σ[i]? := wipe_out h
section
variable {K : PySem.W.Frag} {mg : Str → Option Value} {au : Au} {ρ ρ' : FX.Env} {σ σ' : L2.St} {F F' H H' : Hp} {vs : List Nat}
theorem wipeE_own {a : Addr} (h : OwnA (wipeE ρ vs) (wipe σ vs) a) : OwnA ρ σ a := by
  obtain ⟨i, k, t, h1, h2⟩ := h
  rcases wipeE_get h1 with e | ⟨e, n⟩
  · cases e
  · exact ⟨i, k, t, e, by rw [← wipe_get n]; exact h2⟩
theorem SRel.wipe (S : SRel K mg au ρ σ F H) (vs : List Nat) : SRel K mg au (wipeE ρ vs) (L2.wipe σ vs) F H where
  nt := S.nt
  sub := S.sub
  nw := S.nw
  tabs := S.tabs
  len := by rw [wipeE_length, wipe_length]; exact S.len
  fz := fun h => by
    rcases wipeE_get h with e | ⟨e, n⟩
    · cases e
    · obtain ⟨v, a, b⟩ := S.fz e
      exact ⟨v, by rw [wipe_get n]; exact a, b⟩
  ow := fun h => by
    rcases wipeE_get h with e | ⟨e, n⟩
    · cases e
    · obtain ⟨a, ea, b⟩ := S.ow e
      exact ⟨a, by rw [wipe_get n]; exact ea, b⟩
  ds := fun h1 h2 e1 e2 => by
    rcases wipeE_get h1 with e | ⟨a1, n1⟩
    · cases e
    · rcases wipeE_get h2 with e | ⟨a2, n2⟩
      · cases e
      · exact S.ds a1 a2 (by rw [← wipe_get n1]; exact e1) (by rw [← wipe_get n2]; exact e2)
theorem Xt.wipe {lam : Prop} (S : SRel K mg au ρ σ F H) : Xt lam (OwnA ρ σ) F H (OwnA (wipeE ρ vs) (L2.wipe σ vs)) F H := (Xt.refl _ _ _ _).imp fun b h => wipeE_own h
/-- out of the block -/
theorem SRel.back (S : SRel K mg au ρ σ F H) (S' : SRel K mg au ρ' σ' F' H') (x : Xt (au.tb ≠ []) (OwnA (wipeE ρ vs) (L2.wipe σ vs)) F H (OwnA ρ' σ') F' H') (hw : L2.wipe σ' vs = L2.wipe σ vs) :
    SRel K mg au (backE ρ vs ρ') σ F' H' ∧ Xt (au.tb ≠ []) (OwnA ρ σ) F H (OwnA (backE ρ vs ρ') σ) F' H' := by
  have ls : σ'.length = σ.length := by have := congrArg List.length hw; rwa [wipe_length, wipe_length] at this
  have hl : ρ'.length = ρ.length := by rw [S'.len, S.len, ls]
  have out : ∀ {i : Nat}, i ∉ vs → σ'[i]? = σ[i]? := fun n => by rw [← wipe_get n, hw, wipe_get n]
  -- an owned object of a hidden slot is as it was
  have hid : ∀ {i : Nat} {k : Option Nat} {t : T} {a : Addr}, i ∈ vs → ρ[i]? = some (.own k t) → σ[i]? = some (some (.ref a)) → ¬ OwnA (wipeE ρ vs) (L2.wipe σ vs) a := by
    intro i k t a m h1 h2 ⟨j, k', t', h3, h4⟩
    rcases wipeE_get h3 with e | ⟨e, n⟩
    · cases e
    · rw [wipe_get n] at h4
      have := S.ds h1 e h2 h4
      subst this
      exact n m
  have keep : ∀ {i : Nat} {k : Option Nat} {t : T}, i ∈ vs → ρ[i]? = some (.own k t) → ∃ a, σ[i]? = some (some (.ref a)) ∧ F' a = none ∧ OwnAt K mg F' H' a t ∧ OwnId au k a := by
    intro i k t m h
    obtain ⟨a, ea, na, oa, da⟩ := S.ow h
    have nh := hid m h ea
    obtain ⟨o, ho, nt, _⟩ := oa.there
    refine ⟨a, ea, ?_, oa.mono x.ff fun u hu nu => x.hh a u hu (fun _ => nu) nh, da⟩
    cases q : F' a with
    | none => rfl
    | some u =>
      rcases x.fn a (by rw [q]; simp) with z | z | z
      · exact absurd na z
      · exact absurd z oa.nh
      · exact absurd z nh
  have own : ∀ {i : Nat} {k : Option Nat} {t : T} {a : Addr}, (backE ρ vs ρ')[i]? = some (.own k t) → σ[i]? = some (some (.ref a)) → (i ∈ vs ∧ ρ[i]? = some (.own k t)) ∨ (i ∉ vs ∧ ρ'[i]? = some (.own k t) ∧ σ'[i]? = some (some (.ref a))) := by
    intro i k t a h1 h2
    rcases backE_get hl h1 with ⟨m, e⟩ | ⟨m, e⟩
    · exact .inl ⟨m, e⟩
    · exact .inr ⟨m, e, by rw [out m]; exact h2⟩
  have apart : ∀ {i j : Nat} {k k' : Option Nat} {t t' : T} {a : Addr}, i ∈ vs → ρ[i]? = some (.own k t) → σ[i]? = some (some (.ref a)) → ρ'[j]? = some (.own k' t') → σ'[j]? = some (some (.ref a)) → False := by
    intro i j k k' t t' a m h1 h2 h3 h4
    rcases x.ow a ⟨j, k', t', h3, h4⟩ with z | z
    · exact hid m h1 h2 z
    · obtain ⟨a', ea, _, oa, _⟩ := S.ow h1
      rw [h2] at ea; cases ea
      obtain ⟨o, ho, _⟩ := oa.there
      rw [ho] at z; cases z
  refine ⟨⟨S'.sub, S'.nw, S'.tabs, by rw [backE_length, hl]; exact S.len, fun {i t} h => ?_, fun {i k t} h => ?_, fun {i j k k' t t' a} h1 h2 e1 e2 => ?_, S'.nt⟩, ⟨x.ff, fun b o h1 h2 h3 => x.hh b o h1 h2 fun z => h3 (wipeE_own z), x.nn, fun b h => ?_, fun b ⟨i, k, t, h1, h2⟩ => ?_, fun b vs' h => (x.tp b vs' h).imp id fun z => wipeE_own z⟩⟩
  · rcases backE_get hl h with ⟨m, e⟩ | ⟨m, e⟩
    · obtain ⟨v, a, b⟩ := S.fz e; exact ⟨v, a, b.mono x.ff⟩
    · obtain ⟨v, a, b⟩ := S'.fz e; exact ⟨v, by rw [← out m]; exact a, b⟩
  · rcases backE_get hl h with ⟨m, e⟩ | ⟨m, e⟩
    · exact keep m e
    · obtain ⟨a, ea, b⟩ := S'.ow e; exact ⟨a, by rw [← out m]; exact ea, b⟩
  · rcases own h1 e1 with ⟨m1, a1⟩ | ⟨m1, a1, b1⟩
    · rcases own h2 e2 with ⟨m2, a2⟩ | ⟨m2, a2, b2⟩
      · exact S.ds a1 a2 e1 e2
      · exact (apart m1 a1 e1 a2 b2).elim
    · rcases own h2 e2 with ⟨m2, a2⟩ | ⟨m2, a2, b2⟩
      · exact (apart m2 a2 e2 a1 b1).elim
      · exact S'.ds a1 a2 b1 b2
  · rcases x.fn b h with z | z | z
    · exact .inl z
    · exact .inr (.inl z)
    · exact .inr (.inr (wipeE_own z))
  · rcases own h1 h2 with ⟨m, a⟩ | ⟨m, a, b'⟩
    · exact .inl ⟨i, k, t, a, h2⟩
    · rcases x.ow b ⟨i, k, t, a, b'⟩ with z | z
      · exact .inl (wipeE_own z)
      · exact .inr z
end
/-- a temporary object is changed -/
theorem SRel.tmp {K : PySem.W.Frag} {mg : Str → Option Value} {au : Au} {ρ : FX.Env} {σ : L2.St} {F H : Hp} {D : Addr} {o o' : HO} (S : SRel K mg au ρ σ F H) (fD : F D = none) (oD : ¬ OwnA ρ σ D) (hD : H D = some o) (n1 : ∀ ps, o ≠ .tbl ps) (n2 : ∀ φ, o ≠ .ext φ) : SRel K mg au ρ σ F (upd H D o') where
  nt := S.nt
  sub := fun b u q => by rw [upd_ne (fun z => by rw [z, fD] at q; cases q)]; exact S.sub _ _ q
  nw := fun b hb => S.nw b (by
    by_cases z : b = D
    · subst z; rw [upd_same] at hb; cases hb
    · rw [upd_ne z] at hb; exact hb)
  tabs := tabs_upd S.tabs hD n1 n2
  len := S.len
  fz := S.fz
  ow := fun {i k t} h => by
    obtain ⟨a, ea, na, oa, da⟩ := S.ow h
    have hne : a ≠ D := fun z => oD (by rw [← z]; exact ⟨i, k, t, h, ea⟩)
    exact ⟨a, ea, na, oa.mono (.refl _) (fun u q _ => by rw [upd_ne hne]; exact q), da⟩
  ds := S.ds
theorem Xt.tmp {lam : Prop} {A A' : Addr → Prop} {F H F' H' : Hp} {D : Addr} {o' : HO} (x : Xt lam A F H A' F' H') (nD : H D = none) : Xt lam A F H A' F' (upd H' D o') where
  ff := x.ff
  hh := fun b o h1 h2 h3 => by rw [upd_ne (fun z => by rw [z, nD] at h1; cases h1)]; exact x.hh b o h1 h2 h3
  nn := fun b hb => by
    by_cases z : b = D
    · rw [z]; exact nD
    · rw [upd_ne z] at hb; exact x.nn b hb
  fn := x.fn
  ow := x.ow
  tp := fun b vs hb => by
    by_cases z : b = D
    · rw [z]; exact .inl (.inl nD)
    · rw [upd_ne z] at hb; exact x.tp b vs hb
abbrev WF : WX := fun _ _ _ _ => False
def lcL (vs : List Nat) (b : T → FX.Env → Option FX.Env) (ft : FX.Env → R Bool) (fe : FX.Env → R Vl) : List T → List T → FX.Env → R (List T)
  | [], acc, ρ => .ok acc ρ
  | t :: ts, acc, ρ => match b t (wipeE ρ vs) with
    | none => .stuck
    | some ρ1 => match ft ρ1 with
      | .ok true ρ2 => match (fe ρ2).norm with
        | .ok v ρ3 => match esc1 v ρ3 with
          | some (y, ρ4) => if acc.length ≤ 1000000 then lcL vs b ft fe ts (acc ++ [y]) (backE ρ vs ρ4) else .stuck
          | none => .stuck
        | _ => .stuck
      | .ok false ρ2 => lcL vs b ft fe ts acc (backE ρ vs ρ2)
      | _ => .stuck
def fLc (vs : List Nat) (fi : FX.Env → R (List T)) (b : T → FX.Env → Option FX.Env) (ft : FX.Env → R Bool) (fe : FX.Env → R Vl) : FX.Env → R Vl := fun ρ => (fi ρ).bind fun ts ρ1 => (lcL vs b ft fe ts [] ρ1).map fun ys => .own (.lst ys)
theorem le_mill {n : Nat} (h : n ≤ 1000000) : n < sizeLine := by rw [sizeLine_eq]; omega
section
variable {X : Cx} {au : Au} {W : WX}
theorem Post.okF {α β : Type} {VR : FX.Env → L2.St → Hp → Hp → Hp → β → α → Prop} {ρ : FX.Env} {σ : L2.St} {F H : Hp} {r : R α} {v : α} {ρ1 : FX.Env} {Q : β → Hp → Prop} (e : r = .ok v ρ1)
    (h : ∀ x F1 H1, SRel X.K X.mg au ρ1 σ F1 H1 → Xtn au ρ σ F H ρ1 σ F1 H1 → VR ρ1 σ F1 H1 H x v → Q x H1) : Post X au W VR ρ σ F H r Q := by
  subst e; exact h
theorem lc_of {vs ws : List Nat} {fi : FX.Env → R (List T)} {b : T → FX.Env → Option FX.Env} {ft : FX.Env → R Bool} {fe : FX.Env → R Vl} {σ : L2.St} {H : Hp} {Q : VK} (hws : ∀ i ∈ ws, i ∈ vs) (q : tF X au W (VE X) (fLc vs fi b ft fe) σ H Q) :
    tLc (tF X au W (VW X) fi) (tgR X au ws b) (tF X au WF VB ft) (tF X au WF (VE X) fe) vs σ H Q := by
  obtain ⟨F, ρ, S, h⟩ := q
  refine ⟨F, ρ, S, Post.bind early_VE h fun J ts ρ1 F1 H1 e S1 X1 V1 h1 => ?_⟩
  intro D nD
  obtain ⟨G, Y, wk, hG, hY⟩ := V1
  have nFD : F1 D = none := S1.sub.free nD
  have Sd : SRel X.K X.mg au ρ1 σ F1 (upd H1 D (.lst [])) := S1.new (.refl _) (same_upd nD) (S1.sub.trans (same_upd nD)) (fun _ h => .inl h) S1.nt
  have Xd : Xtn au ρ1 σ F1 H1 ρ1 σ F1 (upd H1 D (.lst [])) := Xt.new (.refl _) (same_upd nD) fun _ h => .inl h
  refine lc_it wk (g := tgR X au ws b) (tt := tF X au WF VB ft) (te := tF X au WF (VE X) fe) (fun i H' => ∃ F' ρ' accV acc, SRel X.K X.mg au ρ' σ F' H' ∧ Xtn au ρ1 σ F1 H1 ρ' σ F' H' ∧ Same F1 F' ∧ H' D = some (.lst accV) ∧ F' D = none ∧ ¬ OwnA ρ' σ D ∧ Reps X.K X.mg F' accV acc ∧
      Post X au W (VE X) ρ1 σ F1 H1 ((lcL vs b ft fe (ts.drop i) acc ρ').map fun ys => .own (.lst ys)) Q)
    ⟨F1, ρ1, [], [], Sd, Xd, .refl _, upd_same, nFD, fun ⟨i, k, t, h1, h2⟩ => ?_, .nil, by simpa using h1⟩ (fun i H' _ ⟨F', ρ', _, _, S', _, s, _⟩ => hG F' H' s S'.sub) ?_ ?_
  · obtain ⟨a, ea, _, oa, _⟩ := S1.ow h1
    rw [h2] at ea; cases ea
    obtain ⟨o, ho, _⟩ := oa.there
    rw [nD] at ho; cases ho
  · rintro i x H' H2 hi ⟨F', ρ', accV, acc, S', X', s', hD, fD, oD, rA, h'⟩ y
    have ht : ts[i]? = some ts[i] := by simp [hi]
    obtain ⟨F0, s1, s2, s3, nw, r⟩ := hY i H' x H2 F' ts[i] ht s' S'.sub y
    obtain ⟨F2, C⟩ := clean (K := X.K) (mg := X.mg) S'.nt s1 s3 nw
    replace s1 := C.s
    replace s3 := C.s3
    replace nw := C.nw
    replace r := C.rep r
    have S2 := S'.new s1 s2 s3 nw C.nt
    have X2 : Xtn au ρ' σ F' H' ρ' σ F2 H2 := Xt.new s1 s2 nw
    have S2w := S2.wipe vs
    have fD2 : F2 D = none := by
      cases q : F2 D with
      | none => rfl
      | some u =>
        rcases nw D (by rw [q]; simp) with z | z
        · exact absurd fD z
        · first | (rw [hD] at z; cases z) | exact absurd z (nh_no hD fun vs z => by cases z)
    have hD2 : H2 D = some (.lst accV) := s2 _ _ hD
    have oD2 : ¬ OwnA (wipeE ρ' vs) (wipe σ vs) D := fun z => oD (wipeE_own z)
    rw [List.drop_eq_getElem_cons hi] at h'
    simp only [lcL] at h'
    cases eb : b ts[i] (wipeE ρ' vs) with
    | none => rw [eb] at h'; exact h'.elim
    | some ρ3 =>
      rw [eb] at h'
      dsimp only at h'
      refine ⟨F2, wipeE ρ' vs, ts[i], ρ3, S2w, r, eb, fun σ3 S3 o3 k3 l3' => ?_⟩
      have l3 : σ3.length = σ.length := by rw [l3', wipe_length]
      have hw : wipe σ3 vs = wipe σ vs := wipe_ext l3 fun j hj => (k3 j fun z => hj (hws j z)).trans (wipe_out hj)
      refine ⟨hw, F2, ρ3, S3, ?_⟩
      have X3 : Xtn au (wipeE ρ' vs) (wipe σ vs) F2 H2 ρ3 σ3 F2 H2 := (Xt.refl _ _ _ _).imp o3
      -- out of the block, at whatever state
      have out : ∀ {ρ4 : FX.Env} {F4 H4 : Hp}, SRel X.K X.mg au ρ4 σ3 F4 H4 → Xtn au ρ3 σ3 F2 H2 ρ4 σ3 F4 H4 →
          SRel X.K X.mg au (backE ρ' vs ρ4) σ F4 H4 ∧ Xtn au ρ1 σ F1 H1 (backE ρ' vs ρ4) σ F4 H4 ∧ Same F1 F4 ∧ H4 D = some (.lst accV) ∧ F4 D = none ∧ ¬ OwnA (backE ρ' vs ρ4) σ D ∧ Reps X.K X.mg F4 accV acc := by
        intro ρ4 F4 H4 S4 X4
        have X5 := X3.trans X4
        obtain ⟨Sb, Xb⟩ := S2.back S4 X5 hw
        have oD3 : ¬ OwnA ρ3 σ3 D := fun z => oD2 (o3 D z)
        have hD4 : H4 D = some (.lst accV) := X4.hh D _ hD2 (fun _ ps z => by cases z) oD3
        refine ⟨Sb, (X'.trans X2).trans Xb, (s'.trans s1).trans X4.ff, hD4, ?_, fun z => ?_, Reps.mono (s1.trans X4.ff) rA⟩
        · cases q : F4 D with
          | none => rfl
          | some u =>
            rcases X4.fn D (by rw [q]; simp) with z | z | z
            · exact absurd fD2 z
            · first | (rw [hD2] at z; cases z) | exact absurd z (nh_no hD2 fun vs z => by cases z)
            · exact absurd z oD3
        · rcases Xb.ow D z with z | z
          · exact oD z
          · first | (rw [hD2] at z; cases z) | exact absurd z (nh_no hD2 fun vs z => by cases z)
      cases et : ft ρ3 with
      | stuck => rw [et] at h'; exact h'.elim
      | err e' ρ4 => rw [et] at h'; exact h'.elim
      | ok bb ρ4 =>
        rw [et] at h'
        intro c F4 H4 S4 X4 V4
        have V4 : c = bb := V4
        subst V4
        cases c with
        | false =>
          rw [if_neg Bool.false_ne_true]
          obtain ⟨a1, a2, a3, a4, a5, a6, a7⟩ := out S4 X4
          exact ⟨F4, _, accV, acc, a1, a2, a3, a4, a5, a6, a7, h'⟩
        | true =>
          rw [if_pos rfl]
          refine ⟨F4, ρ4, S4, ?_⟩
          dsimp only at h'
          cases ee : (fe ρ4).norm with
          | stuck => rw [ee] at h'; exact h'.elim
          | err e' ρ5 => rw [ee] at h'; exact h'.elim
          | ok v ρ5 =>
            rw [ee] at h'
            dsimp only at h'
            refine norm_post (Post.okF ee fun yv F5 H5 S5 X5 V5 => ?_)
            have hv : Held X.K X.mg σ3 F5 yv v := norm_held ⟨_, ee⟩ V5
            cases ec : esc1 v ρ5 with
            | none => rw [ec] at h'; exact h'.elim
            | some p =>
              obtain ⟨yt, ρ6⟩ := p
              rw [ec] at h'
              dsimp only at h'
              split at h'
              · rename_i hlen
                obtain ⟨F6, S6, X6, ry⟩ := esc1_ok S5 hv ec
                obtain ⟨a1, a2, a3, a4, a5, a6, a7⟩ := out S6 ((X4.trans X5).trans X6)
                refine ⟨accV, a4, le_mill (by rw [a7.length]; exact hlen), ?_⟩
                refine ⟨F6, _, accV ++ [yv], acc ++ [yt], ?_, ?_, a3, upd_same, a5, a6, a7.append (.cons ry .nil), h'⟩
                · exact a1.tmp a5 a6 a4 (fun ps z => by cases z) (fun φ z => by cases z)
                · exact a2.tmp nD
              · exact h'.elim
  · rintro H' ⟨F', ρ', accV, acc, S', X', s', hD, fD, oD, rA, h'⟩
    rw [List.drop_length] at h'
    exact h' (.ref D) F' H' S' X' ⟨D, rfl, fD, .lst hD rA, nD, oD⟩
structure RTs (X : Cx) (au : Au) (W : WX) (ifs : List Expr) (f : FX.Env → R Bool) : Prop where
  pts : PTs X ifs (tF X au W VB f)
theorem PTs.imp {e : List Expr} {t t' : TT} (h : PTs X e t) (i : ∀ σ H Q, t' σ H Q → t σ H Q) : PTs X e t' := ⟨fun pins s σ H Q I q => h.run pins s σ H Q I (i σ H Q q)⟩
def fYes : FX.Env → R Bool := fun ρ => .ok true ρ
theorem rts_nil : RTs X au W [] fYes := ⟨PTs.imp pts_nil fun σ H Q ⟨F, ρ, S, h⟩ => h true F H S (Xt.refl _ _ _ _) rfl⟩
theorem rts_one {c : Expr} {f : FX.Env → R Bool} (h : RT X au W c f) : RTs X au W [c] f := ⟨pts_one h.pt⟩
section
variable {elt tg iter : Expr} {ifs : List Expr} {scope : Scope} {own : List (Str × Nat)} {pos spos py : Pos} {fi : FX.Env → R (List T)} {ws : List Nat} {b : T → FX.Env → Option FX.Env} {ft : FX.Env → R Bool} {fe : FX.Env → R Vl} {y : Str}
theorem re_lc (hN : X.N.Nodup) (hi : RI X au W tg iter fi) (ok : BlkOk X.N X.env.scope scope own) (hws : ∀ i ∈ ws, i ∈ own.map (·.2))
    (hg : ∀ (s : Shared) (H : Hp) (C : Addr) (cl : List (Str × Addr)) (fp : List Addr), RG (X.blk s H scope (compEnvC scope cl C X.env) fp) au ws tg b) (ht : ∀ (s : Shared) (H : Hp) (C : Addr) (cl : List (Str × Addr)) (fp : List Addr), RTs (X.blk s H scope (compEnvC scope cl C X.env) fp) au WF ifs ft)
    (he : ∀ (s : Shared) (H : Hp) (C : Addr) (cl : List (Str × Addr)) (fp : List Addr), RE (X.blk s H scope (compEnvC scope cl C X.env) fp) au WF elt fe) (hc : X.calm = true := by rfl) (hs : ∀ x, foldedSetIterable iter X.env x = pure x := by intro _; rfl) :
    RE X au W (.ListComp elt [⟨tg, iter, ifs, 0⟩] scope pos) (fLc (own.map (·.2)) fi b ft fe) :=
  ⟨PE.imp (pe_lc (g := tgR X au ws b) (tt := tF X au WF VB ft) (te := tF X au WF (VE X) fe) hc hN hi.pi ok (fun s H C cl fp => (hg s H C cl fp).pg) (fun s H C cl fp => (ht s H C cl fp).pts) (fun s H C cl fp => (he s H C cl fp).pe) hs) fun σ H Q q => lc_of hws q⟩
/-- name = [..] on one line -/
theorem rs_setLc (i : Nat) (hN : X.N.Nodup) (hsw : swapsWith (.ListComp elt [⟨tg, iter, ifs, 0⟩] scope pos) (some (.Name y py)) spos.line X.env = pure true) (hi : RI X au W tg iter fi) (ok : BlkOk X.N X.env.scope scope own) (hws : ∀ i ∈ ws, i ∈ own.map (·.2))
    (hg : ∀ (s : Shared) (H : Hp) (C : Addr) (cl : List (Str × Addr)) (fp : List Addr), RG (X.blk s H scope (compEnvC scope cl C X.env) fp) au ws tg b) (ht : ∀ (s : Shared) (H : Hp) (C : Addr) (cl : List (Str × Addr)) (fp : List Addr), RTs (X.blk s H scope (compEnvC scope cl C X.env) fp) au WF ifs ft)
    (he : ∀ (s : Shared) (H : Hp) (C : Addr) (cl : List (Str × Addr)) (fp : List Addr), RE (X.blk s H scope (compEnvC scope cl C X.env) fp) au WF elt fe) (hc : X.calm = true := by rfl) (hy : X.N[i]? = some y := by rfl) (hyl : X.env.scope.names.lookup y = some .local := by rfl) (hs : ∀ x, foldedSetIterable iter X.env x = pure x := by intro _; rfl) :
    RS X au W (.Assign [.Name y py] (.ListComp elt [⟨tg, iter, ifs, 0⟩] scope pos) spos) (gSet i (fLc (own.map (·.2)) fi b ft fe)) :=
  ⟨PS.imp (ps_setLc (g := tgR X au ws b) (tt := tF X au WF VB ft) (te := tF X au WF (VE X) fe) hc hN hy hyl hsw hi.pi ok (fun s H C cl fp => (hg s H C cl fp).pg) (fun s H C cl fp => (ht s H C cl fp).pts) (fun s H C cl fp => (he s H C cl fp).pe) hs) fun D σ H ⟨F, ρ, S, q⟩ =>
    lc_of hws ⟨F, ρ, S, PostS.eval q fun x v ρ1 F1 H1 e S1 X1 V1 h1 => put1_post S S1 X1 V1 h1⟩⟩
end
end
end FX
end

section
set_option Elab.async false
set_option linter.all false
set_option maxRecDepth 100000
set_option maxHeartbeats 4000000
namespace FX
open PySem PySem.Spec PyProof.Rows L2
/-! ### an object of a slot is changed by a method -/
/-- the method's reading r does what m says: the new content, the value handed back -/
def Mu (X : Cx) (r : V → List V → Hp → VK → Prop) (m : T → List T → Option (T × T)) : Prop := ∀ F H a t xs ts t' w Q, Same F H → F a = none → OwnAt X.K X.mg F H a t → Reps X.K X.mg F xs ts → m t ts = some (t', w) →
  (∀ z o o', H a = some o → (∀ ps, o ≠ .tbl ps) → (∀ φ, o ≠ .ext φ) → OwnAt X.K X.mg F (upd H a o') a t' → Rep X.K X.mg F z w → Q z (upd H a o')) → r (.ref a) xs H Q
def ownT (ρ : FX.Env) (i : Nat) : Option (Option Nat × T) := match ρ[i]? with
  | some (.own k t) => some (k, t)
  | _ => none
def fMut (i : Nat) (m : T → List T → Option (T × T)) (fa : FX.Env → R (List Vl)) : FX.Env → R Vl := fun ρ => match ownT ρ i with
  | none => .stuck
  | some _ => fEsc fa (fun ts ρ1 => match ownT ρ1 i with
    | none => .stuck
    | some (k, t) => match m t ts with
      | some (t', w) => .ok (.fz w) (ρ1.set i (.own k t'))
      | none => .stuck) ρ
theorem ownT_get {ρ : FX.Env} {i : Nat} {k : Option Nat} {t : T} (h : ownT ρ i = some (k, t)) : ρ[i]? = some (.own k t) := by
  unfold ownT at h
  split at h
  · cases h; assumption
  · cases h
section
variable {X : Cx} {au : Au} {W : WX}
theorem own_isList {F H : Hp} {a : Addr} {t : T} (o : OwnAt X.K X.mg F H a t) (ty : String) (h : (ty = "list" ∧ ∃ ts, t = .lst ts) ∨ (ty = "dict" ∧ ((∃ ts, t = .dK ts) ∨ ∃ ts, t = .dT ts))) : tyV X.K ty (.ref a) H := by
  rcases h with ⟨e, ts, et⟩ | ⟨e, ⟨ts, et⟩ | ⟨ts, et⟩⟩
  · subst et; cases o with | lst h r => exact .inl ⟨e, _, .of h⟩
  · subst et; cases o with | dK h r => exact .inr (.inr (.inl ⟨e, .inl ⟨_, h⟩⟩))
  · subst et; cases o with | dT h r => exact .inr (.inr (.inl ⟨e, .inr ⟨_, h⟩⟩))
def isL : T → Bool
  | .lst _ => true
  | _ => false
def isDic : T → Bool
  | .dK _ => true
  | .dT _ => true
  | _ => false
/-- only where the slot holds such an object -/
def gd (p : T → Bool) (i : Nat) (f : FX.Env → R Vl) : FX.Env → R Vl := fun ρ => match ownT ρ i with
  | some (_, t) => if p t = true then f ρ else .stuck
  | none => .stuck
theorem mut_of {i : Nat} {ty : String} {r : V → List V → Hp → VK → Prop} {m : T → List T → Option (T × T)} {fa : FX.Env → R (List Vl)} {σ : L2.St} {H : Hp} {Q : VK} (hm : Mu X r m) (p : T → Bool) (hp : ∀ t, p t = true → (ty = "list" ∧ ∃ ts, t = .lst ts) ∨ (ty = "dict" ∧ ((∃ ts, t = .dK ts) ∨ ∃ ts, t = .dT ts)))
    (q : tF X au W (VE X) (gd p i (fMut i m fa)) σ H Q) : tBM X.K ty r (tF X au W (VE X) (fVar i)) (tF X au W (VA X) fa) σ H Q := by
  obtain ⟨F, ρ, S, h⟩ := q
  unfold gd at h
  split at h
  · rename_i k t e
    split at h
    · rename_i pt
      have eg := ownT_get e
      obtain ⟨a, ea, na, oa, da⟩ := S.ow eg
      refine ⟨F, ρ, S, ?_⟩
      unfold fVar
      rw [eg]
      intro x F1 H1 S1 X1 V1
      have V1 : ∃ k t, ρ[i]? = some (.own k t) ∧ σ[i]? = some (some x) := V1
      obtain ⟨k', t', e', ex⟩ := V1
      rw [eg] at e'
      cases e'
      obtain ⟨a1, ea1, na1, oa1, da1⟩ := S1.ow eg
      rw [ex] at ea1; cases ea1
      refine ⟨own_isList oa1 ty (hp t pt), F1, ρ, S1, ?_⟩
      unfold fMut at h
      rw [e] at h
      refine esc_post early_VE (Post.step early_VE h X1) fun xs ts ρ2 F2 H2 S2 r2 h2 => ?_
      split at h2
      · exact h2.elim
      · rename_i k2 t2 e2
        have eg2 := ownT_get e2
        obtain ⟨a2, ea2, na2, oa2, da2⟩ := S2.ow eg2
        rw [ex] at ea2; cases ea2
        split at h2
        · rename_i t3 w em
          refine hm F2 H2 a1 t2 xs ts t3 w Q S2.sub na2 oa2 r2 em fun z o o' ho n1 n2 ow rz => ?_
          obtain ⟨S3, X3⟩ := S2.mut eg2 ex ho n1 n2 ow
          exact h2 z F2 _ S3 X3 rz
        · exact h2.elim
    · exact h.elim
  · exact h.elim
section
variable {x name : Str} {e : Expr} {es : List Expr} {fa : FX.Env → R (List Vl)} {np apos cpos : Pos} {id : String} {r : V → List V → Hp → VK → Prop} {m : T → List T → Option (T × T)}
theorem re_lmut (i : Nat) (slot : Slot "list" name id) (hty : typeOf (.builtin id) = pure (.type "method_descriptor")) (hm : MtR X id r) (mu : Mu X r m) (ha : RA X au W (e :: es) fa) (hN : X.N[i]? = some x := by rfl) (hv : Vis X.env.scope x := by first | exact Or.inl rfl | exact Or.inr (Or.inl rfl) | exact Or.inr (Or.inr rfl)) (hd : (x == ("__debug__" : Str)) = false := by decide)
    (hcd : (x == ("__classdict__" : Str)) = false := by decide) (hbase : attributeBase (.Name x np) name X.env (eval (.Name x np) X.env) = eval (.Name x np) X.env := by rfl)
    (hfew : ((backTo cpos (starEach (e :: es) X.env)).all (fun x => !x.1) && (backToKw cpos (keywordEach [] X.env)).all (fun x => x.1.isSome)
      && decide ((e :: es).length + ([] : List Keyword).length + (if ([] : List Keyword).isEmpty then 0 else 1) < 30)) = true := by rfl)
    (hline : (apos.endLine == cpos.line) = true := by rfl) (hs : starEach (e :: es) X.env = (false, eval e X.env) :: starEach es X.env := by rfl) (hplain : (backTo cpos (starEach es X.env)).any (·.1) = false := by rfl) :
    RE X au W (.Call (.Attribute (.Name x np) name apos) (e :: es) [] cpos) (gd isL i (fMut i m fa)) :=
  ⟨PE.imp (pe_bm PySem.F.plainAttrs_list slot hty hm (re_var (au := au) (W := W) i hN hv hd hcd).pe ha.pa hbase hfew hline hs hplain) fun σ H Q q => mut_of mu isL (fun t h => by cases t <;> first | exact .inl ⟨rfl, _, rfl⟩ | cases h) q⟩
end
def mAppend : T → List T → Option (T × T)
  | .lst ts, [t] => if ts.length ≤ 1000000 then some (.lst (ts ++ [t]), .non) else none
  | _, _ => none
theorem mu_append : Mu X rAppend mAppend := by
  intro F H a t xs ts t' w Q s na o r e q
  cases o with
  | lst h ro =>
    cases r with
    | nil => cases e
    | cons r1 r =>
      cases r with
      | cons _ _ => cases e
      | nil =>
        simp only [mAppend] at e
        split at e
        · rename_i hl
          cases e
          exact ⟨a, _, _, rfl, rfl, h, le_mill (by rw [ro.length]; exact hl), q .non _ _ h (fun ps z => by cases z) (fun φ z => by cases z) (.lst upd_same (ro.append (.cons r1 .nil))) .non⟩
        · cases e
  | _ => cases e
def mExtend : T → List T → Option (T × T)
  | .lst ts, [.lst us] => if ts.length + us.length ≤ 1000000 then some (.lst (ts ++ us), .non) else none
  | _, _ => none
theorem mu_extend : Mu X rExtend mExtend := by
  intro F H a t xs ts t' w Q s na o r e q
  cases o with
  | lst h ro =>
    cases r with
    | nil => cases e
    | cons r1 r =>
      cases r with
      | cons _ _ => cases r1 <;> cases e
      | nil =>
        cases r1 with
        | lst h1 rr =>
          simp only [mExtend] at e
          split at e
          · rename_i hl
            cases e
            exact ⟨a, _, _, _, rfl, rfl, h, s _ _ h1, by rw [ro.length, rr.length, sizeLine_eq]; omega, q .non _ _ h (fun ps z => by cases z) (fun φ z => by cases z) (.lst upd_same (ro.append rr)) .non⟩
          · cases e
        | _ => cases e
  | _ => cases e
def mPopAt : T → List T → Option (T × T)
  | .lst ts, [.int i] => match ixN ts.length i with
    | some j => match ts[j]? with
      | some t => if ts.length ≤ 1000000 then some (.lst (ts.eraseIdx j), t) else none
      | none => none
    | none => none
  | _, _ => none
theorem Reps.erase {K : PySem.W.Frag} {mg : Str → Option Value} {F : Hp} {vs : List V} {ts : List T} (n : Nat) (r : Reps K mg F vs ts) : Reps K mg F (vs.eraseIdx n) (ts.eraseIdx n) := by
  induction n generalizing vs ts with
  | zero => cases r with
    | nil => exact .nil
    | cons h r => exact r
  | succ n ih => cases r with
    | nil => exact .nil
    | cons h r => exact .cons h (ih r)
theorem mu_popAt : Mu X rPopAt mPopAt := by
  intro F H a t xs ts t' w Q s na o r e q
  cases o with
  | lst h ro =>
    cases r with
    | nil => cases e
    | cons r1 r =>
      cases r with
      | cons _ _ => cases r1 <;> cases e
      | nil =>
        cases r1 with
        | int i =>
          simp only [mPopAt] at e
          split at e
          · rename_i j ej
            split at e
            · rename_i u eu
              split at e
              · rename_i hl
                cases e
                obtain ⟨h1, h2, h3, h4⟩ := ixN_seq ej
                obtain ⟨y, ey, ry⟩ := ro.get eu
                have hlen := ro.length
                exact ⟨a, _, i, j, y, rfl, rfl, h, by omega, by omega, by rw [ro.length]; exact h1, ey, q y _ _ h (fun ps z => by cases z) (fun φ z => by cases z) (.lst upd_same (ro.erase j)) ry⟩
              · cases e
            · cases e
          · cases e
        | _ => cases e
  | _ => cases e
/-! ### x[k] = e -/
def stL (c k t : T) : Option T := match c with
  | .lst ts => match k with
    | .int i => (ixN ts.length i).map fun j => .lst (ts.set j t)
    | _ => none
  | _ => none
def stD (c k t : T) : Option T := match c with
  | .dK kvs => if kvs.length ≤ 1000000 then k.key.map fun k => .dK (putT kvs k t) else none
  | .dT kvs => if kvs.length ≤ 1000000 then k.keyT.map fun k => .dT (putT kvs k t) else none
  | _ => none
def gStore (st : T → T → T → Option T) (i : Nat) (fv fk : FX.Env → R Vl) : FX.Env → O := fun ρ => (fv ρ).norm.o fun v ρ1 => match ownT ρ1 i with
  | none => .stuck
  | some _ => (fk ρ1).norm.o fun kx ρ2 => match escs [v, kx] ρ2 with
    | some ([t, k], ρ3) => match ownT ρ3 i with
      | some (id, c) => match st c k t with
        | some c' => .nx (ρ3.set i (.own id c'))
        | none => .stuck
      | none => .stuck
    | _ => .stuck
/-- the last steps of a store: at a the content c -/
theorem store_d {F H : Hp} {a : Addr} {c k t c' : T} {x y : V} {D : Hp → Prop} (s : Same F H) (o : OwnAt X.K X.mg F H a c) (rk : Rep X.K X.mg F y k) (rt : Rep X.K X.mg F x t) (e : stD c k t = some c')
    (q : ∀ o o', H a = some o → (∀ ps, o ≠ .tbl ps) → (∀ φ, o ≠ .ext φ) → OwnAt X.K X.mg F (upd H a o') a c' → D (upd H a o')) : ∃ H4, DPut H a y x H4 ∧ D H4 := by
  cases o with
  | dK h ro =>
    simp only [stD] at e
    split at e
    · rename_i hl
      obtain ⟨k', e1, e2⟩ := Option.map_eq_some_iff.mp e
      subst e2
      refine ⟨_, .inl ⟨_, k', h, key_v rk e1, le_mill (by rw [ro.length]; exact hl), rfl⟩, q _ _ h (fun ps z => by cases z) (fun φ z => by cases z) (.dK upd_same (ro.put rt))⟩
    · cases e
  | dT h ro =>
    simp only [stD] at e
    split at e
    · rename_i hl
      obtain ⟨k', e1, e2⟩ := Option.map_eq_some_iff.mp e
      subst e2
      cases rk with
      | tup hk rk =>
        have := keys_v rk e1
        subst this
        refine ⟨_, .inr ⟨_, k', _, h, rfl, s _ _ hk, le_mill (by rw [ro.length]; exact hl), rfl⟩, q _ _ h (fun ps z => by cases z) (fun φ z => by cases z) (.dT upd_same (ro.put rt))⟩
      | _ => cases e1
    · cases e
  | _ => cases e
theorem store_l {F H : Hp} {a : Addr} {c k t c' : T} {x y : V} {D : Hp → Prop} (o : OwnAt X.K X.mg F H a c) (rk : Rep X.K X.mg F y k) (rt : Rep X.K X.mg F x t) (e : stL c k t = some c')
    (q : ∀ o o', H a = some o → (∀ ps, o ≠ .tbl ps) → (∀ φ, o ≠ .ext φ) → OwnAt X.K X.mg F (upd H a o') a c' → D (upd H a o')) : rSetL (.ref a) y x H D := by
  cases o with
  | lst h ro =>
    cases rk with
    | int i =>
      simp only [stL, Option.map_eq_some_iff] at e
      obtain ⟨j, e1, e2⟩ := e
      subst e2
      exact ⟨a, _, i, j, rfl, rfl, h, by rw [ro.length]; exact e1, q _ _ h (fun ps z => by cases z) (fun φ z => by cases z) (.lst upd_same (ro.set rt j))⟩
    | _ => cases e
  | _ => cases e
/-- what a store needs, whichever object it is -/
theorem store_core {st : T → T → T → Option T} {i : Nat} {fv fk : FX.Env → R Vl} {ρ : FX.Env} {σ : L2.St} {F H : Hp} {D : Ends} (S : SRel X.K X.mg au ρ σ F H) (h : PostS X au W ρ σ F H (gStore st i fv fk ρ) D) {R : V → V → V → Hp → Prop}
    (hk : ∀ (x y : V) (a : Addr) (F3 H3 : Hp) (c k t c' : T) (ρ3 : FX.Env) (id : Option Nat), SRel X.K X.mg au ρ3 σ F3 H3 → ρ3[i]? = some (.own id c) → OwnAt X.K X.mg F3 H3 a c → Rep X.K X.mg F3 x t → Rep X.K X.mg F3 y k → st c k t = some c' →
      (∀ o o', H3 a = some o → (∀ ps, o ≠ .tbl ps) → (∀ φ, o ≠ .ext φ) → OwnAt X.K X.mg F3 (upd H3 a o') a c' → D.nx σ (upd H3 a o')) → R x (.ref a) y H3) :
    tF X au W (VE X) fv σ H fun x H1 => tF X au W (VE X) (fVar i) σ H1 fun o H2 => tF X au W (VE X) fk σ H2 fun y H3 => R x o y H3 := by
  refine ⟨F, ρ, S, PostS.evalN h fun x v ρ1 F1 H1 S1 X1 V1 h1 => ⟨F1, ρ1, S1, ?_⟩⟩
  split at h1
  · exact h1.elim
  · rename_i p ep
    obtain ⟨id, c⟩ := p
    have eg := ownT_get ep
    unfold fVar
    rw [eg]
    intro o F2 H2 S2 X2 V2
    have V2 : ∃ k t, ρ1[i]? = some (.own k t) ∧ σ[i]? = some (some o) := V2
    obtain ⟨_, _, _, eo⟩ := V2
    refine ⟨F2, ρ1, S2, ?_⟩
    have h2 : PostS X au W ρ1 σ F2 H2 _ D := (h1.step X1).step X2
    refine PostS.evalN h2 fun y kx ρ2 F3 H3 S3 X3 V3 h3 => ?_
    split at h3
    · rename_i t k ρ4 e4
      obtain ⟨F4, S4, X4, r⟩ := escs_ok (xs := [x, y]) (vs := [v, kx]) S3 (.cons ((V1.mono X2.ff).mono X3.ff) (.cons V3 .nil)) e4
      split at h3
      · rename_i id' c2 e5
        have eg5 := ownT_get e5
        obtain ⟨a, ea, na, oa, da⟩ := S4.ow eg5
        rw [eo] at ea; cases ea
        split at h3
        · rename_i c' e6
          cases r with
          | cons rx r =>
            cases r with
            | cons ry r =>
              refine hk x y a F4 H3 c2 k t c' ρ4 id' S4 eg5 oa rx ry e6 fun o o' ho n1 n2 ow => ?_
              obtain ⟨S5, X5⟩ := S4.mut eg5 eo ho n1 n2 ow
              exact h3 σ F4 _ S5 ((X3.trans X4).trans X5)
        · exact h3.elim
      · exact h3.elim
    · exact h3.elim
section
variable {x : Str} {ie value : Expr} {fv fk : FX.Env → R Vl} {np pos' pos : Pos} {k : Nat}
theorem rs_storeL (i : Nat) (hv : RE X au W value fv) (hi : RE X au W ie fk) (hN : X.N[i]? = some x := by rfl) (hvis : Vis X.env.scope x := by first | exact Or.inl rfl | exact Or.inr (Or.inl rfl) | exact Or.inr (Or.inr rfl)) (hd : (x == ("__debug__" : Str)) = false := by decide)
    (hcd : (x == ("__classdict__" : Str)) = false := by decide)
    (ha : ∀ v, assign (.Subscript (.Name x np) ie pos') X.env v = (do
      let ov ← holding [v] (eval (.Name x np) X.env)
      let iv ← holding [v, ov] (eval ie X.env)
      standAt pos'
      holding [v, ov, iv] (setItem ov iv v)
      release [v, ov, iv] []) := by intro v; rfl)
    (hs2 : swapsWithSole [.Subscript (.Name x np) ie pos'] value pos.line X.env = pure false := by rfl) (hw : swappedStores [.Subscript (.Name x np) ie pos'] value X.env = pure none := by rfl)
    (h1 : (assignEach [.Subscript (.Name x np) ie pos'] X.env).map (·.2) = [assign (.Subscript (.Name x np) ie pos') X.env] := by rfl) : RS X au W (.Assign [.Subscript (.Name x np) ie pos'] value pos) (gStore stL i fv fk) := by
  have ho := re_var (X := X) (au := au) (W := W) (pos := np) i hN hvis hd hcd
  refine ⟨PS.imp (ps_asg hv.pe (pg_sub ho.pe hi.pe set_list (ha := ha)) hs2 hw h1) fun D σ H ⟨F, ρ, S, q⟩ => ?_⟩
  exact store_core S q fun x y a F3 H3 c k t c' ρ3 id S3 eg oa rx ry e6 q => store_l (D := D.nx σ) oa ry rx e6 q
theorem rs_storeD (i : Nat) (hr : Room k X.A) (hv : RE X au W value fv) (hi : RE X au W ie fk) (hN : X.N[i]? = some x := by rfl) (hvis : Vis X.env.scope x := by first | exact Or.inl rfl | exact Or.inr (Or.inl rfl) | exact Or.inr (Or.inr rfl)) (hd : (x == ("__debug__" : Str)) = false := by decide)
    (hcd : (x == ("__classdict__" : Str)) = false := by decide) (hs : swapsWith value (some (.Subscript (.Name x np) ie pos')) pos.line X.env = pure false := by rfl) : RS X au W (.Assign [.Subscript (.Name x np) ie pos'] value pos) (gStore stD i fv fk) := by
  have ho := re_var (X := X) (au := au) (W := W) (pos := np) i hN hvis hd hcd
  refine ⟨PS.imp (ps_dput (hu_of hr) ho.pe hi.pe hv.pe hs) fun D σ H ⟨F, ρ, S, q⟩ => ?_⟩
  exact store_core S q fun x y a F3 H3 c k t c' ρ3 id S3 eg oa rx ry e6 q => let ⟨H4, h, d⟩ := store_d (D := D.nx σ) S3.sub oa ry rx e6 q; ⟨a, H4, rfl, h, d⟩
end
end
end FX
end

section
set_option Elab.async false
set_option linter.all false
set_option maxRecDepth 100000
set_option maxHeartbeats 4000000
namespace FX
open PySem PySem.Spec PyProof.Rows L2
section
variable {X : Cx} {au : Au} {W : WX}
/-! ### nothing is claimed -/
theorem PS.no {st : Stmt} : PS X st fun _ _ _ => False := ⟨fun _ _ _ _ _ _ h => h.elim⟩
theorem rs_no {st : Stmt} : RS X au W st fun _ => .stuck := ⟨PS.imp PS.no fun _ _ _ ⟨_, _, _, h⟩ => h⟩
theorem rss_no {st : List Stmt} : RSs X au W st fun _ => .stuck := ⟨⟨fun _ _ _ _ _ _ ⟨_, _, _, h⟩ => h.elim⟩⟩
theorem re_no {e : Expr} : RE X au W e fun _ => .stuck := ⟨⟨fun _ _ _ _ _ _ ⟨_, _, _, h⟩ => h.elim⟩⟩
/-! ### *e in a display or in a call -/
def fAStar (f : FX.Env → R Vl) (g : FX.Env → R (List Vl)) : FX.Env → R (List Vl) := fun ρ => (f ρ).norm.bind fun v ρ1 => match (look ρ1 v).bind T.items with
  | some ts => (g ρ1).bind fun vs ρ2 => .ok (ts.map .fz ++ vs) ρ2
  | none => .stuck
theorem VRels.append {K : PySem.W.Frag} {mg : Str → Option Value} {σ : L2.St} {F : Hp} {xs ys : List V} {ts : List T} {vs : List Vl} (a : Reps K mg F xs ts) (b : VRels K mg σ F ys vs) : VRels K mg σ F (xs ++ ys) (ts.map .fz ++ vs) := by
  match a with
  | .nil => exact b
  | .cons h r => exact ⟨h, VRels.append r b⟩
theorem ra_star {e : Expr} {es : List Expr} {p : Pos} {f : FX.Env → R Vl} {g : FX.Env → R (List Vl)} (ha : RE X au W e f) (hr : RA X au W es g) (hs : starEach (.Starred e p :: es) X.env = (true, eval e X.env) :: starEach es X.env := by rfl) : RA X au W (.Starred e p :: es) (fAStar f g) := by
  refine ⟨PA.imp (StX.pa_star ha.pe hr.pa hs) fun σ H Q ⟨F, ρ, S, h⟩ => ⟨F, ρ, S, Post.bindN early_VA h fun x v ρ1 F1 H1 S1 X1 V1 h1 => ?_⟩⟩
  cases e1 : look ρ1 v with
  | none => rw [e1] at h1; exact h1.elim
  | some t =>
    rw [e1, Option.bind_some] at h1
    cases e2 : t.items with
    | none => rw [e2] at h1; exact h1.elim
    | some ts =>
      rw [e2] at h1
      have go : ∀ xs, Reps X.K X.mg F1 xs ts → tF X au W (VA X) g σ H1 fun ys H2 => Q (xs ++ ys) H2 := fun xs rs =>
        ⟨F1, ρ1, S1, Post.bind early_VA h1 fun ys vs ρ2 F2 H2 e S2 X2 V2 h2 => h2 (xs ++ ys) F2 H2 S2 (Xt.refl _ _ _ _) (VRels.append (Reps.mono X2.ff rs) V2)⟩
      cases look_o S1 V1 e1 with
      | lst hh rs => cases e2; exact ⟨_, _, rfl, .inr (.of hh), go _ rs⟩
      | tup hh rs => cases e2; exact ⟨_, _, rfl, .inl (.of (S1.sub _ _ hh)), go _ rs⟩
      | seq hh rs => cases e2; exact ⟨_, _, rfl, .inr hh, go _ rs⟩
      | tsq hh rs => cases e2; exact ⟨_, _, rfl, .inl (sqT_mono S1.sub hh), go _ rs⟩
      | _ => cases e2
/-! ### x[::-1] -/
theorem places_rev (n : Nat) : Builtin.Slice.slicePlaces ((n : Int) - 1) (-1) (-1) = n := by
  unfold Builtin.Slice.slicePlaces
  rw [if_neg (by decide)]
  by_cases h : n = 0
  · subst h; decide
  · rw [if_pos (by omega)]
    have : ((n : Int) - 1 - -1 - 1) / -(-1) + 1 = n := by
      have e : -(-1 : Int) = 1 := by decide
      rw [e, Int.ediv_one]; omega
    rw [this]; simp
theorem fm_congr {α β : Type} {f g : α → Option β} : ∀ {l : List α}, (∀ x ∈ l, f x = g x) → l.filterMap f = l.filterMap g
  | [], _ => rfl
  | a :: l, h => by rw [List.filterMap_cons, List.filterMap_cons, h a List.mem_cons_self, fm_congr fun x hx => h x (List.mem_cons_of_mem _ hx)]
theorem pick_rev (xs : Array Value) : ((List.range xs.size).filterMap fun (k : Nat) => xs[(((xs.size : Int) - 1) + (k : Int) * (-1)).toNat]?).toArray = xs.toList.reverse.toArray := by
  congr 1
  have e : (List.range xs.size).filterMap (fun (k : Nat) => xs[(((xs.size : Int) - 1) + (k : Int) * (-1)).toNat]?) = (List.range xs.size).map (fun k => xs.toList.reverse[k]?.getD .none) := by
    rw [← List.filterMap_eq_map]
    refine fm_congr fun k hk => ?_
    have hk : k < xs.size := by simpa using hk
    have e1 : (((xs.size : Int) - 1) + (k : Int) * (-1)).toNat = xs.size - 1 - k := by omega
    rw [e1]
    have h1 : xs.size - 1 - k < xs.size := by omega
    have h2 : k < xs.toList.reverse.length := by simpa using hk
    show xs[xs.size - 1 - k]? = some (xs.toList.reverse[k]?.getD .none)
    rw [List.getElem?_eq_getElem h2]
    simp [h1]
  rw [e]
  refine List.ext_getElem (by simp) fun i h1 h2 => ?_
  simp only [List.getElem_map, List.getElem_range]
  rw [List.getElem?_eq_getElem h2]
  rfl
section
variable {prog : Program} {w : World} {A : Around} {E : Value → Shared → Prop} {s : Shared}
theorem sliceApplied_rev {sl : Addr} {vl vu vs : Value} {n : Nat} {Q : Int × Int × Nat → Shared → Prop} (hs : s.heap.IsSliceOf sl vl vu vs) (pl : IsPart vl none) (pu : IsPart vu none) (ps : IsPart vs (some (-1)))
    (h : Q ((n : Int) - 1, -1, n) s) : wpAny (model prog w) A (Builtin.Slice.sliceApplied (.ref sl) (pure (n : Int))) Q E s := by
  obtain ⟨os, hos, hcs, hds⟩ := id hs
  unfold Builtin.Slice.sliceApplied Builtin.Slice.sliceFields
  refine wpAny_bind (wpAny_bind (wpAny_field hos hds (x := vl) rfl (wpAny_bind (wpAny_field hos hds (x := vu) rfl (wpAny_bind (wpAny_field hos hds (x := vs) rfl (wpAny_pure ?_)))))))
  refine wpAny_bind (HT.slicePart_ ps ?_)
  show wpAny _ _ (if ((-1 : Int) == 0) = true then _ else _) _ _ s
  rw [if_neg (by decide)]
  refine wpAny_bind (HT.slicePart_ pl (wpAny_bind (HT.slicePart_ pu (wpAny_bind (wpAny_pure ?_)))))
  show wpAny _ _ (pure ((n : Int) - 1, (-1 : Int), Builtin.Slice.slicePlaces ((n : Int) - 1) (-1) (-1))) _ _ s
  rw [places_rev]
  exact wpAny_pure h
theorem getItem_tuple_rev {t sl : Addr} {items : Array Value} {vl vu vs : Value} {Q : Value → Shared → Prop} (ht : IsTup s.heap t items) (hs : s.heap.IsSliceOf sl vl vu vs) (pl : IsPart vl none) (pu : IsPart vu none) (ps : IsPart vs (some (-1)))
    (h : Q (.ref s.heap.objs.size) { s with heap := s.heap.push { cls := .type "tuple", data := .seq items.toList.reverse.toArray } }) (hsz : items.size ≤ sizeLine) : wpAny (model prog w) A (getItem (.ref t) (.ref sl)) Q E s := by
  have htake : sizeOk (.seq items.toList.reverse.toArray) := by
    show items.toList.reverse.toArray.size ≤ sizeLine
    rw [List.size_toArray, List.length_reverse, Array.length_toList]
    exact hsz
  obtain ⟨os, hos, hcs, hds⟩ := id hs
  have hTs : s.TypeIs (.ref sl) "slice" := ⟨os, hos, hcs⟩
  unfold getItem
  try with_reducible refine wpAny_holding ?_
  first | refine wpAny_bind (wpAny_pure ?_) | skip
  refine wpAny_bind (wpAny_sequenceKey ht.typeIs (by decide) ?_)
  refine wpAny_bind (wpAny_callSpecial?_slot (name := Str.ofString "__getitem__") ht.typeIs PyProof.Rows.slot_tuple_getitem
    (wpAny_call_entry PyProof.Rows.slot_tuple_getitem ht.typeIs entry_tuple_getitem ?_ (args_tuple_getitem _ _)))
  show wpAny _ _ (Builtin.Tuple.tupleItemsOf (.ref t) >>= _) _ _ s
  refine wpAny_bind (tupleItemsOf_ ht ?_)
  refine wpAny_bind (wpAny_typeOf hTs ?_)
  rw [if_pos (by decide)]
  refine wpAny_bind (sliceApplied_rev hs pl pu ps ?_)
  have hno : ¬ (((((items.size : Int) - 1) == 0) && ((-1 : Int) == 1) && (items.size == items.size)) = true) := by simp
  show wpAny _ _ (if ((((items.size : Int) - 1) == 0) && ((-1 : Int) == 1) && (items.size == items.size)) = true then _ else _) _ _ s
  rw [if_neg hno, pick_rev]
  first
    | exact wpAny_bind (m := Builtin.Tuple.tupleExact _) (wpAny_newObj_type (wpAny_pure ⟨_, rfl, wpAny_pure h⟩) htake)
    | exact wpAny_bind (m := Builtin.Tuple.tupleExact _) (wpAny_newObj_type (wpAny_bind (wpAny_pure (wpAny_pure ⟨_, rfl, wpAny_pure h⟩))) htake)
    | exact wpAny_bind (wpAny_bind (m := Builtin.Tuple.tupleExact _) (wpAny_newObj_type (wpAny_pure (wpAny_pure ⟨_, rfl, wpAny_pure h⟩)) htake))
    | exact wpAny_bind (wpAny_bind (m := Builtin.Tuple.tupleExact _) (wpAny_newObj_type (wpAny_pure ⟨_, rfl, wpAny_pure h⟩) htake))
end
def tRevA (K : PySem.W.Frag) (te : TE) : TE := fun σ H Q => te σ H fun x H1 => ∃ a xs, x = .ref a ∧ ((SqT K H1 a xs ∧ ∀ p, H1 p = none → Q (.ref p) (upd H1 p (.tup xs.reverse))) ∨ (SqL K H1 a xs ∧ ∀ p, H1 p = none → Q (.ref p) (upd H1 p (.lst xs.reverse))))
theorem pe_revA {e : Expr} {te : TE} {k : Nat} {p1 p2 p3 pos : Pos} (he : PE X e te) : PE X (.Subscript e (.Slice none none (some (.UnaryOp .USub (.Constant (.int 1) k p1) p2)) p3) pos) (tRevA X.K te) := by
  refine ⟨fun pins s σ H Q I h => ?_⟩
  refine Subscript_ (thn (he.run pins s σ H _ I h) fun v s1 ⟨x, H1, I1, r1, q1⟩ => ?_)
  obtain ⟨a, xs, ex, hq⟩ := q1
  subst ex
  cases r1
  have hst : PO X (some (.UnaryOp .USub (.Constant (.int 1) k p1) p2)) (tPart (tUn (rU fun i => .int (-i)) (tC (.int 1)))) := po_some (pe_un un_neg pe_int)
  refine wpAny_Slice (thn (po_none.run pins s1 σ H1 (fun o H2 => o = none ∧ H2 = H1) I1 ⟨rfl, rfl⟩) fun vl s2 ⟨l, H2, I2, pl, el, e2⟩ => ?_)
  subst el e2
  refine thn (po_none.run pins s2 σ H2 (fun o H3 => o = none ∧ H3 = H2) I2 ⟨rfl, rfl⟩) fun vu s3 ⟨u, H3, I3, pu, eu, e3⟩ => ?_
  subst eu e3
  refine thn (hst.run pins s3 σ H3 (fun o H4 => o = some (-1) ∧ H4 = H3) I3 ⟨1, rfl, -1, rfl, rfl, rfl⟩) fun vs s4 ⟨o, H4, I4, ps, eo, e4⟩ => ?_
  subst eo e4
  have I5 : Inv X pins σ H4 { s4 with heap := s4.heap.push { cls := .type "slice", data := .fields #[vl, vu, vs] } } := I4.kept (t' := s4.toks) fun b ob q => Heap.get?_push_of_some _ q
  show wpAny (model X.prog X.w) X.A (subscriptTail e (.Slice none none (some (.UnaryOp .USub (.Constant (.int 1) k p1) p2)) p3) (.ref a) (.ref s4.heap.objs.size)) (EP X pins σ Q) X.xe { s4 with heap := s4.heap.push { cls := .type "slice", data := .fields #[vl, vu, vs] } }
  rcases hq with ⟨hx, q⟩ | ⟨hx, q⟩
  · obtain ⟨its, r, ht, hz⟩ := I5.tuple hx
    have hlen := r.length
    refine tail_any (ops := [.ref a, .ref s4.heap.objs.size]) ht.typeIs PyProof.Rows.slot_tuple_getitem.lookup ?_ (by with_unfolding_all rfl)
    refine getItem_tuple_rev ht (Heap.IsSliceOf.new _ vl vu vs) pl pu ps ?_ (by rw [List.size_toArray]; omega)
    refine ⟨.ref _, _, I5.laid (t' := s4.toks) (o := .tup xs.reverse) (fun b ob q => Heap.get?_push_of_some _ q) (Nat.le_refl _) ?_, rfl, q _ (I5.hok.fresh (Nat.le_refl _))⟩
    exact ⟨by rw [List.length_reverse]; exact hz, _, r.reverse, IsTup.new _ _⟩
  · obtain ⟨its, r, ht, hz⟩ := I5.list hx
    have hlen := r.length
    refine tail_any (ops := [.ref a, .ref s4.heap.objs.size]) ht.isList.typeIs (PySem.slot_list_getitem.lookup) ?_ (by with_unfolding_all rfl)
    refine wpAny_getItem_list_slice ht.isList (Heap.IsSliceOf.new _ vl vu vs) pl pu ps (by decide) ?_ (by rw [List.size_toArray]; omega)
    rw [PySem.W.krv_pick]
    refine ⟨.ref _, _, I5.laid (t' := s4.toks) (o := .lst xs.reverse) (fun b ob q => Heap.get?_push_of_some _ q) (Nat.le_refl _) ?_, rfl, q _ (I5.hok.fresh (Nat.le_refl _))⟩
    exact ⟨by rw [List.length_reverse]; exact hz, _, 0, r.reverse, Heap.get?_push_size _ rfl⟩
def aRev : T → Option Nv
  | .lst ts => some (.own (.lst ts.reverse))
  | .tup ts => some (.fz (.tup ts.reverse))
  | _ => none
def fRev (f : FX.Env → R Vl) : FX.Env → R Vl := fun ρ => (f ρ).norm.bind fun v ρ1 => R.of ((look ρ1 v).bind aRev) ρ1
theorem re_rev {e : Expr} {f : FX.Env → R Vl} {k : Nat} {p1 p2 p3 pos : Pos} (he : RE X au W e f) : RE X au W (.Subscript e (.Slice none none (some (.UnaryOp .USub (.Constant (.int 1) k p1) p2)) p3) pos) (fRev f) := by
  refine ⟨PE.imp (pe_revA he.pe) fun σ H Q ⟨F, ρ, S, h⟩ => ⟨F, ρ, S, Post.bindN early_VE h fun x v ρ1 F1 H1 S1 X1 V1 h1 => ?_⟩⟩
  have q := res_post S1 h1
  cases e1 : look ρ1 v with
  | none => rw [e1] at q; exact q.elim
  | some t =>
    rw [e1, Option.bind_some] at q
    cases look_o S1 V1 e1 with
    | lst h r => exact ⟨_, _, rfl, .inr ⟨.of h, fun p hp => (show ResP X.K X.mg F1 H1 (some (.own (.lst _))) Q from q).made S1.sub hp (.lst upd_same r.reverse)⟩⟩
    | tup h r => exact ⟨_, _, rfl, .inl ⟨.of (S1.sub _ _ h), fun p hp => (show ResP X.K X.mg F1 H1 (some (.fz (.tup _))) Q from q).laid S1.sub hp (.tup upd_same (Reps.mono (same_upd (S1.sub.free hp)) r.reverse))⟩⟩
    | _ => exact q.elim
end
end FX
end

section
set_option Elab.async false
set_option linter.all false
set_option maxRecDepth 100000
set_option maxHeartbeats 4000000
namespace FX
open PySem PySem.Spec PyProof.Rows L2
set_option maxHeartbeats 1000000 in
theorem meets_enum1 {v : Value} {o : Obj} {H : Heap → Prop} (B : Begins v o H) :
    Meets (Builtin.«enumerate.__new__» ⟨[.type "enumerate", v], []⟩) (fun _ R s => H s.heap ∧
      R (.ok (.ret (.ref (s.heap.push o).objs.size))) { s with heap := (s.heap.push o).push { cls := .type "enumerate", data := .fields #[.none, .bool false, .ref s.heap.objs.size, rawInt 0, .none, .none] } }) :=
  .of_wp fun prog w A R s h => by
    obtain ⟨hp, g, d, tk, os⟩ := s; obtain ⟨h1, h⟩ := h
    have hsub := sub_enumerate
    have q1 : ∀ {A' : Around} {E : Value → Shared → Prop} {Q : Value → Shared → Prop}, Q (.ref hp.objs.size) ⟨hp.push o, g, d, tk, os⟩ → wpAny (model prog w) A' (pyIter v) Q E ⟨hp, g, d, tk, os⟩ :=
      fun q => B.iter prog w _ _ ⟨hp, g, d, tk, os⟩ _ h1 q
    wp_walk using q1
    refine wpAny_stack_any fun st => wpAny_pure ?_
    split
    · rename_i c _ _ _ _ _
      cases (c == Value.type "enumerate")
      · wp_walk using q1
        exact ⟨_, rfl, h⟩
      · wp_walk using q1
        exact ⟨_, rfl, h⟩
    · wp_walk using q1
      exact ⟨_, rfl, h⟩
section
variable {prog : Program} {w : World} {A : Around} {E : Value → Shared → Prop} {s : Shared}
theorem enum_begins1 {v : Value} {o : Obj} {H : Heap → Prop} {Q : Value → Shared → Prop} (B : Begins v o H) (h1 : H s.heap)
    (h : ∀ h', IsEnum h' (s.heap.objs.size + 1) s.heap.objs.size 0 .none → h'.get? s.heap.objs.size = some o → h'.objs.size = s.heap.objs.size + 2 →
      (∀ b o, s.heap.get? b = some o → h'.get? b = some o) → Q (.ref (s.heap.objs.size + 1)) { s with heap := h' }) :
    wpAny (model prog w) A (call (.type "enumerate") [v]) Q E s := by
  refine callType_new F.called_enumerate (by decide) (F.typeCall_enumerate_1 _) (F.newCall_enumerate_1 _) (fun obj => F.args_object_init_2 obj _) F.entry_enumerate_new
    (meets_enum1 B) ⟨h1, ?_⟩
  have hz : (s.heap.push o).objs.size = s.heap.objs.size + 1 := Heap.size_push ..
  show _ ∧ _
  rw [hz]
  have he : IsEnum ((s.heap.push o).push { cls := .type "enumerate", data := .fields #[.none, .bool false, .ref s.heap.objs.size, rawInt 0, .none, .none] }) (s.heap.objs.size + 1) s.heap.objs.size 0 .none := by
    have := Heap.get?_push_size (s.heap.push o) (o := { cls := .type "enumerate", data := .fields #[.none, .bool false, .ref s.heap.objs.size, rawInt 0, .none, .none] }) rfl
    rw [hz] at this; exact this
  refine ⟨⟨_, he, rfl⟩, h _ he (Heap.get?_push_of_some _ (Heap.get?_push_size _ B.free)) (by rw [Heap.size_push, hz]) fun b o x => Heap.get?_push_of_some _ (Heap.get?_push_of_some _ x)⟩
end
/-! ### a list or a tuple -/
def SQ (b : Bool) (K : PySem.W.Frag) (H : Hp) (a : Addr) (xs : List V) : Prop := if b = true then SqT K H a xs else SqL K H a xs
def IsQ (b : Bool) (h : Heap) (a : Addr) (items : Array Value) : Prop := if b = true then h.IsTuple a items else h.IsList a items
def ItQ (b : Bool) (h : Heap) (it a : Addr) (i : Nat) : Prop := if b = true then h.IsTupleIter it a i else h.IsListIter it a i
def itO (b : Bool) (a : Addr) : Obj := if b = true then { cls := .type "tuple_iterator", data := .fields #[.ref a, .int 0 0] } else { cls := .type "list_iterator", data := .fields #[.ref a, .int 0 0] }
section
variable {prog : Program} {w : World} {A : Around} {b : Bool} {h h' : Heap} {a it : Addr} {items : Array Value} {i : Nat}
theorem drawQ (hh : A.handled = none) (hne : a ≠ it) : Draws prog w A it [it, a] items.size (fun i v => items[i]? = some v) (fun i h => ItQ b h it a i ∧ IsQ b h a items) := by
  cases b with
  | true => exact Draws.tuple hh it a hne items
  | false => exact Draws.list hh it a hne items
theorem beginsQ : Begins (.ref a) (itO b a) fun h => IsQ b h a items := by
  cases b with
  | true => exact begins_tuple a items
  | false => exact begins_list a items
theorem ItQ.new (e : h.get? it = some (itO b a)) : ItQ b h it a 0 := by
  cases b with
  | true => exact ⟨_, e, rfl, rfl⟩
  | false => exact ⟨_, e, rfl, rfl⟩
theorem ItQ.obj (x : ItQ b h it a i) : ∃ o, h.get? it = some o ∧ ∀ v, o.data ≠ .cell v := by
  cases b with
  | true => obtain ⟨o, e, _, d⟩ := x; exact ⟨o, e, fun v q => by rw [d] at q; cases q⟩
  | false => obtain ⟨o, e, _, d⟩ := x; exact ⟨o, e, fun v q => by rw [d] at q; cases q⟩
theorem ItQ.at (x : ItQ b h it a i) (k : ∀ o, h.get? it = some o → h'.get? it = some o) : ItQ b h' it a i := by
  cases b with
  | true => exact Heap.IsTupleIter.at x k
  | false => exact Heap.IsListIter.at x k
theorem IsQ.lt (x : IsQ b h a items) : a < h.objs.size := by
  cases b with
  | true => obtain ⟨_, e, _⟩ := x; exact Heap.lt_size e
  | false => obtain ⟨_, e, _⟩ := x; exact Heap.lt_size e
end
section
variable {X : Cx} {pins : List (Addr × Obj)} {σ : L2.St} {H : Hp} {s : Shared} {b : Bool} {a : Addr} {xs ys : List V}
theorem inv_q (I : Inv X pins σ H s) (h : SQ b X.K H a xs) : ∃ its : List Value, Vals xs its ∧ IsQ b s.heap a its.toArray ∧ xs.length ≤ sizeLine := by
  cases b with
  | true => exact I.tuple h
  | false => obtain ⟨its, r, p, z⟩ := I.list h; exact ⟨its, r, p.isList, z⟩
theorem inv_inj (I : Inv X pins σ H s) (h : SQ b X.K H a xs) (h' : SQ b X.K H a ys) : xs = ys := by
  cases b with
  | true => exact I.tuple_inj h h'
  | false => exact I.list_inj h h'
end
/-- enumerate(the seq at a, k0) -/
def ItE (b : Bool) (K : PySem.W.Frag) (a : Addr) (k0 : Int) : It :=
  ⟨fun i H => ∃ (xs : List V) (x : V), SQ b K H a xs ∧ xs[i]? = some x, fun i H v H' => ∃ T x, v = .ref T ∧ H T = none ∧ H' = upd H T (.tup [.int (k0 + (i : Nat)), x]) ∧ ∀ xs, SQ b K H a xs → xs[i]? = some x, fun i H => ∃ xs : List V, SQ b K H a xs ∧ xs.length = i⟩
theorem turn_en {P : Program} {w : World} {K : PySem.W.Frag} {elts : List Expr} {kk : Nat} {tpos : Pos} {bq : Bool} {k0 : Int} (a e it : Addr) :
    Turn P w K (.Tuple elts kk tpos) (ItE bq K a k0) [e, it] e (fun i h => (∃ old, IsEnum h e it (k0 + (i : Nat)) old) ∧ ItQ bq h it a i ∧ e ≠ it ∧ a ≠ it ∧ a ≠ e) where
  mem := by simp
  obj := fun i h st b hb => by
    obtain ⟨⟨old, he⟩, hi, _⟩ := st
    have e' : b = e ∨ b = it := by simpa using hb
    rcases e' with z | z
    · rw [z]; exact ⟨_, he, fun v q => nomatch q⟩
    · rw [z]; exact hi.obj
  keep := fun i h h' st k => let ⟨⟨old, he⟩, hi, hne⟩ := st; ⟨⟨old, k e (by simp) _ he⟩, hi.at fun o q => k it (by simp) o q, hne⟩
  item := by
    intro X hP hw hK hc i pins s σ H E I hf st hg
    subst hP hw hK
    obtain ⟨⟨old, he⟩, hit, hne, hai, hae⟩ := st
    obtain ⟨xs, x, hq, hx⟩ := hg
    obtain ⟨its, rv, p, hz⟩ := inv_q I hq
    obtain ⟨u, hu, ru⟩ := rv.get hx
    have hel : e < s.heap.objs.size := Heap.lt_size he
    have hil : it < s.heap.objs.size := by obtain ⟨_, q, _⟩ := hit.obj; exact Heap.lt_size q
    have hlt : i < its.toArray.size := by rw [List.size_toArray]; exact (List.getElem?_eq_some_iff.mp hu).1
    refine wpAny_pyNext_enum_itemC (drawQ (b := bq) (items := its.toArray) (I.ok.hd hc) hai) he ⟨hit, p⟩ hlt hne (by simp [hne, Ne.symm hae]) fun x' h' tk hx' ho hst' hT hsz hk => ?_
    have ex : x' = u := by
      have z : its.toArray[i]? = some u := by simpa using hu
      have hx' : its.toArray[i]? = some x' := hx'
      rw [z] at hx'
      exact (Option.some.inj hx').symm
    subst ex
    refine ⟨_, rfl, wpAny_letOwnedTupleGo_enum (s := { s with heap := h', toks := tk + 1 }) ho fun h'' he' sb => ?_⟩
    have hT2 : h''.get? s.heap.objs.size = some { cls := .type "tuple", data := .seq #[.int (k0 + (i : Nat)) tk, x'] } := (sb.2 _ (Nat.ne_of_gt hel)).trans hT
    have new : ObjOk X.prog X.w (upd H s.heap.objs.size (.tup [.int (k0 + (i : Nat)), x])) h'' s.heap.objs.size (.tup [.int (k0 + (i : Nat)), x]) :=
      ⟨by show 2 ≤ sizeLine; decide, [.int (k0 + (i : Nat)) tk, x'], .cons ⟨_, rfl⟩ (.cons ru .nil), ⟨_, hT2, rfl, _, rfl⟩⟩
    have I1 : Inv X pins σ (upd H s.heap.objs.size (.tup [.int (k0 + (i : Nat)), x])) { s with heap := h'', toks := tk + 1 } :=
      I.turnedNew (ch := [e, it]) (fun b ob hb q => (sb.2 b (fun z => hb (by simp [z]))).trans (hk b ob (fun z => hb (by simp [z])) (fun z => hb (by simp [z])) q)) hf (Nat.le_refl _) new
    refine ⟨.ref s.heap.objs.size, _, I1, rfl, ⟨_, x, rfl, I.hok.fresh (Nat.le_refl _), rfl, fun ys hy => by rw [inv_inj I hy hq]; exact hx⟩, ⟨⟨x', ?_⟩, hst'.1.at fun o q => (sb.2 it (Ne.symm hne)).trans q, hne, hai, hae⟩, fun b hb => ?_⟩
    · have e1 : k0 + ((i + 1 : Nat) : Int) = k0 + (i : Nat) + 1 := by omega
      rw [e1]; exact he'
    · have hb' : b < s.heap.objs.size := by
        have e' : b = e ∨ b = it := by simpa using hb
        rcases e' with z | z
        · rw [z]; exact hel
        · rw [z]; exact hil
      rw [upd_ne (Nat.ne_of_lt hb')]
      exact (hf b hb).1
  done := by
    intro X hP hw hK hc i pins s σ H E I hf st hg
    subst hP hw hK
    obtain ⟨⟨old, he⟩, hit, hne, hai, hae⟩ := st
    obtain ⟨xs, hq, hx⟩ := hg
    obtain ⟨its, rv, p, hz⟩ := inv_q I hq
    obtain ⟨f0, f1, f2, f3, f4, f5⟩ := hf it (by simp)
    have hl := rv.length
    have hst : ItQ bq s.heap it a its.toArray.size ∧ IsQ bq s.heap a its.toArray := ⟨by rw [List.size_toArray, ← hl, hx]; exact hit, p⟩
    exact wpAny_pyNext_enum_endD (drawQ (b := bq) (items := its.toArray) (I.ok.hd hc) hai) he hst fun h' eb => ⟨rfl, I.turned (t' := s.toks) (fun b o hb q => eb b o hb q) f0 f1 f3 f4 f5⟩
  self := fun A i s Q E st h => let ⟨⟨_, he⟩, _⟩ := st; wpAny_pyIter_enum he h
def iEn (K : PySem.W.Frag) (ta : TA) : TI := fun σ H R => ta σ H fun vs H1 => ∃ a xs b, vs = [.ref a] ∧ SQ b K H1 a xs ∧ R (ItE b K a 0) H1
theorem pi_en {X : Cx} {e : Expr} {ta : TA} {p pos tpos : Pos} {elts : List Expr} {kk : Nat} (hg : Gl X "enumerate") (hm : X.mg "enumerate" = none) (ha : PA X [e] ta) (hs : starEach [e] X.env = [(false, eval e X.env)] := by rfl) :
    PI X (.Tuple elts kk tpos) (.Call (.Name "enumerate" p) [e] [] pos) (iEn X.K ta) := by
  refine ⟨fun pins s σ H R I h => ?_⟩
  refine Call_ (ld_blt I hg hm boot_enumerate (PyProof.Rows.callWith_type1 (thn (ha.run pos pins s σ H _ I h) fun us s1 ⟨vs, H1, I1, r1, q1⟩ => ?_) hs rfl))
  obtain ⟨a, xs, bq, ex, hq, q⟩ := q1
  subst ex
  cases r1 with
  | cons r rr =>
    cases rr
    cases r
    obtain ⟨its, rv, p', hz⟩ := inv_q I1 hq
    refine enum_begins1 (beginsQ (b := bq) (items := its.toArray)) p' fun h' he hit hsz hk => wpAny_pyIter_enum he ?_
    have I2 : Inv X pins σ H1 { s1 with heap := h' } := I1.kept (t' := s1.toks) hk
    have hlt := p'.lt
    refine ⟨s1.heap.objs.size + 1, [s1.heap.objs.size + 1, s1.heap.objs.size], _, _, H1, rfl, I2, turn_en a (s1.heap.objs.size + 1) s1.heap.objs.size, ⟨⟨.none, he⟩, ItQ.new hit, Nat.succ_ne_self _, Nat.ne_of_lt hlt, Nat.ne_of_lt (Nat.lt_succ_of_lt hlt)⟩, fun b hb => ?_, q⟩
    have e' : b = s1.heap.objs.size + 1 ∨ b = s1.heap.objs.size := by simpa using hb
    have hle : s1.heap.objs.size ≤ b := by
      rcases e' with z | z
      · rw [z]; exact Nat.le_add_right _ _
      · rw [z]; exact Nat.le_refl _
    exact I1.fpOk hle (I1.hok.fresh hle)
/-- zip(the seq at a, the seq at c) -/
def ItZ (b1 b2 : Bool) (K : PySem.W.Frag) (a c : Addr) : It :=
  ⟨fun i H => ∃ (xs ys : List V) (x y : V), SQ b1 K H a xs ∧ SQ b2 K H c ys ∧ xs[i]? = some x ∧ ys[i]? = some y,
    fun i H v H' => ∃ T x y, v = .ref T ∧ H T = none ∧ H' = upd H T (.tup [x, y]) ∧ (∀ xs, SQ b1 K H a xs → xs[i]? = some x) ∧ ∀ ys, SQ b2 K H c ys → ys[i]? = some y,
    fun i H => ∃ xs ys : List V, SQ b1 K H a xs ∧ SQ b2 K H c ys ∧ i = min xs.length ys.length⟩
theorem turn_zq {P : Program} {w : World} {K : PySem.W.Frag} {elts : List Expr} {kk : Nat} {tpos : Pos} {b1 b2 : Bool} {a c z TI TO i1 i2 : Addr} (D : ZipSep2 z TI TO i1 i2 [i1, a] [i2, c]) (n1 : a ≠ i1) (n2 : c ≠ i2) :
    Turn P w K (.Tuple elts kk tpos) (ItZ b1 b2 K a c) [z, TI, TO, i1, i2] z (fun i h => IsZip h z TI TO .none ∧ IsTupOf2 h TI (.ref i1) (.ref i2) ∧ (∃ x y, IsTupOf2 h TO x y) ∧ ItQ b1 h i1 a i ∧ ItQ b2 h i2 c i) where
  mem := by simp
  obj := fun i h st q hq => by
    obtain ⟨hz, hTI, ⟨x, y, hTO⟩, h1, h2⟩ := st
    have e' : q = z ∨ q = TI ∨ q = TO ∨ q = i1 ∨ q = i2 := by simpa using hq
    rcases e' with z | z | z | z | z
    · rw [z]; exact ⟨_, hz, fun v q => nomatch q⟩
    · rw [z]; exact ⟨_, hTI, fun v q => nomatch q⟩
    · rw [z]; exact ⟨_, hTO, fun v q => nomatch q⟩
    · rw [z]; exact h1.obj
    · rw [z]; exact h2.obj
  keep := fun i h h' st k => by
    obtain ⟨hz, hTI, ⟨x, y, hTO⟩, h1, h2⟩ := st
    exact ⟨k z (by simp) _ hz, k TI (by simp) _ hTI, ⟨x, y, k TO (by simp) _ hTO⟩, h1.at fun o q => k i1 (by simp) o q, h2.at fun o q => k i2 (by simp) o q⟩
  item := by
    intro X hP hw hK hc i pins s σ H E I hf st hg
    subst hP hw hK
    obtain ⟨hz, hTI, ⟨x0, y0, hTO⟩, h1, h2⟩ := st
    obtain ⟨xs, ys, x, y, hqx, hqy, hx, hy⟩ := hg
    obtain ⟨its, rv, p, _⟩ := inv_q I hqx
    obtain ⟨its2, rv2, p2, _⟩ := inv_q I hqy
    obtain ⟨u, hu, ru⟩ := rv.get hx
    obtain ⟨u2, hu2, ru2⟩ := rv2.get hy
    have hzl : z < s.heap.objs.size := Heap.lt_size hz
    have hlt : i < its.toArray.size := by rw [List.size_toArray]; exact (List.getElem?_eq_some_iff.mp hu).1
    have hlt2 : i < its2.toArray.size := by rw [List.size_toArray]; exact (List.getElem?_eq_some_iff.mp hu2).1
    refine wpAny_pyNext_zipD2_item D (drawQ (b := b1) (items := its.toArray) (I.ok.hd hc) n1) (drawQ (b := b2) (items := its2.toArray) (I.ok.hd hc) n2) hz hTI hTO ⟨h1, p⟩ ⟨h2, p2⟩ hlt hlt2 fun x' y' h' tk hx' hy' z' TO' st1 st2 hT hsz hk => ?_
    have ex : x' = u := by
      have z : its.toArray[i]? = some u := by simpa using hu
      have hx' : its.toArray[i]? = some x' := hx'
      rw [z] at hx'
      exact (Option.some.inj hx').symm
    have ey : y' = u2 := by
      have z : its2.toArray[i]? = some u2 := by simpa using hu2
      have hy' : its2.toArray[i]? = some y' := hy'
      rw [z] at hy'
      exact (Option.some.inj hy').symm
    subst ex ey
    refine ⟨_, rfl, wpAny_letOwnedTupleGo_zip (s := { s with heap := h', toks := tk }) z' fun h'' z'' sb => ?_⟩
    have hT2 : h''.get? s.heap.objs.size = some { cls := .type "tuple", data := .seq #[x', y'] } := (sb.2 _ (Nat.ne_of_gt hzl)).trans hT
    have new : ObjOk X.prog X.w (upd H s.heap.objs.size (.tup [x, y])) h'' s.heap.objs.size (.tup [x, y]) :=
      ⟨by show 2 ≤ sizeLine; decide, [x', y'], .cons ru (.cons ru2 .nil), ⟨_, hT2, rfl, _, rfl⟩⟩
    have I1 : Inv X pins σ (upd H s.heap.objs.size (.tup [x, y])) { s with heap := h'', toks := tk } :=
      I.turnedNew (t' := tk) (ch := [z, TI, TO, i1, i2]) (fun c o hb q => (sb.2 c (fun q' => hb (by simp [q']))).trans (hk c o (fun q' => hb (by simp [q'])) (fun q' => hb (by simp [q'])) (fun q' => hb (by simp [q'])) (fun q' => hb (by simp [q'])) q)) hf (Nat.le_refl _) new
    refine ⟨.ref s.heap.objs.size, _, I1, rfl, ⟨_, x, y, rfl, I.hok.fresh (Nat.le_refl _), rfl, fun l hl => by rw [inv_inj I hl hqx]; exact hx, fun l hl => by rw [inv_inj I hl hqy]; exact hy⟩, ⟨z'', ?_, ⟨x', y', ?_⟩, ?_, ?_⟩, fun q hcm => ?_⟩
    · exact (sb.2 _ D.TIz).trans (hk _ _ D.TIz D.TITO D.TIi1 D.TIi2 hTI)
    · exact (sb.2 _ D.TOz).trans TO'
    · exact st1.1.at fun o q => (sb.2 _ (Ne.symm D.zi1)).trans q
    · exact st2.1.at fun o q => (sb.2 _ (Ne.symm D.zi2)).trans q
    · have hlt : q < s.heap.objs.size := by
        have e' : q = z ∨ q = TI ∨ q = TO ∨ q = i1 ∨ q = i2 := by simpa using hcm
        rcases e' with w | w | w | w | w
        · rw [w]; exact hzl
        · rw [w]; exact Heap.lt_size hTI
        · rw [w]; exact Heap.lt_size hTO
        · rw [w]; obtain ⟨_, e1, _⟩ := h1.obj; exact Heap.lt_size e1
        · rw [w]; obtain ⟨_, e2, _⟩ := h2.obj; exact Heap.lt_size e2
      rw [upd_ne (Nat.ne_of_lt hlt)]
      exact (hf q hcm).1
  done := by
    intro X hP hw hK hc i pins s σ H E I hf st hg
    subst hP hw hK
    obtain ⟨hz, hTI, ⟨x0, y0, hTO⟩, h1, h2⟩ := st
    obtain ⟨xs, ys, hqx, hqy, hend⟩ := hg
    obtain ⟨its, rv, p, _⟩ := inv_q I hqx
    obtain ⟨its2, rv2, p2, _⟩ := inv_q I hqy
    have l1 := rv.length
    have l2 := rv2.length
    have s1 : its.toArray.size = xs.length := by rw [List.size_toArray, l1]
    have s2 : its2.toArray.size = ys.length := by rw [List.size_toArray, l2]
    exact wpAny_pyNext_zipD2_end D (drawQ (b := b1) (items := its.toArray) (I.ok.hd hc) n1) (drawQ (b := b2) (items := its2.toArray) (I.ok.hd hc) n2) hz hTI hTO ⟨h1, p⟩ ⟨h2, p2⟩ (by omega) (by omega) (by omega) fun h' tk hk => ⟨rfl, I.turnedL (t' := tk) (ch := [z, TI, TO, i1, i2]) (fun c o hb q =>
      hk c o (fun q' => hb (by simp [q'])) (fun q' => hb (by simp [q'])) (fun q' => hb (by simp [q'])) (fun q' => hb (by simp [q'])) q) hf⟩
  self := fun A i s Q E st h => wpAny_pyIter_zip st.1 h
def iZq (K : PySem.W.Frag) (ta : TA) : TI := fun σ H R => ta σ H fun vs H1 => ∃ a c xs ys b1 b2, vs = [.ref a, .ref c] ∧ SQ b1 K H1 a xs ∧ SQ b2 K H1 c ys ∧ R (ItZ b1 b2 K a c) H1
theorem pi_zq {X : Cx} {e e2 : Expr} {ta : TA} {p pos tpos : Pos} {elts : List Expr} {kk : Nat} (hg : Gl X "zip") (hm : X.mg "zip" = none) (ha : PA X [e, e2] ta)
    (hs : starEach [e, e2] X.env = (false, eval e X.env) :: starEach [e2] X.env := by rfl) (hpl : (backTo pos (starEach [e2] X.env)).any (·.1) = false := by rfl) :
    PI X (.Tuple elts kk tpos) (.Call (.Name "zip" p) [e, e2] [] pos) (iZq X.K ta) := by
  refine ⟨fun pins s σ H R I h => ?_⟩
  refine Call_ (ld_blt I hg hm PyProof.Rows.boot_zip (PyProof.Rows.callWith_type1 (thn (ha.run pos pins s σ H _ I h) fun us s1 ⟨vs, H1, I1, r1, q1⟩ => ?_) hs hpl))
  obtain ⟨a, b, xs, ys, b1, b2, ex, hqx, hqy, q⟩ := q1
  subst ex
  cases r1 with
  | cons r rr =>
    cases rr with
    | cons r' rr =>
      cases rr
      cases r
      cases r'
      obtain ⟨its, rv, p1, _⟩ := inv_q I1 hqx
      obtain ⟨its2, rv2, p2, _⟩ := inv_q I1 hqy
      have la := p1.lt
      have lb := p2.lt
      refine zip_begins2 (beginsQ (b := b1) (items := its.toArray)) (beginsQ (b := b2) (items := its2.toArray)) p1 p2 fun h' hz hTI hTO h1 h2 hsz hk => wpAny_pyIter_zip hz ?_
      have I2 : Inv X pins σ H1 { s1 with heap := h' } := I1.kept (t' := s1.toks) hk
      have D : ZipSep2 (s1.heap.objs.size + 4) (s1.heap.objs.size + 2) (s1.heap.objs.size + 3) s1.heap.objs.size (s1.heap.objs.size + 1) [s1.heap.objs.size, a] [s1.heap.objs.size + 1, b] :=
        zip_sep2 (N := s1.heap.objs.size) (fp1 := [a]) (fp2 := [b]) (by simpa using la) (by simpa using lb)
      refine ⟨s1.heap.objs.size + 4, [s1.heap.objs.size + 4, s1.heap.objs.size + 2, s1.heap.objs.size + 3, s1.heap.objs.size, s1.heap.objs.size + 1], _, _, H1, rfl, I2, turn_zq D (Nat.ne_of_lt la) (Nat.ne_of_lt (Nat.lt_succ_of_lt lb)), ⟨hz, hTI, ⟨_, _, hTO⟩, ItQ.new h1, ItQ.new h2⟩, fun c hcm => ?_, q⟩
      have e' : c = s1.heap.objs.size + 4 ∨ c = s1.heap.objs.size + 2 ∨ c = s1.heap.objs.size + 3 ∨ c = s1.heap.objs.size ∨ c = s1.heap.objs.size + 1 := by simpa using hcm
      have hle : s1.heap.objs.size ≤ c := by
        rcases e' with z | z | z | z | z
        · rw [z]; exact Nat.le_add_right _ _
        · rw [z]; exact Nat.le_add_right _ _
        · rw [z]; exact Nat.le_add_right _ _
        · rw [z]; exact Nat.le_refl _
        · rw [z]; exact Nat.le_add_right _ _
      exact I1.fpOk hle (I1.hok.fresh hle)
/-! ### as walks -/
section
variable {X : Cx} {au : Au} {W : WX}
theorem SQ.mono {b : Bool} {K : PySem.W.Frag} {F F' : Hp} {a : Addr} {xs : List V} (s : Same F F') (h : SQ b K F a xs) : SQ b K F' a xs := by
  cases b with
  | true => exact sqT_mono s h
  | false => exact s.seq h
def enumT : Nat → List T → List T
  | _, [] => []
  | k, t :: ts => .tup [.int (k : Nat), t] :: enumT (k + 1) ts
theorem enumT_length (k : Nat) (ts : List T) : (enumT k ts).length = ts.length := by
  induction ts generalizing k with
  | nil => rfl
  | cons t ts ih => simp [enumT, ih]
theorem enumT_get (k : Nat) (ts : List T) (i : Nat) : (enumT k ts)[i]? = ts[i]?.map fun t => .tup [.int ((k + i : Nat) : Int), t] := by
  induction ts generalizing k i with
  | nil => rfl
  | cons t ts ih =>
    cases i with
    | zero => rfl
    | succ i => simp only [enumT, List.getElem?_cons_succ, ih]; congr 1; funext u; congr 3; omega
def zipT : List T → List T → List T
  | t :: ts, u :: us => .tup [t, u] :: zipT ts us
  | _, _ => []
theorem zipT_length : ∀ (ts us : List T), (zipT ts us).length = min ts.length us.length
  | [], us => by simp [zipT]
  | t :: ts, [] => by simp [zipT]
  | t :: ts, u :: us => by simp [zipT, zipT_length ts us, Nat.succ_min_succ]
theorem zipT_get : ∀ (ts us : List T) (i : Nat) (x : T), (zipT ts us)[i]? = some x → ∃ t u, ts[i]? = some t ∧ us[i]? = some u ∧ x = .tup [t, u]
  | [], us, i, x, h => by simp [zipT] at h
  | t :: ts, [], i, x, h => by simp [zipT] at h
  | t :: ts, u :: us, 0, x, h => ⟨t, u, rfl, rfl, by simpa [zipT] using h.symm⟩
  | t :: ts, u :: us, i + 1, x, h => by
    simp only [zipT, List.getElem?_cons_succ] at h ⊢
    exact zipT_get ts us i x h
theorem wk_pair {F1 H1 : Hp} {T : Addr} {x y : V} {t u : FX.T} (s2 : Same F1 H1) (hT : H1 T = none) (rx : Rep X.K X.mg F1 x t) (ry : Rep X.K X.mg F1 y u) :
    ∃ F2, Same F1 F2 ∧ Same H1 (upd H1 T (.tup [x, y])) ∧ Same F2 (upd H1 T (.tup [x, y])) ∧ (∀ b, F2 b ≠ none → F1 b ≠ none ∨ Nh H1 b) ∧ Rep X.K X.mg F2 (.ref T) (.tup [t, u]) := by
  have hF : F1 T = none := s2.free hT
  have sF : Same F1 (upd F1 T (.tup [x, y])) := same_upd hF
  refine ⟨upd F1 T (.tup [x, y]), sF, same_upd hT, same_upd2 (s2.trans (same_upd hT)) upd_same, fun b hb => ?_, .tup upd_same (Reps.mono sF (.cons rx (.cons ry .nil)))⟩
  by_cases z : b = T
  · subst z; exact .inr (.inl hT)
  · rw [upd_ne z] at hb; exact .inl hb
theorem wk_en {F H : Hp} {b : Bool} {a : Addr} {vs : List V} {ts : List T} (h : SQ b X.K F a vs) (r : Reps X.K X.mg F vs ts) : Wk X.K X.mg (ItE b X.K a 0) F H (enumT 0 ts) := by
  have hl := r.length
  refine ⟨fun H => SQ b X.K H a vs, fun i H v H' => ∃ T x, v = .ref T ∧ H T = none ∧ H' = upd H T (.tup [.int (i : Nat), x]) ∧ vs[i]? = some x, ?_, fun F' H' s1 s2 => SQ.mono (s1.trans s2) h, ?_⟩
  · rw [enumT_length]
    refine ⟨fun i H hi q => ⟨vs, vs[i], q, by simp [hl, hi]⟩, fun H q => ⟨vs, q, hl⟩, fun i H x H' hi q y => ?_⟩
    obtain ⟨T, z, e1, e2, e3, e4⟩ := y
    refine ⟨T, z, e1, e2, ?_, e4 vs q⟩
    rw [e3, Int.zero_add]
  · rintro i H1 x H2 F1 t ht s1 s2 ⟨T, z, e1, e2, e3, e4⟩
    rw [enumT_get, Nat.zero_add] at ht
    cases e5 : ts[i]? with
    | none => rw [e5] at ht; cases ht
    | some u =>
      rw [e5] at ht
      cases ht
      obtain ⟨v, hv, rv⟩ := r.get e5
      rw [e4] at hv; cases hv
      subst e1 e3
      exact wk_pair s2 e2 (.int _) (rv.mono s1)
theorem wk_zip {F H : Hp} {b1 b2 : Bool} {a c : Addr} {vs us : List V} {ts ss : List T} (h : SQ b1 X.K F a vs) (h' : SQ b2 X.K F c us) (r : Reps X.K X.mg F vs ts) (r' : Reps X.K X.mg F us ss) : Wk X.K X.mg (ItZ b1 b2 X.K a c) F H (zipT ts ss) := by
  have hl := r.length
  have hl' := r'.length
  refine ⟨fun H => SQ b1 X.K H a vs ∧ SQ b2 X.K H c us, fun i H v H' => ∃ T x y, v = .ref T ∧ H T = none ∧ H' = upd H T (.tup [x, y]) ∧ vs[i]? = some x ∧ us[i]? = some y, ?_, fun F' H' s1 s2 => ⟨SQ.mono (s1.trans s2) h, SQ.mono (s1.trans s2) h'⟩, ?_⟩
  · rw [zipT_length]
    refine ⟨fun i H hi q => ?_, fun H q => ⟨vs, us, q.1, q.2, by rw [hl, hl']⟩, fun i H x H' hi q y => ?_⟩
    · have h1 : i < vs.length := by omega
      have h2 : i < us.length := by omega
      exact ⟨vs, us, vs[i], us[i], q.1, q.2, by simp [h1], by simp [h2]⟩
    · obtain ⟨T, z, z2, e1, e2, e3, e4, e5⟩ := y
      exact ⟨T, z, z2, e1, e2, e3, e4 vs q.1, e5 us q.2⟩
  · rintro i H1 x H2 F1 t ht s1 s2 ⟨T, z, z2, e1, e2, e3, e4, e5⟩
    obtain ⟨t1, t2, a1, a2, rfl⟩ := zipT_get ts ss i t ht
    obtain ⟨v, hv, rv⟩ := r.get a1
    obtain ⟨v2, hv2, rv2⟩ := r'.get a2
    rw [e4] at hv; cases hv
    rw [e5] at hv2; cases hv2
    subst e1 e3
    exact wk_pair s2 e2 (rv.mono s1) (rv2.mono s1)
/-- a let-out tree that is a list or a tuple -/
theorem rep_sq {F H : Hp} {x : V} {t : T} {ts : List T} (r : Rep X.K X.mg F x t) (e : t.items = some ts) : ∃ b a vs, x = .ref a ∧ SQ b X.K F a vs ∧ Reps X.K X.mg F vs ts := by
  cases r with
  | tup hr rs => cases e; exact ⟨true, _, _, rfl, .of hr, rs⟩
  | tsq hr rs => cases e; exact ⟨true, _, _, rfl, hr, rs⟩
  | lst hr rs => cases e; exact ⟨false, _, _, rfl, .of hr, rs⟩
  | seq hr rs => cases e; exact ⟨false, _, _, rfl, hr, rs⟩
  | _ => cases e
def fEnum (fa : FX.Env → R (List Vl)) : FX.Env → R (List T) := fEsc fa fun ts ρ => match ts with
  | [t] => match t.items with
    | some us => .ok (enumT 0 us) ρ
    | none => .stuck
  | _ => .stuck
theorem ri_enum {elts : List Expr} {kk : Nat} {tpos p pos : Pos} {e : Expr} {fa : FX.Env → R (List Vl)} (hm : X.mg "enumerate" = none) (ha : RA X au W [e] fa) (hg : Gl X "enumerate" := by rfl) (hs : starEach [e] X.env = [(false, eval e X.env)] := by rfl) :
    RI X au W (.Tuple elts kk tpos) (.Call (.Name "enumerate" p) [e] [] pos) (fEnum fa) := by
  refine ⟨PI.imp (pi_en hg hm ha.pa hs) fun σ H R ⟨F, ρ, S, h⟩ => ⟨F, ρ, S, esc_post early_VW h fun xs ts ρ1 F1 H1 S1 r q1 => ?_⟩⟩
  split at q1
  · cases r with
    | cons r1 r =>
      cases r
      split at q1
      · rename_i us e1
        obtain ⟨b, a, vs, rfl, hq, rs⟩ := rep_sq (H := H1) r1 e1
        exact ⟨a, vs, b, rfl, hq.mono S1.sub, q1 _ F1 H1 S1 (Xt.refl _ _ _ _) (wk_en hq rs)⟩
      · exact q1.elim
  · exact q1.elim
def fZip (fa : FX.Env → R (List Vl)) : FX.Env → R (List T) := fEsc fa fun ts ρ => match ts with
  | [t, u] => match t.items, u.items with
    | some ts, some us => .ok (zipT ts us) ρ
    | _, _ => .stuck
  | _ => .stuck
theorem ri_zip {elts : List Expr} {kk : Nat} {tpos p pos : Pos} {e e2 : Expr} {fa : FX.Env → R (List Vl)} (hm : X.mg "zip" = none) (ha : RA X au W [e, e2] fa) (hg : Gl X "zip" := by rfl)
    (hs : starEach [e, e2] X.env = (false, eval e X.env) :: starEach [e2] X.env := by rfl) (hpl : (backTo pos (starEach [e2] X.env)).any (·.1) = false := by rfl) :
    RI X au W (.Tuple elts kk tpos) (.Call (.Name "zip" p) [e, e2] [] pos) (fZip fa) := by
  refine ⟨PI.imp (pi_zq hg hm ha.pa hs hpl) fun σ H R ⟨F, ρ, S, h⟩ => ⟨F, ρ, S, esc_post early_VW h fun xs ts ρ1 F1 H1 S1 r q1 => ?_⟩⟩
  split at q1
  · cases r with
    | cons r1 r =>
      cases r with
      | cons r2 r =>
        cases r
        split at q1
        · rename_i us ss e1 e2
          obtain ⟨b, a, vs, rfl, hq, rs⟩ := rep_sq (H := H1) r1 e1
          obtain ⟨b2, c, vs2, rfl, hq2, rs2⟩ := rep_sq (H := H1) r2 e2
          exact ⟨a, c, vs, vs2, b, b2, rfl, hq.mono S1.sub, hq2.mono S1.sub, q1 _ F1 H1 S1 (Xt.refl _ _ _ _) (wk_zip hq hq2 rs rs2)⟩
        · exact q1.elim
  · exact q1.elim
end
end FX
end

section
set_option Elab.async false
set_option linter.all false
set_option maxRecDepth 100000
set_option maxHeartbeats 4000000
namespace FX
open PySem PySem.Spec PyProof.Rows L2
/-! ### dict comprehensions: keys ints or texts -/
def dcL (vs : List Nat) (b : T → FX.Env → Option FX.Env) (ft : FX.Env → R Bool) (fk fv : FX.Env → R Vl) : List T → List (Key × T) → FX.Env → R (List (Key × T))
  | [], acc, ρ => .ok acc ρ
  | t :: ts, acc, ρ => match b t (wipeE ρ vs) with
    | none => .stuck
    | some ρ1 => match ft ρ1 with
      | .ok true ρ2 => match (fk ρ2).norm with
        | .ok kx ρ3 => match (fv ρ3).norm with
          | .ok vx ρ4 => match escs [kx, vx] ρ4 with
            | some ([kt, vt], ρ5) => match kt.key with
              | some k => if acc.length ≤ 1000000 then dcL vs b ft fk fv ts (putT acc k vt) (backE ρ vs ρ5) else .stuck
              | none => .stuck
            | _ => .stuck
          | _ => .stuck
        | _ => .stuck
      | .ok false ρ2 => dcL vs b ft fk fv ts acc (backE ρ vs ρ2)
      | _ => .stuck
def fDc (vs : List Nat) (fi : FX.Env → R (List T)) (b : T → FX.Env → Option FX.Env) (ft : FX.Env → R Bool) (fk fv : FX.Env → R Vl) : FX.Env → R Vl := fun ρ => (fi ρ).bind fun ts ρ1 => (dcL vs b ft fk fv ts [] ρ1).map fun ys => .own (.dK ys)
theorem dc_it {J : It} {n : Nat} {G : Hp → Prop} {Y : Nat → Hp → V → Hp → Prop} {g : TG} {tt : TT} {tk tv : TE} {vs : List Nat} {σ : L2.St} {H1 : Hp} {D : Addr} {Q : VK} (wk : Walk J n G Y) (Pv : Nat → Hp → Prop) (h0 : Pv 0 (upd H1 D (.dK []))) (hG : ∀ i H, i ≤ n → Pv i H → G H)
    (hs : ∀ i x H H2, i < n → Pv i H → Y i H x H2 → g x (wipe σ vs) H2 fun σ2 H2 => wipe σ2 vs = wipe σ vs ∧ tt σ2 H2 fun b H3 =>
      if b = true then tk σ2 H3 fun y H4 => tv σ2 H4 fun z H5 => ∃ kvs k, y = kV k ∧ H5 D = some (.dK kvs) ∧ kvs.length < sizeLine ∧ Pv (i + 1) (upd H5 D (.dK (putK kvs k z))) else Pv (i + 1) H3) (hd : ∀ H, Pv n H → Q (.ref D) H) :
    ∃ W : Nat → Nat → Hp → Prop, (∃ m, W 0 m (upd H1 D (.dK []))) ∧ ∀ i m H, W i m H →
      (J.stop i H ∧ Q (.ref D) H) ∨ (J.go i H ∧ ∃ Nx : Hp → Prop, (∀ H', Nx H' → ∃ m', m' < m ∧ W (i + 1) m' H') ∧ ∀ x H', J.yld i H x H' → g x (wipe σ vs) H' fun σ2 H2 => wipe σ2 vs = wipe σ vs ∧ tt σ2 H2 fun b H3 =>
        if b = true then tk σ2 H3 fun y H4 => tv σ2 H4 fun z H5 => ∃ kvs k, y = kV k ∧ H5 D = some (.dK kvs) ∧ kvs.length < sizeLine ∧ Nx (upd H5 D (.dK (putK kvs k z))) else Nx H3) := by
  refine ⟨fun i m H => m = n - i ∧ i ≤ n ∧ Pv i H, ⟨n, by simp, Nat.zero_le _, h0⟩, ?_⟩
  rintro i m H ⟨rfl, hi, p⟩
  have q := hG i H hi p
  by_cases hlt : i < n
  · exact .inr ⟨wk.goes i H hlt q, Pv (i + 1), fun H' p' => ⟨n - (i + 1), by omega, rfl, hlt, p'⟩, fun x H' y => hs i x H H' hlt p (wk.yields i H x H' hlt q y)⟩
  · have e : i = n := by omega
    subst e
    exact .inl ⟨wk.stops H q, hd H p⟩
section
variable {X : Cx} {au : Au} {W : WX}
theorem dc_of {vs ws : List Nat} {fi : FX.Env → R (List T)} {b : T → FX.Env → Option FX.Env} {ft : FX.Env → R Bool} {fk fv : FX.Env → R Vl} {σ : L2.St} {H : Hp} {Q : VK} (hws : ∀ i ∈ ws, i ∈ vs) (q : tF X au W (VE X) (fDc vs fi b ft fk fv) σ H Q) :
    tDc (tF X au W (VW X) fi) (tgR X au ws b) (tF X au WF VB ft) (tF X au WF (VE X) fk) (tF X au WF (VE X) fv) vs σ H Q := by
  obtain ⟨F, ρ, S, h⟩ := q
  refine ⟨F, ρ, S, Post.bind early_VE h fun J ts ρ1 F1 H1 e S1 X1 V1 h1 => ?_⟩
  intro D nD
  obtain ⟨G, Y, wk, hG, hY⟩ := V1
  have nFD : F1 D = none := S1.sub.free nD
  have Sd : SRel X.K X.mg au ρ1 σ F1 (upd H1 D (.dK [])) := S1.new (.refl _) (same_upd nD) (S1.sub.trans (same_upd nD)) (fun _ h => .inl h) S1.nt
  have Xd : Xtn au ρ1 σ F1 H1 ρ1 σ F1 (upd H1 D (.dK [])) := Xt.new (.refl _) (same_upd nD) fun _ h => .inl h
  refine dc_it wk (g := tgR X au ws b) (tt := tF X au WF VB ft) (tk := tF X au WF (VE X) fk) (tv := tF X au WF (VE X) fv) (fun i H' => ∃ F' ρ' accV acc, SRel X.K X.mg au ρ' σ F' H' ∧ Xtn au ρ1 σ F1 H1 ρ' σ F' H' ∧ Same F1 F' ∧ H' D = some (.dK accV) ∧ F' D = none ∧ ¬ OwnA ρ' σ D ∧ RepK X.K X.mg F' accV acc ∧
      Post X au W (VE X) ρ1 σ F1 H1 ((dcL vs b ft fk fv (ts.drop i) acc ρ').map fun ys => .own (.dK ys)) Q)
    ⟨F1, ρ1, [], [], Sd, Xd, .refl _, upd_same, nFD, fun ⟨i, k, t, h1, h2⟩ => ?_, .nil, by simpa using h1⟩ (fun i H' _ ⟨F', ρ', _, _, S', _, s, _⟩ => hG F' H' s S'.sub) ?_ ?_
  · obtain ⟨a, ea, _, oa, _⟩ := S1.ow h1
    rw [h2] at ea; cases ea
    obtain ⟨o, ho, _⟩ := oa.there
    rw [nD] at ho; cases ho
  · rintro i x H' H2 hi ⟨F', ρ', accV, acc, S', X', s', hD, fD, oD, rA, h'⟩ y
    have ht : ts[i]? = some ts[i] := by simp [hi]
    obtain ⟨F0, s1, s2, s3, nw, r⟩ := hY i H' x H2 F' ts[i] ht s' S'.sub y
    obtain ⟨F2, C⟩ := clean (K := X.K) (mg := X.mg) S'.nt s1 s3 nw
    replace s1 := C.s
    replace s3 := C.s3
    replace nw := C.nw
    replace r := C.rep r
    have S2 := S'.new s1 s2 s3 nw C.nt
    have X2 : Xtn au ρ' σ F' H' ρ' σ F2 H2 := Xt.new s1 s2 nw
    have S2w := S2.wipe vs
    have fD2 : F2 D = none := by
      cases q : F2 D with
      | none => rfl
      | some u =>
        rcases nw D (by rw [q]; simp) with z | z
        · exact absurd fD z
        · first | (rw [hD] at z; cases z) | exact absurd z (nh_no hD fun vs z => by cases z)
    have hD2 : H2 D = some (.dK accV) := s2 _ _ hD
    have oD2 : ¬ OwnA (wipeE ρ' vs) (wipe σ vs) D := fun z => oD (wipeE_own z)
    rw [List.drop_eq_getElem_cons hi] at h'
    simp only [dcL] at h'
    cases eb : b ts[i] (wipeE ρ' vs) with
    | none => rw [eb] at h'; exact h'.elim
    | some ρ3 =>
      rw [eb] at h'
      dsimp only at h'
      refine ⟨F2, wipeE ρ' vs, ts[i], ρ3, S2w, r, eb, fun σ3 S3 o3 k3 l3' => ?_⟩
      have l3 : σ3.length = σ.length := by rw [l3', wipe_length]
      have hw : wipe σ3 vs = wipe σ vs := wipe_ext l3 fun j hj => (k3 j fun z => hj (hws j z)).trans (wipe_out hj)
      refine ⟨hw, F2, ρ3, S3, ?_⟩
      have X3 : Xtn au (wipeE ρ' vs) (wipe σ vs) F2 H2 ρ3 σ3 F2 H2 := (Xt.refl _ _ _ _).imp o3
      have out : ∀ {ρ4 : FX.Env} {F4 H4 : Hp}, SRel X.K X.mg au ρ4 σ3 F4 H4 → Xtn au ρ3 σ3 F2 H2 ρ4 σ3 F4 H4 →
          SRel X.K X.mg au (backE ρ' vs ρ4) σ F4 H4 ∧ Xtn au ρ1 σ F1 H1 (backE ρ' vs ρ4) σ F4 H4 ∧ Same F1 F4 ∧ H4 D = some (.dK accV) ∧ F4 D = none ∧ ¬ OwnA (backE ρ' vs ρ4) σ D ∧ RepK X.K X.mg F4 accV acc := by
        intro ρ4 F4 H4 S4 X4
        have X5 := X3.trans X4
        obtain ⟨Sb, Xb⟩ := S2.back S4 X5 hw
        have oD3 : ¬ OwnA ρ3 σ3 D := fun z => oD2 (o3 D z)
        have hD4 : H4 D = some (.dK accV) := X4.hh D _ hD2 (fun _ ps z => by cases z) oD3
        refine ⟨Sb, (X'.trans X2).trans Xb, (s'.trans s1).trans X4.ff, hD4, ?_, fun z => ?_, RepK.mono (s1.trans X4.ff) rA⟩
        · cases q : F4 D with
          | none => rfl
          | some u =>
            rcases X4.fn D (by rw [q]; simp) with z | z | z
            · exact absurd fD2 z
            · first | (rw [hD2] at z; cases z) | exact absurd z (nh_no hD2 fun vs z => by cases z)
            · exact absurd z oD3
        · rcases Xb.ow D z with z | z
          · exact oD z
          · first | (rw [hD2] at z; cases z) | exact absurd z (nh_no hD2 fun vs z => by cases z)
      cases et : ft ρ3 with
      | stuck => rw [et] at h'; exact h'.elim
      | err e' ρ4 => rw [et] at h'; exact h'.elim
      | ok bb ρ4 =>
        rw [et] at h'
        intro c F4 H4 S4 X4 V4
        have V4 : c = bb := V4
        subst V4
        cases c with
        | false =>
          rw [if_neg Bool.false_ne_true]
          obtain ⟨a1, a2, a3, a4, a5, a6, a7⟩ := out S4 X4
          exact ⟨F4, _, accV, acc, a1, a2, a3, a4, a5, a6, a7, h'⟩
        | true =>
          rw [if_pos rfl]
          refine ⟨F4, ρ4, S4, ?_⟩
          dsimp only at h'
          cases ek : (fk ρ4).norm with
          | stuck => rw [ek] at h'; exact h'.elim
          | err e' ρ5 => rw [ek] at h'; exact h'.elim
          | ok kx ρ5 =>
            rw [ek] at h'
            dsimp only at h'
            refine norm_post (Post.okF ek fun yk F5 H5 S5 X5 V5 => ?_)
            have hk : Held X.K X.mg σ3 F5 yk kx := norm_held ⟨_, ek⟩ V5
            refine ⟨F5, ρ5, S5, ?_⟩
            cases ee : (fv ρ5).norm with
            | stuck => rw [ee] at h'; exact h'.elim
            | err e' ρ6 => rw [ee] at h'; exact h'.elim
            | ok vx ρ6 =>
              rw [ee] at h'
              dsimp only at h'
              refine norm_post (Post.okF ee fun yv F6 H6 S6 X6 V6 => ?_)
              have hv : Held X.K X.mg σ3 F6 yv vx := norm_held ⟨_, ee⟩ V6
              split at h'
              · rename_i kt vt ρ7 ec
                obtain ⟨F7, S7, X7, ry⟩ := escs_ok (xs := [yk, yv]) (vs := [kx, vx]) S6 (.cons (hk.mono X6.ff) (.cons hv .nil)) ec
                split at h'
                · rename_i k e1
                  split at h'
                  · rename_i hlen
                    obtain ⟨a1, a2, a3, a4, a5, a6, a7⟩ := out S7 (((X4.trans X5).trans X6).trans X7)
                    cases ry with
                    | cons rk ry =>
                      cases ry with
                      | cons rv ry =>
                        refine ⟨accV, k, key_v rk e1, a4, le_mill (by rw [a7.length]; exact hlen), ?_⟩
                        refine ⟨F7, _, putK accV k yv, putT acc k vt, ?_, ?_, a3, upd_same, a5, a6, a7.put rv, h'⟩
                        · exact a1.tmp a5 a6 a4 (fun ps z => by cases z) (fun φ z => by cases z)
                        · exact a2.tmp nD
                  · exact h'.elim
                · exact h'.elim
              · exact h'.elim
  · rintro H' ⟨F', ρ', accV, acc, S', X', s', hD, fD, oD, rA, h'⟩
    rw [List.drop_length] at h'
    exact h' (.ref D) F' H' S' X' ⟨D, rfl, fD, .dK hD rA, nD, oD⟩
section
variable {kx vx tg iter : Expr} {ifs : List Expr} {scope : Scope} {own : List (Str × Nat)} {pos : Pos} {fi : FX.Env → R (List T)} {ws : List Nat} {b : T → FX.Env → Option FX.Env} {ft : FX.Env → R Bool} {fk fv : FX.Env → R Vl}
theorem re_dc (hN : X.N.Nodup) (hi : RI X au W tg iter fi) (ok : BlkOk X.N X.env.scope scope own) (hws : ∀ i ∈ ws, i ∈ own.map (·.2))
    (hg : ∀ (s : Shared) (H : Hp) (C : Addr) (cl : List (Str × Addr)) (fp : List Addr), RG (X.blk s H scope (compEnvC scope cl C X.env) fp) au ws tg b) (ht : ∀ (s : Shared) (H : Hp) (C : Addr) (cl : List (Str × Addr)) (fp : List Addr), RTs (X.blk s H scope (compEnvC scope cl C X.env) fp) au WF ifs ft)
    (hk : ∀ (s : Shared) (H : Hp) (C : Addr) (cl : List (Str × Addr)) (fp : List Addr), RE (X.blk s H scope (compEnvC scope cl C X.env) fp) au WF kx fk)
    (he : ∀ (s : Shared) (H : Hp) (C : Addr) (cl : List (Str × Addr)) (fp : List Addr), RE (X.blk s H scope (compEnvC scope cl C X.env) fp) au WF vx fv) (hc : X.calm = true := by rfl) (hs : ∀ x, foldedSetIterable iter X.env x = pure x := by intro _; rfl) :
    RE X au W (.DictComp kx vx [⟨tg, iter, ifs, 0⟩] scope pos) (fDc (own.map (·.2)) fi b ft fk fv) :=
  ⟨PE.imp (pe_dc (g := tgR X au ws b) (tt := tF X au WF VB ft) (tk := tF X au WF (VE X) fk) (tv := tF X au WF (VE X) fv) hc hN hi.pi ok (fun s H C cl fp => (hg s H C cl fp).pg) (fun s H C cl fp => (ht s H C cl fp).pts) (fun s H C cl fp => (hk s H C cl fp).pe) (fun s H C cl fp => (he s H C cl fp).pe) hs) fun σ H Q q => dc_of hws q⟩
end
end
end FX
end

section
set_option Elab.async false
set_option linter.all false
set_option maxRecDepth 100000
set_option maxHeartbeats 4000000
namespace FX
open PySem PySem.Spec PyProof.Rows L2
/-! ### {None: e} -/
theorem leafN_any {P P' : Program} {w w' : World} {h : Heap} {a : Addr} {u : Value} (d : h.DictOf (leafKind P w) a [(Leaf.none, u)]) : h.DictOf (leafKind P' w') a [(Leaf.none, u)] := by
  obtain ⟨o, es, ep, e1, e2, e3, k, p, n⟩ := d
  have one : ∃ e', es.toList = [e'] ∧ Leaf.isOf .none e'.key = true ∧ e'.val = u := by
    generalize es.toList = l at p
    cases p with
    | cons a b r =>
      cases r
      exact ⟨_, rfl, a, b⟩
  obtain ⟨e', el, a, b⟩ := one
  refine ⟨o, es, ep, e1, e2, e3, fun e he => ?_, ?_, by simp⟩
  · obtain ⟨k', h1, h2⟩ := k e he
    have : e ∈ es.toList := Array.mem_def.mp he
    rw [el] at this
    have : e = e' := by simpa using this
    subst this
    refine ⟨.none, a, ?_⟩
    have ek : k' = .none := (leafKind P w).inj _ _ _ h1 a
    subst ek
    rw [h2]
    rfl
  · rw [el]
    exact .cons a b .nil
theorem nd_ok {P : Program} {w : World} {H : Hp} {h : Heap} {a : Addr} {v : V} {u : Value} (hs : (a == sysModules) = false) (r : RelV v u) (d : h.DictOf (leafKind P w) a [(Leaf.none, u)]) : ObjOk P w H h a (.ext (ndA v a)) := by
  refine ⟨⟨hs, u, r, fun P' w' => leafN_any d⟩, ?_, fun h1 h2 x k => ?_⟩
  · obtain ⟨o, _, _, e, _⟩ := d; exact ⟨o, e⟩
  · obtain ⟨hs, u, r, d⟩ := x
    refine ⟨hs, u, r, fun P' w' => ?_⟩
    obtain ⟨o, es, ep, e1, rest⟩ := d P' w'
    exact ⟨o, es, ep, k _ e1, rest⟩
def tDN (te : TE) : TE := fun σ H Q => ∀ p, H p = none → te σ (upd H p (.dK [])) fun x H2 => H2 p = some (.dK []) ∧ Q (.ref p) (upd H2 p (.ext (ndA x p)))
theorem pe_dN {X : Cx} {pos p1 : Pos} {k : Nat} {e : Expr} {te : TE} (he : PE X e te) : PE X (.Dict [some (.Constant .none k p1)] [e] pos) (tDN te) := by
  refine ⟨fun pins s σ H Q I q => ?_⟩
  have hn := I.hok.fresh (Nat.le_refl s.heap.objs.size)
  have I1 := I.laid (a := s.heap.objs.size) (o := .dK []) (h' := s.heap.push { cls := .type "dict", data := .dict #[] }) (t' := s.toks) (fun _ _ q => Heap.get?_push_of_some _ q) (Nat.le_refl _) (dk_empty s.heap I.big)
  have pp : PPs X pos [some (.Constant .none k p1)] [e] [(tC .non, te)] := pps_cons pe_non he pps_nil
  refine wpAny_Dict_walk (knd := leafKind X.prog X.w) rfl rfl (by simp) (by simp) (thn (pp.run pins _ σ _ (fun ps H2 => match ps with | [(.non, x)] => H2 s.heap.objs.size = some (.dK []) ∧ Q (.ref s.heap.objs.size) (upd H2 s.heap.objs.size (.ext (ndA x s.heap.objs.size))) | _ => False) I1 (q _ hn)) fun ws s2 ⟨ps, H2, I2, rel, x⟩ => ?_)
  split at x
  · obtain ⟨e2, q2⟩ := x
    obtain ⟨z, hd, vs0, r0, dd⟩ := dk_of I2.hok e2
    cases r0
    cases rel with
    | @cons a b as bs hh t =>
      cases t
      obtain ⟨b1, b2⟩ := b
      obtain ⟨h1, h2⟩ := hh
      have hb1 : b1 = Value.none := h1
      subst hb1
      refine ⟨[(Leaf.none, b2)], ⟨rfl, rfl, trivial⟩, ?_, fun h' dd' hs => ⟨.ref s.heap.objs.size, _, ?_, rfl, q2⟩⟩
      · obtain ⟨o, es, ep, e1, e2, e3, k, p, n⟩ := dd
        refine ⟨o, es, ep, e1, e2, e3, fun e he => ?_, ?_, by simp⟩
        · have : es.toList = [] := List.length_eq_zero_iff.mp (by simpa using p.length)
          have : es = #[] := by simpa using this
          subst this
          simp at he
        · have : es.toList = [] := List.length_eq_zero_iff.mp (by simpa using p.length)
          rw [this]
          exact .nil
      · have he : ∃ q, h'.get? s.heap.objs.size = some q := let ⟨q, _, _, hq, _⟩ := dd'; ⟨q, hq⟩
        exact d_write I2 (by rw [e2]; exact True.intro) hs he (nd_ok hd h2 dd')
  · exact x.elim
section
variable {X : Cx} {au : Au} {W : WX}
def fDN (f : FX.Env → R Vl) : FX.Env → R Vl := fun ρ => (f ρ).norm.bind fun v ρ1 => match esc1 v ρ1 with
  | some (t, ρ2) => .ok (.fz (.dN t)) ρ2
  | none => .stuck
theorem re_dN {e : Expr} {f : FX.Env → R Vl} {k : Nat} {p1 pos : Pos} (he : RE X au W e f) : RE X au W (.Dict [some (.Constant .none k p1)] [e] pos) (fDN f) := by
  refine ⟨PE.imp (pe_dN he.pe) fun σ H Q ⟨F, ρ, S, h⟩ D nD => ?_⟩
  have nFD : F D = none := S.sub.free nD
  have Sd : SRel X.K X.mg au ρ σ F (upd H D (.dK [])) := S.new (.refl _) (same_upd nD) (S.sub.trans (same_upd nD)) (fun _ h => .inl h) S.nt
  have Xd : Xtn au ρ σ F H ρ σ F (upd H D (.dK [])) := Xt.new (.refl _) (same_upd nD) fun _ h => .inl h
  have oD : ¬ OwnA ρ σ D := fun ⟨i, k, t, h1, h2⟩ => by
    obtain ⟨a, ea, _, oa, _⟩ := S.ow h1
    rw [h2] at ea; cases ea
    obtain ⟨o, ho, _⟩ := oa.there
    rw [nD] at ho; cases ho
  refine ⟨F, ρ, Sd, ?_⟩
  have hh : ∀ {ρ1 : FX.Env} {F1 H1 : Hp}, SRel X.K X.mg au ρ1 σ F1 H1 → Xtn au ρ σ F (upd H D (.dK [])) ρ1 σ F1 H1 → H1 D = some (.dK []) ∧ F1 D = none ∧ ¬ OwnA ρ1 σ D := fun {ρ1 F1 H1} S1 X1 => by
    refine ⟨X1.hh D _ upd_same (fun _ ps z => by cases z) oD, ?_, fun z => ?_⟩
    · cases q : F1 D with
      | none => rfl
      | some u =>
        rcases X1.fn D (by rw [q]; simp) with z | z | z
        · exact absurd nFD z
        · first | (rw [upd_same] at z; cases z) | exact absurd z (nh_no upd_same fun vs z => by cases z)
        · exact absurd z oD
    · rcases X1.ow D z with z | z
      · exact oD z
      · first | (rw [upd_same] at z; cases z) | exact absurd z (nh_no upd_same fun vs z => by cases z)
  unfold fDN at h
  cases en : (f ρ).norm with
  | stuck => rw [en] at h; exact h.elim
  | err e' ρ1 =>
    rw [en] at h
    refine norm_post ?_
    rw [en]
    exact fun cls d F1 H1 S1 X1 E1 => h cls d F1 H1 S1 (Xd.trans X1) E1
  | ok v ρ1 =>
    rw [en] at h
    refine norm_post (Post.okF en fun x F1 H1 S1 X1 V1 => ?_)
    have hv : Held X.K X.mg σ F1 x v := norm_held ⟨_, en⟩ V1
    obtain ⟨d1, d2, d3⟩ := hh S1 X1
    refine ⟨d1, ?_⟩
    have h : Post X au W (VE X) ρ σ F H (match esc1 v ρ1 with | some (t, ρ2) => R.ok (Vl.fz (.dN t)) ρ2 | none => .stuck) Q := h
    cases e1 : esc1 v ρ1 with
    | none => rw [e1] at h; exact h.elim
    | some p =>
      obtain ⟨t, ρ2⟩ := p
      rw [e1] at h
      obtain ⟨F2, S2, X2, r⟩ := esc1_ok S1 hv e1
      have X12 := X1.trans X2
      obtain ⟨e1, e2, e3⟩ := hh S2 X12
      have S3 := S2.tmp (o' := .ext (ndA x D)) e2 e3 e1 (fun ps z => by cases z) (fun φ z => by cases z)
      have S4 : SRel X.K X.mg au ρ2 σ (upd F2 D (.ext (ndA x D))) (upd H1 D (.ext (ndA x D))) := S3.grow (same_upd e2) (same_upd2 S3.sub upd_same) (fun a oa => by
        rw [upd_ne (fun z => e3 (by rw [← z]; exact oa))]
        obtain ⟨i, k, t, h1, h2⟩ := oa
        obtain ⟨a', ea, na, _⟩ := S2.ow h1
        rw [h2] at ea; cases ea
        exact na) (nt_upd S2.nt fun ps z => by cases z)
      have X3 : Xtn au ρ σ F H ρ2 σ F2 (upd H1 D (.ext (ndA x D))) := (Xd.trans X12).tmp nD
      have X4 : Xtn au ρ σ F H ρ2 σ (upd F2 D (.ext (ndA x D))) (upd H1 D (.ext (ndA x D))) := ⟨X3.ff.trans (same_upd e2), X3.hh, X3.nn, fun b hb => by
        by_cases z : b = D
        · subst z; exact .inr (.inl (.inl nD))
        · rw [upd_ne z] at hb; exact X3.fn b hb, X3.ow, X3.tp⟩
      exact h _ _ _ S4 X4 (.dN (.inl upd_same) (r.mono (same_upd e2)))
/-- found[last], a dict of any kind -/
def aIxA (t u : T) : Option Nv := match t with
  | .dN c => match u with
    | .non => some (.fz c)
    | _ => none
  | _ => aIx t u
theorem ix_dN : IxR X fun x y H Q => ∃ a v, x = .ref a ∧ y = .non ∧ Rd H a (.ext (ndA v a)) ∧ Q v H := by
  intro value slice pins s σ H x y v u Q I rx ry h hs
  obtain ⟨a, z, rfl, rfl, g, q⟩ := h
  cases rx
  have hu : u = Value.none := ry
  subst hu
  obtain ⟨⟨hd, u, ru, dd⟩, _⟩ := g.ok I.hok
  have D := dd X.prog X.w
  have hT : s.TypeIs (.ref a) "dict" := D.typeIs
  exact tail_any hT PySem.F.slot_dict_getitem.lookup (wpAny_getItem_of (knd := leafKind X.prog X.w) (k := Leaf.none) (v := u) rfl D.mapOf (by simp [valueAt]) ⟨z, H, I.tok _, ru, q⟩) hs
theorem o2_ixA : Op2 X (fun x y H Q => (rIx X.K x y H Q ∨ rIxD x y H Q) ∨ ∃ a v, x = .ref a ∧ y = .non ∧ Rd H a (.ext (ndA v a)) ∧ Q v H) aIxA := by
  intro F H x y t u Q s rx ry q
  cases t with
  | dN c =>
    cases rx with
    | dN h r =>
      cases ry with
      | non => exact .inr ⟨_, _, rfl, rfl, rd_mono s h, q.flat s r⟩
      | _ => exact q.elim
  | _ => exact .inl (o2_ix F H x y _ u Q s rx ry q)
theorem re_ixA {a b : Expr} {fa fb : FX.Env → R Vl} {pos : Pos} {k : Nat} (hr : Room k X.A) (ha : RE X au W a fa) (hb : RE X au W b fb) (hs : PlainIx b := by exact fun _ _ => rfl) : RE X au W (.Subscript a b pos) (fBin aIxA fa fb) :=
  ⟨PE.imp (pe_ix ((ix_seq.or (ix_dict (hu_of hr))).or ix_dN) ha.pe hb.pe hs) fun σ H Q q => bin_of o2_ixA q⟩
/-! ### a dict that is walked is locked -/
def isD : HO → Prop
  | .dK _ => True
  | .dT _ => True
  | .ext _ => True
  | _ => False
section
variable {K : PySem.W.Frag} {mg : Str → Option Value} {F F' H H' : Hp} {d : Addr} {od : Obj} {u : HO}
theorem rd_lock (hd : F d = some u) (hu : isD u) {a : Addr} {o : HO} (h : Rd F a o) : Rd (upd F d (.frz od u)) a o := by
  by_cases z : a = d
  · subst z
    rcases h with h | ⟨o', h⟩
    · rw [hd] at h; cases h; exact .inr ⟨od, upd_same⟩
    · rw [hd] at h; cases h; exact hu.elim
  · rcases h with h | ⟨o', h⟩
    · exact .inl (by rw [upd_ne z]; exact h)
    · exact .inr ⟨o', by rw [upd_ne z]; exact h⟩
theorem rd_unlock (hd : F d = some (.frz od u)) {a : Addr} {o : HO} (h : Rd F a o) (ho : ∀ o' x, o ≠ .frz o' x) : Rd (upd F d u) a o := by
  by_cases z : a = d
  · subst z
    rcases h with h | ⟨o', h⟩
    · rw [hd] at h; cases h; exact absurd rfl (ho _ _)
    · rw [hd] at h; cases h; exact .inl upd_same
  · rcases h with h | ⟨o', h⟩
    · exact .inl (by rw [upd_ne z]; exact h)
    · exact .inr ⟨o', by rw [upd_ne z]; exact h⟩
theorem st_lock (hd : F d = some u) (hu : isD u) {a : Addr} {o w : HO} (h : F a = some o) (ho : ¬ isD o) : (upd F d w) a = some o := by
  rw [upd_ne (fun z => by rw [z, hd] at h; cases h; exact ho hu)]; exact h
theorem st_unlock (hd : F d = some (.frz od u)) {a : Addr} {o w : HO} (h : F a = some o) (ho : ∀ o' x, o ≠ .frz o' x) : (upd F d w) a = some o := by
  rw [upd_ne (fun z => by rw [z, hd] at h; cases h; exact ho _ _ rfl)]; exact h
theorem sqT_lock (hd : F d = some u) (hu : isD u) {a : Addr} {xs : List V} (h : SqT K F a xs) : SqT K (upd F d (.frz od u)) a xs := by
  rcases h with h | h
  · exact .inl (rd_lock hd hu h)
  · exact .inr h
theorem sqL_lock (hd : F d = some u) (hu : isD u) {a : Addr} {xs : List V} (h : SqL K F a xs) : SqL K (upd F d (.frz od u)) a xs := by
  rcases h with h | h
  · exact .inl (rd_lock hd hu h)
  · exact .inr h
theorem sqT_unlock (hd : F d = some (.frz od u)) {a : Addr} {xs : List V} (h : SqT K F a xs) : SqT K (upd F d u) a xs := by
  rcases h with h | h
  · exact .inl (rd_unlock hd h (fun _ _ z => by cases z))
  · exact .inr h
theorem sqL_unlock (hd : F d = some (.frz od u)) {a : Addr} {xs : List V} (h : SqL K F a xs) : SqL K (upd F d u) a xs := by
  rcases h with h | h
  · exact .inl (rd_unlock hd h (fun _ _ z => by cases z))
  · exact .inr h
mutual
theorem Rep.lock (hd : F d = some u) (hu : isD u) : ∀ {v : V} {t : T}, Rep K mg F v t → Rep K mg (upd F d (.frz od u)) v t
  | _, _, .non => .non
  | _, _, .bl b => .bl b
  | _, _, .int b => .int b
  | _, _, .str b => .str b
  | _, _, .tup h r => .tup (st_lock hd hu h (fun z => z)) (Reps.lock hd hu r)
  | _, _, .tsq h r => .tsq (sqT_lock hd hu h) (Reps.lock hd hu r)
  | _, _, .lst h r => .lst (st_lock hd hu h (fun z => z)) (Reps.lock hd hu r)
  | _, _, .seq h r => .seq (sqL_lock hd hu h) (Reps.lock hd hu r)
  | _, _, .dK h r => .dK (rd_lock hd hu h) (RepK.lock hd hu r)
  | _, _, .dT h r => .dT (rd_lock hd hu h) (RepT.lock hd hu r)
  | _, _, .ins hc h r => .ins hc (st_lock hd hu h (fun z => z)) (RepF.lock hd hu r)
  | _, _, .fn h => .fn h
  | _, _, .ty n => .ty n
  | _, _, .dN h r => .dN (rd_lock hd hu h) (Rep.lock hd hu r)
theorem Reps.lock (hd : F d = some u) (hu : isD u) : ∀ {v : List V} {t : List T}, Reps K mg F v t → Reps K mg (upd F d (.frz od u)) v t
  | _, _, .nil => .nil
  | _, _, .cons h r => .cons (Rep.lock hd hu h) (Reps.lock hd hu r)
theorem RepK.lock (hd : F d = some u) (hu : isD u) : ∀ {v : List (Key × V)} {t : List (Key × T)}, RepK K mg F v t → RepK K mg (upd F d (.frz od u)) v t
  | _, _, .nil => .nil
  | _, _, .cons h r => .cons (Rep.lock hd hu h) (RepK.lock hd hu r)
theorem RepT.lock (hd : F d = some u) (hu : isD u) : ∀ {v : List (List Key × V)} {t : List (List Key × T)}, RepT K mg F v t → RepT K mg (upd F d (.frz od u)) v t
  | _, _, .nil => .nil
  | _, _, .cons h r => .cons (Rep.lock hd hu h) (RepT.lock hd hu r)
theorem RepF.lock (hd : F d = some u) (hu : isD u) : ∀ {v : List (Str × V)} {t : List (Str × T)}, RepF K mg F v t → RepF K mg (upd F d (.frz od u)) v t
  | _, _, .nil => .nil
  | _, _, .cons h r => .cons (Rep.lock hd hu h) (RepF.lock hd hu r)
end
mutual
theorem Rep.unlock (hd : F d = some (.frz od u)) : ∀ {v : V} {t : T}, Rep K mg F v t → Rep K mg (upd F d u) v t
  | _, _, .non => .non
  | _, _, .bl b => .bl b
  | _, _, .int b => .int b
  | _, _, .str b => .str b
  | _, _, .tup h r => .tup (st_unlock hd h (fun _ _ z => by cases z)) (Reps.unlock hd r)
  | _, _, .tsq h r => .tsq (sqT_unlock hd h) (Reps.unlock hd r)
  | _, _, .lst h r => .lst (st_unlock hd h (fun _ _ z => by cases z)) (Reps.unlock hd r)
  | _, _, .seq h r => .seq (sqL_unlock hd h) (Reps.unlock hd r)
  | _, _, .dK h r => .dK (rd_unlock hd h (fun _ _ z => by cases z)) (RepK.unlock hd r)
  | _, _, .dT h r => .dT (rd_unlock hd h (fun _ _ z => by cases z)) (RepT.unlock hd r)
  | _, _, .ins hc h r => .ins hc (st_unlock hd h (fun _ _ z => by cases z)) (RepF.unlock hd r)
  | _, _, .fn h => .fn h
  | _, _, .ty n => .ty n
  | _, _, .dN h r => .dN (rd_unlock hd h (fun _ _ z => by cases z)) (Rep.unlock hd r)
theorem Reps.unlock (hd : F d = some (.frz od u)) : ∀ {v : List V} {t : List T}, Reps K mg F v t → Reps K mg (upd F d u) v t
  | _, _, .nil => .nil
  | _, _, .cons h r => .cons (Rep.unlock hd h) (Reps.unlock hd r)
theorem RepK.unlock (hd : F d = some (.frz od u)) : ∀ {v : List (Key × V)} {t : List (Key × T)}, RepK K mg F v t → RepK K mg (upd F d u) v t
  | _, _, .nil => .nil
  | _, _, .cons h r => .cons (Rep.unlock hd h) (RepK.unlock hd r)
theorem RepT.unlock (hd : F d = some (.frz od u)) : ∀ {v : List (List Key × V)} {t : List (List Key × T)}, RepT K mg F v t → RepT K mg (upd F d u) v t
  | _, _, .nil => .nil
  | _, _, .cons h r => .cons (Rep.unlock hd h) (RepT.unlock hd r)
theorem RepF.unlock (hd : F d = some (.frz od u)) : ∀ {v : List (Str × V)} {t : List (Str × T)}, RepF K mg F v t → RepF K mg (upd F d u) v t
  | _, _, .nil => .nil
  | _, _, .cons h r => .cons (Rep.unlock hd h) (RepF.unlock hd r)
end
end
end
end FX
end

section
set_option Elab.async false
set_option linter.all false
set_option maxRecDepth 100000
set_option maxHeartbeats 4000000
namespace FX
open PySem PySem.Spec PyProof.Rows L2
/-! ### for k in a dict -/
def Itn (d : Addr) (o : Obj) (v : V) : It :=
  ⟨fun i H => H d = some (.frz o (.ext (ndA v d))) ∧ i < 1, fun i H x H' => H' = H ∧ x = .non, fun i H => H d = some (.frz o (.ext (ndA v d))) ∧ 1 ≤ i⟩
section
variable {X : Cx} {pins : List (Addr × Obj)} {σ : L2.St} {H : Hp} {s : Shared} {d : Addr} {o : Obj} {v : V}
theorem frzN (I : Inv X pins σ H s) (h : H d = some (.frz o (.ext (ndA v d)))) :
    (d == sysModules) = false ∧ s.heap.get? d = some o ∧ o.ExactDict ∧ ∃ (es : Array DictEntry) (ep : Nat) (u : Value), o.data = .dict es ep ∧ es.size = 1 ∧ s.heap.DictAt (leafKind X.prog X.w) d [(Leaf.none, u)] ep := by
  obtain ⟨hd, ⟨hs, u, ru, dd⟩, _⟩ := I.hok d _ h
  obtain ⟨o', es, ep, ho, hx, hdt, k, p, n⟩ := dd X.prog X.w
  rw [hd] at ho
  cases ho
  refine ⟨hs, hd, hx, es, ep, u, hdt, ?_, o, es, hd, hx, hdt, k, p, n⟩
  have l1 := p.length
  rw [Array.length_toList] at l1
  simpa using l1
end
section
variable {P : Program} {w : World} {K : PySem.W.Frag} {tg : Expr} {d : Addr} {o : Obj} {es : Array DictEntry} {ep : Nat}
theorem turn_kN {v : V} (it : Addr) (hod : o.data = .dict es ep) : Turn P w K tg (Itn d o v) [it] it (fun i h => h.IsKeyIter it d i 1 ep) where
  mem := by simp
  obj := fun i h st b hb => by
    have e : b = it := by simpa using hb
    subst e
    obtain ⟨oi, e, c, dd⟩ := st
    exact ⟨oi, e, fun v z => by rw [dd] at z; cases z⟩
  keep := fun i h h' st k => st.at fun oi e => k it (by simp) oi e
  item := by
    intro X hP hw hK hc i pins s σ H E I hf st hg
    subst hP hw hK
    obtain ⟨hd, hi⟩ := hg
    obtain ⟨f0, f1, f2, f3, f4, f5⟩ := hf it (by simp)
    obtain ⟨hs, hgd, hx, es', ep', u, hdt, hsz, hm⟩ := frzN I hd
    obtain ⟨rfl, rfl⟩ := dict_ep hod hdt
    have ei : i = 0 := by omega
    subst ei
    refine wpAny_pyNext_dict_item (knd := leafKind X.prog X.w) (kvs := [(Leaf.none, u)]) (k := Leaf.none) (v := u) st hm rfl fun key h' hkey st' sb => ?_
    have I1 : Inv X pins σ H { s with heap := h' } := I.turned (t' := s.toks) (fun b ob hb e => (sb.2 b hb).trans e) f0 f1 f3 f4 f5
    obtain ⟨oi, e, c, dd⟩ := id st'
    have hk : key = Value.none := by
      have hkey : Leaf.isOf .none key = true := hkey
      cases key <;> first | rfl | exact absurd hkey Bool.false_ne_true
    subst hk
    exact ⟨.none, rfl, go_of (s := { s with heap := h' }) e c dd (by decide) ⟨.non, H, I1, rfl, ⟨rfl, rfl⟩, st', fun b hb => (hf b hb).1⟩⟩
  done := by
    intro X hP hw hK hc i pins s σ H E I hf st hg
    subst hP hw hK
    obtain ⟨hd, hi⟩ := hg
    obtain ⟨f0, f1, f2, f3, f4, f5⟩ := hf it (by simp)
    obtain ⟨hs, hgd, hx, es', ep', u, hdt, hsz, hm⟩ := frzN I hd
    obtain ⟨rfl, rfl⟩ := dict_ep hod hdt
    exact next_key_end (I.ok.hd hc) st hgd hdt hsz hi fun h' eb => ⟨rfl, I.turned (t' := s.toks) (fun b ob hb e => eb b ob hb e) f0 f1 f3 f4 f5⟩
  self := fun A i s Q E st h => wpAny_pyIter_keyiter st h
end
def iKA (td : TE) : TI := fun σ H R => td σ H fun x H1 => ∃ d o, x = .ref d ∧ ((∃ kvs, H1 d = some (.frz o (.dK kvs)) ∧ R (Itk d o kvs) H1) ∨ ∃ v, H1 d = some (.frz o (.ext (ndA v d))) ∧ R (Itn d o v) H1)
section
variable {X : Cx} {au : Au} {W : WX}
theorem pi_kA {tg e : Expr} {td : TE} (he : PE X e td) : PI X tg e (iKA td) := by
  refine ⟨fun pins s σ H R I h => ?_⟩
  refine thn (he.run pins s σ H _ I h) fun u s1 ⟨x, H1, I1, rx, d, o, ex, q⟩ => ?_
  subst ex
  obtain rfl : u = Value.ref d := rx
  rcases q with ⟨kvs, hd, q⟩ | ⟨v, hd, q⟩
  · obtain ⟨hs, hgd, hx, es, ep, vs, hdt, hsz, kv, hm⟩ := I1.frzK hd
    refine iter_keys hs hgd hx hdt (pi_one (tk := s1.toks) I1 _ (turn_keys _ hdt) ⟨_, Heap.get?_push_size _ rfl, rfl, ?_⟩ q)
    rw [hsz] <;> rfl
  · obtain ⟨hs, hgd, hx, es, ep, u, hdt, hsz, hm⟩ := frzN I1 hd
    refine iter_keys hs hgd hx hdt (pi_one (tk := s1.toks) I1 _ (turn_kN _ hdt) ⟨_, Heap.get?_push_size _ rfl, rfl, ?_⟩ q)
    rw [hsz] <;> rfl
def kT : Key → T
  | .inl i => .int i
  | .inr x => .str x
/-- the keys of a dict; the one with None only where n -/
def dkeys (n : Bool) : T → Option (List T)
  | .dK kvs => some (kvs.map fun p => kT p.1)
  | .dN _ => if n = true then some [.non] else none
  | _ => none
theorem RepK.getK {K : PySem.W.Frag} {mg : Str → Option Value} {F : Hp} : ∀ {kvs : List (Key × V)} {ts : List (Key × T)}, RepK K mg F kvs ts → ∀ {i : Nat} {k : Key} {v : V}, kvs[i]? = some (k, v) → ∃ u, ts[i]? = some (k, u)
  | _, _, .nil, _, _, _, h => by cases h
  | _, _, .cons h r, 0, _, _, e => by cases e; exact ⟨_, rfl⟩
  | _, _, .cons h r, i + 1, _, _, e => RepK.getK r (i := i) e
theorem wk_keys {F H : Hp} {d : Addr} {o : Obj} {kvs : List (Key × V)} {ts : List (Key × T)} (h : F d = some (.frz o (.dK kvs))) (r : RepK X.K X.mg F kvs ts) : Wk X.K X.mg (Itk d o kvs) F H (ts.map fun p => kT p.1) := by
  have hl := r.length
  refine ⟨fun H => H d = some (.frz o (.dK kvs)), fun i H x H' => H' = H ∧ ∃ k v, kvs[i]? = some (k, v) ∧ x = kV k, ?_, fun F' H' s1 s2 => s2 _ _ (s1 _ _ h), ?_⟩
  · rw [List.length_map, ← hl]
    exact ⟨fun i H hi q => ⟨q, hi⟩, fun H q => ⟨q, Nat.le_refl _⟩, fun i H x H' hi q y => y⟩
  · rintro i H1 x H2 F1 t ht s1 s2 ⟨e, k, v, hkv, ex⟩
    subst e ex
    refine ⟨F1, .refl _, .refl _, s2, fun _ h => .inl h, ?_⟩
    have : ∃ u, ts[i]? = some (k, u) := r.getK hkv
    obtain ⟨u, hu⟩ := this
    rw [List.getElem?_map, hu] at ht
    cases ht
    cases k with
    | inl i => exact .int i
    | inr x => exact .str x
theorem wk_N {F H : Hp} {d : Addr} {o : Obj} {v : V} (h : F d = some (.frz o (.ext (ndA v d)))) : Wk X.K X.mg (Itn d o v) F H [.non] := by
  refine ⟨fun H => H d = some (.frz o (.ext (ndA v d))), fun i H x H' => H' = H ∧ x = .non, ?_, fun F' H' s1 s2 => s2 _ _ (s1 _ _ h), ?_⟩
  · exact ⟨fun i H hi q => ⟨q, hi⟩, fun H q => ⟨q, Nat.le_refl _⟩, fun i H x H' hi q y => y⟩
  · rintro i H1 x H2 F1 t ht s1 s2 ⟨e, ex⟩
    subst e ex
    refine ⟨F1, .refl _, .refl _, s2, fun _ h => .inl h, ?_⟩
    cases i with
    | zero => cases ht; exact .non
    | succ i => cases ht
/-! #### the lock, told of states -/
section
variable {K : PySem.W.Frag} {mg : Str → Option Value} {F F' H H' : Hp} {d a : Addr} {od : Obj} {u : HO} {t : T} {ρ ρ' : FX.Env} {σ σ' : L2.St}
theorem OwnAt.lock (hd : F d = some u) (hu : isD u) (fa : F a = none) (h : OwnAt K mg F H a t) : OwnAt K mg (upd F d (.frz od u)) (upd H d (.frz od u)) a t := by
  have ne : a ≠ d := fun z => by rw [z, hd] at fa; cases fa
  cases h with
  | lst h r => exact .lst (by rw [upd_ne ne]; exact h) (r.lock hd hu)
  | dK h r => exact .dK (by rw [upd_ne ne]; exact h) (r.lock hd hu)
  | dT h r => exact .dT (by rw [upd_ne ne]; exact h) (r.lock hd hu)
  | ins hc h r => exact .ins hc (by rw [upd_ne ne]; exact h) (r.lock hd hu)
theorem OwnAt.unlock (hd : F d = some (.frz od u)) (fa : F a = none) (h : OwnAt K mg F H a t) : OwnAt K mg (upd F d u) (upd H d u) a t := by
  have ne : a ≠ d := fun z => by rw [z, hd] at fa; cases fa
  cases h with
  | lst h r => exact .lst (by rw [upd_ne ne]; exact h) (r.unlock hd)
  | dK h r => exact .dK (by rw [upd_ne ne]; exact h) (r.unlock hd)
  | dT h r => exact .dT (by rw [upd_ne ne]; exact h) (r.unlock hd)
  | ins hc h r => exact .ins hc (by rw [upd_ne ne]; exact h) (r.unlock hd)
theorem upd_same3 {F H : Hp} {d : Addr} {w : HO} (s : Same F H) : Same (upd F d w) (upd H d w) := fun b o h => by
  by_cases z : b = d
  · subst z; rw [upd_same] at h ⊢; exact h
  · rw [upd_ne z] at h ⊢; exact s _ _ h
theorem upd_none {H : Hp} {d b : Addr} {w : HO} (h : upd H d w b = none) : b ≠ d ∧ H b = none := by
  by_cases z : b = d
  · subst z; rw [upd_same] at h; cases h
  · rw [upd_ne z] at h; exact ⟨z, h⟩
theorem SRel.lock (S : SRel K mg au ρ σ F H) (hd : F d = some u) (hu : isD u) (hn : (∀ φ, u ≠ .ext φ) ∨ au.tb = []) : SRel K mg au ρ σ (upd F d (.frz od u)) (upd H d (.frz od u)) where
  nt := nt_upd S.nt fun ps z => by cases z
  sub := upd_same3 S.sub
  nw := fun b h => S.nw b (upd_none h).2
  tabs := by
    rcases hn with hn | hn
    · exact tabs_upd S.tabs (S.sub _ _ hd) (fun ps z => by subst z; exact hu) hn
    · intro p hp; rw [hn] at hp; cases hp
  len := S.len
  fz := fun h => by obtain ⟨v, a, b⟩ := S.fz h; exact ⟨v, a, b.lock hd hu⟩
  ow := fun h => by
    obtain ⟨a, e, n, o, i⟩ := S.ow h
    exact ⟨a, e, by rw [upd_ne (fun z => by rw [z, hd] at n; cases n)]; exact n, o.lock hd hu n, i⟩
  ds := S.ds
theorem SRel.unlock (S : SRel K mg au ρ σ F H) (hd : F d = some (.frz od u)) (hu : isD u) : SRel K mg au ρ σ (upd F d u) (upd H d u) where
  nt := nt_upd S.nt fun ps z => by subst z; exact hu
  sub := upd_same3 S.sub
  nw := fun b h => S.nw b (upd_none h).2
  tabs := tabs_upd S.tabs (S.sub _ _ hd) (fun ps z => by cases z) (fun φ z => by cases z)
  len := S.len
  fz := fun h => by obtain ⟨v, a, b⟩ := S.fz h; exact ⟨v, a, b.unlock hd⟩
  ow := fun h => by
    obtain ⟨a, e, n, o, i⟩ := S.ow h
    exact ⟨a, e, by rw [upd_ne (fun z => by rw [z, hd] at n; cases n)]; exact n, o.unlock hd n, i⟩
  ds := S.ds
theorem Xt.unlock {lam : Prop} {A A' : Addr → Prop} (x : Xt lam A (upd F d (.frz od u)) (upd H d (.frz od u)) A' F' H') (hF : F d = some u) (hH : H d = some u) (hA : ¬ A d) : Xt lam A F H A' (upd F' d u) (upd H' d u) where
  ff := fun b o h => by
    by_cases z : b = d
    · subst z; rw [hF] at h; cases h; exact upd_same
    · rw [upd_ne z]; exact x.ff b o (by rw [upd_ne z]; exact h)
  hh := fun b o h n na => by
    by_cases z : b = d
    · subst z; rw [hH] at h; cases h; exact upd_same
    · rw [upd_ne z]; exact x.hh b o (by rw [upd_ne z]; exact h) n na
  nn := fun b h => (upd_none (x.nn b (upd_none h).2)).2
  fn := fun b h => by
    by_cases z : b = d
    · subst z; exact .inl (by rw [hF]; simp)
    · rw [upd_ne z] at h
      rcases x.fn b h with q | q | q
      · rw [upd_ne z] at q; exact .inl q
      · exact .inr (.inl (by
          rcases q with q | ⟨vs, q⟩
          · exact .inl (upd_none q).2
          · rw [upd_ne z] at q; exact .inr ⟨vs, q⟩))
      · exact .inr (.inr q)
  ow := fun b h => (x.ow b h).elim .inl fun q => .inr (upd_none q).2
  tp := fun b vs h => by
    by_cases z : b = d
    · subst z; rw [upd_same] at h; cases h; exact .inl (.inr ⟨vs, hH⟩)
    · rw [upd_ne z] at h
      rcases x.tp b vs h with (q | ⟨ws, q⟩) | q
      · exact .inl (.inl (upd_none q).2)
      · rw [upd_ne z] at q; exact .inl (.inr ⟨ws, q⟩)
      · exact .inr q
theorem xt_locked {lam : Prop} {A A' : Addr → Prop} (x : Xt lam A (upd F d (.frz od u)) H A' F' H') : F' d = some (.frz od u) := x.ff _ _ upd_same
end
/-- no exception -/
def noEr : O → O
  | .er _ _ => .stuck
  | o => o
/-- the i-th slot's dict is locked -/
def Lkd (i : Nat) (σ : L2.St) (H : Hp) : Prop := ∃ d od u, σ[i]? = some (some (.ref d)) ∧ H d = some (.frz od u)
def fiK (n : Bool) (i : Nat) : FX.Env → R (List T) := fun ρ => match ρ[i]? with
  | some (.fz t) => match dkeys n t with
    | some ks => .ok ks ρ
    | none => .stuck
  | _ => .stuck
/-- the slot's own dict is let out first -/
def thaw (i : Nat) (ρ : FX.Env) : FX.Env := match ρ[i]? with
  | some (.own _ t) => ρ.set i (.fz t)
  | _ => ρ
theorem pi_lkd {tg : Expr} {x : Str} {p : Pos} (n : Bool) (i : Nat) (hN : X.N[i]? = some x) (hv : Vis X.env.scope x) (hd : (x == ("__debug__" : Str)) = false) (hcd : (x == ("__classdict__" : Str)) = false) :
    PI X tg (.Name x p) fun σ H R => Lkd i σ H ∧ tF X au W (VW X) (fiK n i) σ H R := by
  refine PI.imp (pi_kA (pe_var hN hv hd hcd)) fun σ H R ⟨⟨d, od, u, hs, hl⟩, F, ρ, S, h⟩ => ?_
  unfold fiK at h
  split at h
  · rename_i t et
    obtain ⟨v, ev, rv⟩ := S.fz et
    rw [hs] at ev; cases ev
    split at h
    · rename_i ks ek
      refine ⟨_, hs, d, ?_⟩
      cases rv with
      | dK hr r =>
        cases ek
        rcases hr with hr | ⟨o, hr⟩
        · have := S.sub _ _ hr; rw [hl] at this; cases this
        · exact ⟨o, rfl, .inl ⟨_, S.sub _ _ hr, h _ F H S (Xt.refl _ _ _ _) (wk_keys hr r)⟩⟩
      | dN hr r =>
        simp only [dkeys] at ek
        split at ek
        · cases ek
          rcases hr with hr | ⟨o, hr⟩
          · have := S.sub _ _ hr; rw [hl] at this; cases this
          · exact ⟨o, rfl, .inr ⟨_, S.sub _ _ hr, h _ F H S (Xt.refl _ _ _ _) (wk_N hr)⟩⟩
        · cases ek
      | _ => cases ek
    · exact h.elim
  · exact h.elim
/-- a tree that is walked as a dict stands at an address: it is locked, or may be -/
theorem rd_d {n : Bool} {F : Hp} {x : V} {t : T} {ks : List T} (r : Rep X.K X.mg F x t) (e : dkeys n t = some ks) (hn : n = true → au.tb = []) : ∃ d, x = .ref d ∧ ((∃ od u, F d = some (.frz od u)) ∨ ∃ u, F d = some u ∧ isD u ∧ Mut (some u) ∧ ((∀ φ, u ≠ .ext φ) ∨ au.tb = [])) := by
  cases r with
  | dK h r =>
    refine ⟨_, rfl, ?_⟩
    rcases h with h | ⟨o, h⟩
    · exact .inr ⟨_, h, trivial, trivial, .inl fun φ z => by cases z⟩
    · exact .inl ⟨_, _, h⟩
  | dN h r =>
    simp only [dkeys] at e
    split at e
    · rename_i hh
      refine ⟨_, rfl, ?_⟩
      rcases h with h | ⟨o, h⟩
      · exact .inr ⟨_, h, trivial, trivial, .inr (hn hh)⟩
      · exact .inl ⟨_, _, h⟩
    · cases e
  | _ => cases e
def gForD (n : Bool) (i : Nat) (b : T → FX.Env → Option FX.Env) (g : FX.Env → O) : FX.Env → O := fun ρ => noEr (gFor (fiK n i) b g (thaw i ρ))
theorem noEr_post {ρ : FX.Env} {σ : L2.St} {F H : Hp} {o : O} {D : Ends} (h : PostS X au W ρ σ F H (noEr o) D) : PostS X au WF ρ σ F H o D := by
  cases o <;> first | exact h | exact h.elim
theorem PostS.lock {ρ : FX.Env} {σ : L2.St} {F H : Hp} {o : O} {D : Ends} {d : Addr} {u : HO} {od : Obj} (h : PostS X au WF ρ σ F H o D) (hF : F d = some u) (hH : H d = some u) (hu : isD u) (hA : ¬ OwnA ρ σ d) :
    PostS X au WF ρ σ (upd F d (.frz od u)) (upd H d (.frz od u)) o ⟨fun σ' H' => H' d = some (.frz od u) ∧ D.nx σ' (upd H' d u), fun v H' => H' d = some (.frz od u) ∧ D.rt v (upd H' d u), fun σ' H' => H' d = some (.frz od u) ∧ D.bk σ' (upd H' d u), fun σ' H' => H' d = some (.frz od u) ∧ D.ct σ' (upd H' d u)⟩ := by
  cases o with
  | stuck => exact h
  | er e ρ' =>
    intro cls dd σ' F' H' S' X' E'
    refine h cls dd σ' (upd F' d u) (upd H' d u) (S'.unlock (xt_locked X') hu) (X'.unlock hF hH hA) ?_
    obtain ⟨C, dx, fs, e1, e2, e3, e4, e5⟩ := E'
    refine ⟨C, dx, fs, e1, e2, e3, ?_, e5.unlock (xt_locked X')⟩
    rw [upd_ne (fun z => by have := S'.sub _ _ (xt_locked X'); rw [z, this] at e4; cases e4)]
    exact e4
  | nx ρ' => exact fun σ' F' H' S' X' => ⟨S'.sub _ _ (xt_locked X'), h σ' _ _ (S'.unlock (xt_locked X') hu) (X'.unlock hF hH hA)⟩
  | bk ρ' => exact fun σ' F' H' S' X' => ⟨S'.sub _ _ (xt_locked X'), h σ' _ _ (S'.unlock (xt_locked X') hu) (X'.unlock hF hH hA)⟩
  | ct ρ' => exact fun σ' F' H' S' X' => ⟨S'.sub _ _ (xt_locked X'), h σ' _ _ (S'.unlock (xt_locked X') hu) (X'.unlock hF hH hA)⟩
  | rt v ρ' =>
    refine fun x σ' F' H' S' X' V' => ⟨S'.sub _ _ (xt_locked X'), h x σ' _ _ (S'.unlock (xt_locked X') hu) (X'.unlock hF hH hA) ?_⟩
    cases v with
    | fz t => exact Rep.unlock (xt_locked X') V'
    | bor i => exact V'
    | own t =>
      obtain ⟨p, e, n, ow, n0, no⟩ := V'
      have ne : p ≠ d := fun z => by rw [z, xt_locked X'] at n; cases n
      exact ⟨p, e, by rw [upd_ne ne]; exact n, ow.unlock (xt_locked X') n, (upd_none n0).2, no⟩
theorem thaw_state {i : Nat} {ρ : FX.Env} {σ : L2.St} {F H : Hp} (S : SRel X.K X.mg au ρ σ F H) : ∃ F', SRel X.K X.mg au (thaw i ρ) σ F' H ∧ Xtn au ρ σ F H (thaw i ρ) σ F' H := by
  unfold thaw
  split
  · rename_i k t e
    obtain ⟨a, o, ea, S', X', r⟩ := S.thaw_set e
    exact ⟨_, S', X'⟩
  · exact ⟨F, S, Xt.refl _ _ _ _⟩
theorem rs_forD (n : Bool) (i : Nat) {ws : List Nat} {x : Str} {p : Pos} {tg : Expr} {body : List Stmt} {b : T → FX.Env → Option FX.Env} {g : FX.Env → O} {pos : Pos} (hn : n = true → au.tb = []) (hg : RG X au ws tg b) (hb : RSs X au WF body g) (hp : PassesOwn (model X.prog X.w) X.A X.env X.xe) (hN : X.N[i]? = some x := by rfl)
    (hv : Vis X.env.scope x := by first | exact Or.inl rfl | exact Or.inr (Or.inl rfl) | exact Or.inr (Or.inr rfl)) (hd : (x == ("__debug__" : Str)) = false := by decide) (hcd : (x == ("__classdict__" : Str)) = false := by decide) (hc : X.calm = true := by rfl)
    (hs : ∀ x', foldedSetIterable (.Name x p) X.env x' = pure x' := by intro _; rfl) : RS X au W (.For tg (.Name x p) body [] pos) (gForD n i b g) := by
  have A : PS X (.For tg (.Name x p) body [] pos) fun D σ H => Lkd i σ H ∧ tS X au WF (gFor (fiK n i) b g) D σ H :=
    PS.imp (ps_for hp hc (pi_lkd (au := au) (W := WF) n i hN hv hd hcd) hg.pg hb.pss hs) fun D σ H ⟨l, q⟩ => ⟨l, for_core q⟩
  refine ⟨⟨fun pins s σ H D I ⟨F, ρ, S, q⟩ => ?_⟩⟩
  obtain ⟨F', S', X'⟩ := thaw_state (i := i) S
  have q' : PostS X au WF (thaw i ρ) σ F' H (gFor (fiK n i) b g (thaw i ρ)) D := noEr_post (q.step X')
  have ex : ∃ t ks, (thaw i ρ)[i]? = some (.fz t) ∧ dkeys n t = some ks := by
    unfold gFor at q'
    cases e : fiK n i (thaw i ρ) with
    | stuck => rw [e] at q'; exact q'.elim
    | err e' ρ' => rw [e] at q'; exact absurd e (by unfold fiK; split <;> (try split) <;> simp)
    | ok ks ρ1 =>
      unfold fiK at e
      split at e
      · rename_i t et
        split at e
        · rename_i ks' ek; exact ⟨t, _, et, ek⟩
        · cases e
      · cases e
  obtain ⟨t, ks, et, ek⟩ := ex
  obtain ⟨v, ev, rv⟩ := S'.fz et
  obtain ⟨d, rfl, h⟩ := rd_d (au := au) rv ek hn
  rcases h with ⟨od, u, h⟩ | ⟨u, h, hu, mu, hx⟩
  · exact A.run pins s σ H D I ⟨⟨d, od, u, ev, S'.sub _ _ h⟩, F', _, S', q'⟩
  · have hA : ¬ OwnA (thaw i ρ) σ d := fun ⟨j, k, t', h1, h2⟩ => by
      obtain ⟨a, ea, na, _⟩ := S'.ow h1
      rw [h2] at ea; cases ea
      rw [h] at na; cases na
    exact (ps_lock A).run pins s σ H D I ⟨d, u, S'.sub _ _ h, mu, fun od => ⟨⟨d, od, u, ev, upd_same⟩, _, _, S'.lock h hu hx, q'.lock h (S'.sub _ _ h) hu hA⟩⟩
def noErR {α : Type} : R α → R α
  | .err _ _ => .stuck
  | r => r
theorem noErR_post {ρ : FX.Env} {σ : L2.St} {F H : Hp} {r : R Vl} {Q : VK} (h : Post X au W (VE X) ρ σ F H (noErR r) Q) : Post X au WF (VE X) ρ σ F H r Q := by
  cases r <;> first | exact h | exact h.elim
theorem Post.lock {ρ : FX.Env} {σ : L2.St} {F H : Hp} {r : R Vl} {Q : VK} {d : Addr} {u : HO} {od : Obj} (h : Post X au WF (VE X) ρ σ F H r Q) (hF : F d = some u) (hH : H d = some u) (hu : isD u) (hA : ¬ OwnA ρ σ d) :
    Post X au WF (VE X) ρ σ (upd F d (.frz od u)) (upd H d (.frz od u)) r fun v H' => H' d = some (.frz od u) ∧ Q v (upd H' d u) := by
  cases r with
  | stuck => exact h
  | err e ρ' =>
    intro cls dd F' H' S' X' E'
    refine h cls dd (upd F' d u) (upd H' d u) (S'.unlock (xt_locked X') hu) (X'.unlock hF hH hA) ?_
    obtain ⟨C, dx, fs, e1, e2, e3, e4, e5⟩ := E'
    refine ⟨C, dx, fs, e1, e2, e3, ?_, e5.unlock (xt_locked X')⟩
    rw [upd_ne (fun z => by have := S'.sub _ _ (xt_locked X'); rw [z, this] at e4; cases e4)]
    exact e4
  | ok v ρ' =>
    refine fun x F' H' S' X' V' => ⟨S'.sub _ _ (xt_locked X'), h x _ _ (S'.unlock (xt_locked X') hu) (X'.unlock hF hH hA) ?_⟩
    cases v with
    | fz t => exact Rep.unlock (xt_locked X') V'
    | bor i => exact V'
    | own t =>
      obtain ⟨p, e, n, ow, n0, no⟩ := V'
      have ne : p ≠ d := fun z => by rw [z, xt_locked X'] at n; cases n
      exact ⟨p, e, by rw [upd_ne ne]; exact n, ow.unlock (xt_locked X') n, (upd_none n0).2, no⟩
def fLcD (n : Bool) (i : Nat) (vs : List Nat) (b : T → FX.Env → Option FX.Env) (ft : FX.Env → R Bool) (fe : FX.Env → R Vl) : FX.Env → R Vl := fun ρ => noErR (fLc vs (fiK n i) b ft fe (thaw i ρ))
theorem fiK_ok {n : Bool} {i : Nat} {ρ : FX.Env} {α : Type} {k : List T → FX.Env → R α} (h : (fiK n i ρ).bind k ≠ .stuck) : ∃ t ks, ρ[i]? = some (.fz t) ∧ dkeys n t = some ks := by
  unfold fiK at h
  split at h
  · rename_i t et
    split at h
    · rename_i ks ek; exact ⟨t, ks, et, ek⟩
    · exact absurd rfl h
  · exact absurd rfl h
/-- an expression that walks the slot's dict -/
theorem pe_lockD {e : Expr} {n : Bool} {i : Nat} {k : List T → FX.Env → R Vl} (hn : n = true → au.tb = []) (A : PE X e fun σ H Q => Lkd i σ H ∧ tF X au WF (VE X) (fun ρ => (fiK n i ρ).bind k) σ H Q) : RE X au W e fun ρ => noErR ((fiK n i (thaw i ρ)).bind k) := by
  refine ⟨⟨fun pins s σ H D I ⟨F, ρ, S, q⟩ => ?_⟩⟩
  obtain ⟨F', S', X'⟩ := thaw_state (i := i) S
  have q' : Post X au WF (VE X) (thaw i ρ) σ F' H ((fiK n i (thaw i ρ)).bind k) D := noErR_post (q.step early_VE X')
  obtain ⟨t, ks, et, ek⟩ := fiK_ok (n := n) (i := i) (ρ := thaw i ρ) (k := k) fun z => by rw [z] at q'; exact q'
  obtain ⟨v, ev, rv⟩ := S'.fz et
  obtain ⟨d, rfl, h⟩ := rd_d (au := au) rv ek hn
  rcases h with ⟨od, u, h⟩ | ⟨u, h, hu, mu, hx⟩
  · exact A.run pins s σ H D I ⟨⟨d, od, u, ev, S'.sub _ _ h⟩, F', _, S', q'⟩
  · have hA : ¬ OwnA (thaw i ρ) σ d := fun ⟨j, k, t', h1, h2⟩ => by
      obtain ⟨a, ea, na, _⟩ := S'.ow h1
      rw [h2] at ea; cases ea
      rw [h] at na; cases na
    exact (pe_lock A).run pins s σ H D I ⟨d, u, S'.sub _ _ h, mu, fun od => ⟨⟨d, od, u, ev, upd_same⟩, _, _, S'.lock h hu hx, q'.lock h (S'.sub _ _ h) hu hA⟩⟩
section
variable {elt tg : Expr} {ifs : List Expr} {scope : Scope} {own : List (Str × Nat)} {x : Str} {p pos : Pos} {ws : List Nat} {b : T → FX.Env → Option FX.Env} {ft : FX.Env → R Bool} {fe : FX.Env → R Vl}
theorem re_lcD (n : Bool) (i : Nat) (hN' : X.N.Nodup) (hn : n = true → au.tb = []) (ok : BlkOk X.N X.env.scope scope own) (hws : ∀ i ∈ ws, i ∈ own.map (·.2))
    (hg : ∀ (s : Shared) (H : Hp) (C : Addr) (cl : List (Str × Addr)) (fp : List Addr), RG (X.blk s H scope (compEnvC scope cl C X.env) fp) au ws tg b) (ht : ∀ (s : Shared) (H : Hp) (C : Addr) (cl : List (Str × Addr)) (fp : List Addr), RTs (X.blk s H scope (compEnvC scope cl C X.env) fp) au WF ifs ft)
    (he : ∀ (s : Shared) (H : Hp) (C : Addr) (cl : List (Str × Addr)) (fp : List Addr), RE (X.blk s H scope (compEnvC scope cl C X.env) fp) au WF elt fe) (hN : X.N[i]? = some x := by rfl)
    (hv : Vis X.env.scope x := by first | exact Or.inl rfl | exact Or.inr (Or.inl rfl) | exact Or.inr (Or.inr rfl)) (hd : (x == ("__debug__" : Str)) = false := by decide) (hcd : (x == ("__classdict__" : Str)) = false := by decide) (hc : X.calm = true := by rfl)
    (hs : ∀ x', foldedSetIterable (.Name x p) X.env x' = pure x' := by intro _; rfl) : RE X au W (.ListComp elt [⟨tg, .Name x p, ifs, 0⟩] scope pos) (fLcD n i (own.map (·.2)) b ft fe) :=
  pe_lockD hn (PE.imp (pe_lc (g := tgR X au ws b) (tt := tF X au WF VB ft) (te := tF X au WF (VE X) fe) hc hN' (pi_lkd (au := au) (W := WF) n i hN hv hd hcd) ok (fun s H C cl fp => (hg s H C cl fp).pg) (fun s H C cl fp => (ht s H C cl fp).pts) (fun s H C cl fp => (he s H C cl fp).pe) hs) fun σ H Q ⟨l, q⟩ => ⟨l, lc_of hws q⟩)
end
end
end FX
end

section
set_option Elab.async false
set_option linter.all false
set_option maxRecDepth 100000
set_option maxHeartbeats 4000000
namespace FX
open PySem PySem.Spec PyProof.Rows L2
/-! ### defs that change their first argument -/
inductive RpM where
  | ok (t : T) (v : Nv) | err (e : Ex) | stuck
def own0 (ρ : FX.Env) : Option T := match ρ[(0 : Nat)]? with
  | some (.own (some 0) t) => some t
  | _ => none
def endM : O → RpM
  | .nx ρ => match own0 ρ with
    | some t => .ok t (.fz .non)
    | none => .stuck
  | .rt v ρ => match own0 ρ with
    | some t => match v with
      | .fz w => .ok t (.fz w)
      | .own w => .ok t (.own w)
      | .bor i => match ρ[i]? with
        | some (.own none w) => .ok t (.own w)
        | some (.fz w) => .ok t (.fz w)
        | _ => .stuck
    | none => .stuck
  | .er e _ => .err e
  | _ => .stuck
def RpO (K : PySem.W.Frag) (mg : Str → Option Value) (F H : Hp) (a : Addr) (r : RpM) (Q : VK) (E : XK) : Prop := match r with
  | .ok t v => ∀ x F' H', Same F F' → (∀ b o, H b = some o → b ≠ a → H' b = some o) → (∀ b, H' b = none → H b = none) → Same F' H' → (∀ b, F' b ≠ none → F b ≠ none ∨ Nh H b) → F' a = none → OwnAt K mg F' H' a t →
      (match v with | .fz w => Rep K mg F' x w | .own w => ∃ p, x = .ref p ∧ H p = none ∧ F' p = none ∧ OwnAt K mg F' H' p w) → Q x H'
  | .err e => ∀ cls d F' H', Same F F' → (∀ b o, H b = some o → b ≠ a → H' b = some o) → (∀ b, H' b = none → H b = none) → Same F' H' → (∀ b, F' b ≠ none → F b ≠ none ∨ Nh H b ∨ b = a) → ExR K mg F' H' e cls d → E cls d H'
  | .stuck => False
def spM (K : PySem.W.Frag) (mg : Str → Option Value) (g : T → List T → RpM) : Sp := fun vs H Q E => ∃ F a t vs' ts, vs = .ref a :: vs' ∧ Same F H ∧ F a = none ∧ OwnAt K mg F H a t ∧ Reps K mg F vs' ts ∧ RpO K mg F H a (g t ts) Q E
def startM (N n : Nat) (t : T) (ts : List T) : FX.Env := .own (some 0) t :: (ts.map .fz ++ List.replicate (N - 1 - n) .un)
/-- n: how many more arguments -/
def mkM (n N : Nat) (G : FX.Env → O) : T → List T → RpM := fun t ts => if ts.length = n then endM (G (startM N n t ts)) else .stuck
theorem startM_get {N n : Nat} {t : T} {ts : List T} {i : Nat} {x : Sl} (h : (startM N n t ts)[i]? = some x) : (i = 0 ∧ x = .own (some 0) t) ∨ ∃ j, i = j + 1 ∧ (x = .un ∨ ∃ u, x = .fz u ∧ ts[j]? = some u) := by
  cases i with
  | zero => cases h; exact .inl ⟨rfl, rfl⟩
  | succ j =>
    refine .inr ⟨j, rfl, ?_⟩
    have h : (startP (N - 1) n ts)[j]? = some x := h
    exact startP_get h
theorem own0_some {ρ : FX.Env} {t : T} (h : own0 ρ = some t) : ρ[(0 : Nat)]? = some (.own (some 0) t) := by
  unfold own0 at h
  split at h
  · cases h; assumption
  · cases h
theorem endM_post {X : Cx} {au : Au} {a : Addr} {ρ : FX.Env} {σ : L2.St} {F H : Hp} {o : O} {Q : VK} {E : XK} (hn : ∀ b, OwnA ρ σ b → b = a) (ha : F a = none) (hH : H a ≠ none) (e0 : au.as 0 = a) (ht : au.tb = []) (hnew : ∀ b, au.new b → H b = none) (h : RpO X.K X.mg F H a (endM o) Q E) :
    PostS X au (fun cls d _ H => E cls d H) ρ σ F H o { nx := fun _ H' => Q .non H', rt := Q } := by
  have ext : ∀ {ρ' : FX.Env} {σ' : L2.St} {F' H' : Hp} {t : T}, SRel X.K X.mg au ρ' σ' F' H' → Xtn au ρ σ F H ρ' σ' F' H' → own0 ρ' = some t → (∀ b o, H b = some o → b ≠ a → H' b = some o) ∧ (∀ b, F' b ≠ none → F b ≠ none ∨ Nh H b) ∧ F' a = none ∧ OwnAt X.K X.mg F' H' a t := by
    intro ρ' σ' F' H' t S x e
    obtain ⟨a', ea, na, oa, da⟩ := S.ow (own0_some e)
    have : a' = a := by have da : a' = au.as 0 := da; rw [da, e0]
    subst this
    refine ⟨fun b o q ne => x.hh b o q (fun z => absurd ht z) fun z => ne (hn b z), fun b q => ?_, na, oa⟩
    rcases x.fn b q with z | z | z
    · exact .inl z
    · exact .inr z
    · rw [hn b z] at q; exact absurd na q
  cases o with
  | stuck => exact h
  | bk ρ' => exact h.elim
  | ct ρ' => exact h.elim
  | er e ρ' =>
    intro cls d σ' F' H' S' X' E'
    refine h cls d F' H' X'.ff (fun b o q ne => X'.hh b o q (fun z => absurd ht z) fun z => ne (hn b z)) X'.nn S'.sub (fun b q => ?_) E'
    rcases X'.fn b q with z | z | z
    · exact .inl z
    · exact .inr (.inl z)
    · exact .inr (.inr (hn b z))
  | nx ρ' =>
    simp only [endM] at h
    split at h
    · rename_i t e
      intro σ' F' H' S' X'
      obtain ⟨h1, h2, h3, h4⟩ := ext S' X' e
      exact h .non F' H' X'.ff h1 X'.nn S'.sub h2 h3 h4 .non
    · exact h.elim
  | rt v ρ' =>
    simp only [endM] at h
    split at h
    · rename_i t e
      intro x σ' F' H' S' X' V'
      obtain ⟨h1, h2, h3, h4⟩ := ext S' X' e
      cases v with
      | fz w => exact h x F' H' X'.ff h1 X'.nn S'.sub h2 h3 h4 V'
      | own w =>
        obtain ⟨p, e, n, ow, n0, no⟩ := V'
        subst e
        exact h (.ref p) F' H' X'.ff h1 X'.nn S'.sub h2 h3 h4 ⟨p, rfl, n0, n, ow⟩
      | bor i =>
        obtain ⟨k, w, e1, e2⟩ := V'
        simp only [e1] at h
        obtain ⟨b, eb, nb, ob, db⟩ := S'.ow e1
        rw [e2] at eb; cases eb
        cases k with
        | some j => exact h.elim
        | none => exact h (.ref b) F' H' X'.ff h1 X'.nn S'.sub h2 h3 h4 ⟨b, rfl, hnew b db, nb, ob⟩
    · exact h.elim
section
variable {P : Program} {w : World} {K : PySem.W.Frag} {mg : Str → Option Value} {base : Heap}
/-- what a def's own kind gives: its body's reading is enough -/
def OkF (P : Program) (w : World) (K : PySem.W.Frag) (mg : Str → Option Value) (base : Heap) (qual : Str) (st : Stmt) (f : Addr) (fd : FuncData) (N ps : List Str) (k : Nat) : Prop :=
  ∀ sp : Sp, (∀ vs H Q E, sp vs H Q E → vs.length = ps.length) → (∀ (cdv : Value) (A : Around) (outer : List PySem.Env) (s : Shared) (H : Hp) (vs : List V) (Q : VK) (E : XK), Room k (A.deeper (envOfC qual (defScope st) s.heap.objs.size f cdv)) → sp vs H Q E →
      ∃ t, PSs (cxOf (L2.CX P w) P w K mg base N qual (defScope st) f cdv A outer s H E) (defBody st) t ∧ t { nx := fun _ H' => Q .non H', rt := Q } (L2.start N vs) H) → FnOk P w K mg base (L2.CX P w) (k + 1) f fd ps sp
theorem fnM {qual : Str} {st : Stmt} {f : Addr} {fd : FuncData} {N ps : List Str} {k n : Nat} {G : FX.Env → O} (Ok : OkF P w K mg base qual st f fd N ps k) (hps : ps.length = n + 1)
    (hb : ∀ (cdv : Value) (A : Around) (outer : List PySem.Env) (s : Shared) (H : Hp) (E : XK) (au : Au), au.tb = [] → Room k (A.deeper (envOfC qual (defScope st) s.heap.objs.size f cdv)) →
      RSs (cxOf (L2.CX P w) P w K mg base N qual (defScope st) f cdv A outer s H E) au (fun cls d _ H => E cls d H) (defBody st) G) : FnOk P w K mg base (L2.CX P w) (k + 1) f fd ps (spM K mg (mkM n N.length G)) := by
  have hlen : ∀ {t : T} {ts : List T} {F H : Hp} {a : Addr} {Q : VK} {E : XK}, RpO K mg F H a (mkM n N.length G t ts) Q E → ts.length = n ∧ RpO K mg F H a (endM (G (startM N.length n t ts))) Q E := fun {t ts F H a Q E} h => by
    unfold mkM at h
    split at h
    · rename_i e; exact ⟨e, h⟩
    · exact h.elim
  refine Ok _ (fun vs H Q E ⟨F, a, t, vs', ts, e, s0, na, ow, r, h⟩ => by rw [e, List.length_cons, r.length, (hlen h).1, hps]) fun cdv A outer s H vs Q E hr ⟨F, a, t, vs', ts, e, s0, na, ow, r, h⟩ => ?_
  obtain ⟨hl, h⟩ := hlen h
  subst e
  obtain ⟨o, ho, nt, _⟩ := ow.there
  have hst : L2.start N (.ref a :: vs') = some (.ref a) :: (vs'.map some ++ List.replicate (N.length - 1 - n) none) := by
    unfold L2.start
    rw [List.map_cons, List.cons_append, List.length_cons, r.length, hl, Nat.sub_sub, Nat.add_comm 1 n]
  have get : ∀ {i : Nat} {v : Option V}, (L2.start N (.ref a :: vs'))[i + 1]? = some v → True := fun _ => trivial
  refine ⟨_, (hb cdv A outer s H E ⟨fun _ => a, fun b => H b = none, []⟩ rfl hr).pss, F, startM N.length n t ts, ⟨s0, fun _ h => h, (fun p hp => by cases hp), ?_, fun {i u} hi => ?_, fun {i k u} hi => ?_, fun {i j k k' u u' b} h1 h2 e1 e2 => ?_, fun h => absurd rfl h⟩, ?_⟩
  · rw [hst]; simp [startM, r.length]
  · rcases startM_get hi with ⟨_, z⟩ | ⟨j, ej, z | ⟨u', z, hj⟩⟩
    · cases z
    · cases z
    · cases z
      subst ej
      obtain ⟨v, hv, rv⟩ := r.get hj
      have hj' : j < vs'.length := (List.getElem?_eq_some_iff.mp hv).1
      refine ⟨v, ?_, rv⟩
      rw [hst, List.getElem?_cons_succ, List.getElem?_append_left (by simpa using hj'), List.getElem?_map, hv]
      rfl
  · rcases startM_get hi with ⟨ei, z⟩ | ⟨j, ej, z | ⟨u', z, hj⟩⟩
    · cases z
      subst ei
      exact ⟨a, by rw [hst]; rfl, na, ow, rfl⟩
    · cases z
    · cases z
  · have z0 : ∀ {i : Nat} {k : Option Nat} {u : T}, (startM N.length n t ts)[i]? = some (.own k u) → i = 0 := fun {i k u} h => by
      rcases startM_get h with ⟨ei, z⟩ | ⟨j, ej, z | ⟨u', z, hj⟩⟩
      · exact ei
      · cases z
      · cases z
    rw [z0 h1, z0 h2]
  · refine endM_post (a := a) (fun b ⟨i, k, u, h1, h2⟩ => ?_) na (by rw [ho]; simp) rfl rfl (fun b h => h) h
    rcases startM_get h1 with ⟨ei, z⟩ | ⟨j, ej, z | ⟨u', z, hj⟩⟩
    · subst ei
      rw [hst] at h2
      cases h2
      rfl
    · cases z
    · cases z
end
section
variable {X : Cx} {au : Au} {W : WX}
theorem tabs_but {T : List (Addr × Str)} {H H' : Hp} {a : Addr} {o : HO} (t : LamX.Tabs T H) (ha : H a = some o) (n1 : ∀ ps, o ≠ .tbl ps) (n2 : ∀ φ, o ≠ .ext φ) (k : ∀ b o, H b = some o → b ≠ a → H' b = some o) : LamX.Tabs T H' := fun p hp => by
  obtain ⟨ps, h1, h2, h3⟩ := t p hp
  refine ⟨ps, k _ _ h1 fun e => n1 ps (by rw [e, ha] at h1; exact Option.some.inj h1), h2, fun pos cv hc => ?_⟩
  obtain ⟨c, e1, e2⟩ := h3 pos cv hc
  exact ⟨c, e1, k _ _ e2 fun e => by rw [e, ha] at e2; exact n2 _ (Option.some.inj e2)⟩
theorem OwnAt.kind {K : PySem.W.Frag} {mg : Str → Option Value} {F H : Hp} {a : Addr} {t : T} (h : OwnAt K mg F H a t) : ∃ o, H a = some o ∧ (∀ ps, o ≠ .tbl ps) ∧ ∀ φ, o ≠ .ext φ := by
  cases h with
  | lst h r => exact ⟨_, h, (fun ps z => by cases z), fun φ z => by cases z⟩
  | dK h r => exact ⟨_, h, (fun ps z => by cases z), fun φ z => by cases z⟩
  | dT h r => exact ⟨_, h, (fun ps z => by cases z), fun φ z => by cases z⟩
  | ins hc h r => exact ⟨_, h, (fun ps z => by cases z), fun φ z => by cases z⟩
/-- a slot's object behind a call that has changed it -/
theorem SRel.called {K : PySem.W.Frag} {mg : Str → Option Value} {ρ : FX.Env} {σ : L2.St} {F H F' H' : Hp} {i : Nat} {k : Option Nat} {t t' : T} {a : Addr} (S : SRel K mg au ρ σ F H) (h : ρ[i]? = some (.own k t)) (e : σ[i]? = some (some (.ref a)))
    (s1 : Same F F') (kp : ∀ b o, H b = some o → b ≠ a → H' b = some o) (nn : ∀ b, H' b = none → H b = none) (s3 : Same F' H') (nw : ∀ b, F' b ≠ none → F b ≠ none ∨ Nh H b) (fa : F' a = none) (ow : OwnAt K mg F' H' a t') (nt : au.tb ≠ [] → ∀ b ps, F' b ≠ some (.tbl ps)) :
    SRel K mg au (ρ.set i (.own k t')) σ F' H' ∧ Xtn au ρ σ F H (ρ.set i (.own k t')) σ F' H' := by
  obtain ⟨a', ea, na, oa, da⟩ := S.ow h
  rw [e] at ea; cases ea
  obtain ⟨o, ho, n1, n2⟩ := oa.kind
  have own : ∀ {j : Nat} {k' : Option Nat} {t2 : T} {b : Addr}, (ρ.set i (.own k t'))[j]? = some (.own k' t2) → σ[j]? = some (some (.ref b)) → ∃ t3, ρ[j]? = some (.own k' t3) := by
    intro j k' t2 b h1 h2
    rcases set_get h1 with ⟨z, z2⟩ | ⟨ne, h1⟩
    · cases z2; exact ⟨t, by rw [z]; exact h⟩
    · exact ⟨t2, h1⟩
  refine ⟨⟨s3, fun b hb => S.nw b (nn b hb), tabs_but S.tabs ho n1 n2 kp, by rw [List.length_set]; exact S.len, fun {j t2} hj => ?_, fun {j k2 t2} hj => ?_, fun h1 h2 e1 e2 => ?_, nt⟩, ⟨s1, fun b u q _ nb => ?_, nn, fun b hb => (nw b hb).elim .inl fun z => .inr (.inl z), fun b ⟨j, k2, t2, h1, h2⟩ => ?_, fun b vs q => by
    by_cases z : b = a
    · rw [z]; exact .inr ⟨_, _, _, h, e⟩
    · cases e1 : H b with
      | none => exact .inl (.inl e1)
      | some o1 => have := kp b o1 e1 z; rw [q] at this; cases this; exact .inl (.inr ⟨vs, e1⟩)⟩⟩
  · rcases set_get hj with ⟨_, z⟩ | ⟨_, hj⟩
    · cases z
    · obtain ⟨v, q, r⟩ := S.fz hj; exact ⟨v, q, r.mono s1⟩
  · rcases set_get hj with ⟨q, z⟩ | ⟨ne, hj⟩
    · cases z; exact ⟨a, by rw [q]; exact e, fa, ow, da⟩
    · obtain ⟨b, eb, nb, ob, db⟩ := S.ow hj
      have hne : b ≠ a := fun z => ne (S.ds hj h (by rw [eb, z]) e)
      refine ⟨b, eb, ?_, ob.mono s1 (fun u q _ => kp b u q hne), db⟩
      obtain ⟨o', ho', _⟩ := ob.there
      cases q : F' b with
      | none => rfl
      | some u =>
        rcases nw b (by rw [q]; simp) with z | z
        · exact absurd nb z
        · exact absurd z ob.nh
  · obtain ⟨_, g1⟩ := own h1 e1
    obtain ⟨_, g2⟩ := own h2 e2
    exact S.ds g1 g2 e1 e2
  · exact kp b u q fun z => nb (by rw [z]; exact ⟨_, _, _, h, e⟩)
  · obtain ⟨_, g⟩ := own h1 h2
    exact .inl ⟨_, _, _, g, h2⟩
def fCallM (g : T → List T → RpM) (fa : FX.Env → R (List Vl)) : FX.Env → R Vl := fun ρ => (fa ρ).bind fun vs ρ1 => match vs with
  | .bor i :: us => match escs us ρ1 with
    | some (ts, ρ2) => match ownT ρ2 i with
      | some (k, t) => match g t ts with
        | .ok t' v => R.of (some v) (ρ2.set i (.own k t'))
        | .err _ => .stuck
        | .stuck => .stuck
      | none => .stuck
    | none => .stuck
  | _ => .stuck
theorem re_callM {x : Str} {f : Addr} {fd : FuncData} {ps : List Str} {k : Nat} {g : T → List T → RpM} {e : Expr} {es : List Expr} {fa : FX.Env → R (List Vl)} {p pos : Pos} (F : FnOk X.prog X.w X.K X.mg X.base (L2.CX X.prog X.w) k f fd ps (spM X.K X.mg g)) (tk : Takes X W) (hr : Room k X.A) (hm : X.mg x = some (.ref f)) (hk : PySem.W.keepIn X.K (.ref f) = true)
    (hb : Binds X.K fd ps []) (ha : RA X au W (e :: es) fa) (hg : Gl X x := by rfl) (hdb : (x == ("__debug__" : Str)) = false := by decide) (he : starEach (e :: es) X.env = (false, eval e X.env) :: starEach es X.env := by rfl) (hpl : (backTo pos (starEach es X.env)).any (·.1) = false := by rfl) :
    RE X au W (.Call (.Name x p) (e :: es) [] pos) (fCallM g fa) := by
  refine ⟨PE.imp (pe_callS (E := fun σ cls d H => W cls d σ H) F hr hg hm hk hb (fun σ => passAt tk σ) ha.pa hdb he hpl) fun σ H Q ⟨F, ρ, S, q⟩ => ⟨F, ρ, S, ?_⟩⟩
  refine Post.bind early_VE q fun xs vs ρ1 F1 H1 e1 S1 X1 V1 h1 => ?_
  split at h1
  · rename_i i us
    cases xs with
    | nil => exact V1.elim
    | cons x xs =>
      obtain ⟨hx, V1⟩ := V1
      have hx : σ[i]? = some (some x) := hx
      split at h1
      · rename_i ts ρ2 e2
        obtain ⟨F2, S2, X2, r⟩ := escs_ok S1 V1 e2
        split at h1
        · rename_i kk t e3
          have e4 := ownT_get e3
          obtain ⟨a, ea, na, oa, da⟩ := S2.ow e4
          rw [hx] at ea; cases ea
          split at h1
          · rename_i t' v e5
            refine ⟨F2, a, t, xs, ts, rfl, S2.sub, na, oa, r, ?_⟩
            rw [e5]
            intro y F' H' s1 kp nn s3 nw fa ow hv
            obtain ⟨F3, C⟩ := clean (K := X.K) (mg := X.mg) S2.nt s1 s3 nw
            obtain ⟨S3, X3⟩ := S2.called e4 hx C.s kp nn C.s3 C.nw (C.le.free fa) (C.own ow) C.nt
            have hq := Post.step early_VE h1 X2
            cases v with
            | fz w => exact hq y F3 H' S3 X3 (C.rep hv)
            | own w =>
              obtain ⟨p, ep, n0, fp, op⟩ := hv
              subst ep
              refine hq (.ref p) F3 H' S3 X3 ⟨p, rfl, C.le.free fp, C.own op, n0, fun ⟨j, k2, t2, h1, h2⟩ => ?_⟩
              have : OwnA ρ2 σ p := by
                rcases set_get h1 with ⟨z, z2⟩ | ⟨ne, h1⟩
                · subst z; exact ⟨_, _, _, e4, h2⟩
                · exact ⟨j, k2, t2, h1, h2⟩
              obtain ⟨j', k3, t3, g1, g2⟩ := this
              obtain ⟨b, eb, _, ob, _⟩ := S2.ow g1
              rw [g2] at eb; cases eb
              obtain ⟨o, ho, _⟩ := ob.there
              rw [n0] at ho; cases ho
          · exact h1.elim
          · exact h1.elim
        · exact h1.elim
      · exact h1.elim
  · exact h1.elim
end
end FX
end

section
set_option Elab.async false
set_option linter.all false
set_option maxRecDepth 100000
set_option maxHeartbeats 4000000
namespace FX
open PySem PySem.Spec PyProof.Rows L2
/-- a def of the text, found in the module -/
def Fn0 (K : PySem.W.Frag) (mg : Str → Option Value) (x : Str) (st : Stmt) (ps : List Str) : Prop := ∃ (f : Addr) (fd : FuncData), Fun K x x st f fd ∧ mg x = some (.ref f) ∧ PySem.W.keepIn K (.ref f) = true ∧ Binds K fd ps []
/-- a def that keeps its promise -/
def Cal (P : Program) (w : World) (K : PySem.W.Frag) (mg : Str → Option Value) (base : Heap) (x : Str) (ps : List Str) (k : Nat) (sp : Sp) : Prop := ∃ (f : Addr) (fd : FuncData), FnOk P w K mg base (L2.CX P w) k f fd ps sp ∧ mg x = some (.ref f) ∧ PySem.W.keepIn K (.ref f) = true ∧ Binds K fd ps []
section
variable {P : Program} {w : World} {K : PySem.W.Frag} {mg : Str → Option Value} {base : Heap} {x : Str} {st : Stmt} {ps N : List Str} {k n : Nat} {G : FX.Env → O}
theorem cal_p (F : Fn0 K mg x st ps) (S : FnScope N ps (defScope st))
    (hb : ∀ (f : Addr) (cdv : Value) (A : Around) (outer : List PySem.Env) (s : Shared) (H : Hp) (E : XK) (au : Au), au.tb = [] → Room k (A.deeper (envOfC x (defScope st) s.heap.objs.size f cdv)) →
      RSs (cxOf (L2.CX P w) P w K mg base N x (defScope st) f cdv A outer s H E) au (fun cls d _ H => E cls d H) (defBody st) G) : Cal P w K mg base x ps (k + 1) (spP K mg (mkP ps.length N.length G)) := by
  obtain ⟨f, fd, F, m, kp, b⟩ := F
  exact ⟨f, fd, fnP F S (hb f), m, kp, b⟩
theorem cal_m (F : Fn0 K mg x st ps) (S : FnScope N ps (defScope st)) (hps : ps.length = n + 1)
    (hb : ∀ (f : Addr) (cdv : Value) (A : Around) (outer : List PySem.Env) (s : Shared) (H : Hp) (E : XK) (au : Au), au.tb = [] → Room k (A.deeper (envOfC x (defScope st) s.heap.objs.size f cdv)) →
      RSs (cxOf (L2.CX P w) P w K mg base N x (defScope st) f cdv A outer s H E) au (fun cls d _ H => E cls d H) (defBody st) G) : Cal P w K mg base x ps (k + 1) (spM K mg (mkM n N.length G)) := by
  obtain ⟨f, fd, F, m, kp, b⟩ := F
  exact ⟨f, fd, fnM (fun sp => F.okX S) hps (hb f), m, kp, b⟩
/-- nothing is promised -/
theorem cal_no (F : Fn0 K mg x st ps) (S : FnScope N ps (defScope st)) : Cal P w K mg base x ps 1 (spP K mg fun _ => .stuck) := by
  obtain ⟨f, fd, F, m, kp, b⟩ := F
  refine ⟨f, fd, F.okX S (fun vs H Q E ⟨_, _, _, _, h⟩ => h.elim) (fun cdv A outer s H vs Q E hr ⟨_, _, _, _, h⟩ => h.elim), m, kp, b⟩
end
section
variable {X : Cx} {au : Au} {W : WX}
theorem re_callC {x : Str} {ps : List Str} {k : Nat} {g : List T → Rp} {e : Expr} {es : List Expr} {fa : FX.Env → R (List Vl)} {p pos : Pos} (C : Cal X.prog X.w X.K X.mg X.base x ps k (spP X.K X.mg g)) (tk : Takes X W) (hr : Room k X.A)
    (ha : RA X au W (e :: es) fa) (hg : Gl X x := by rfl) (hdb : (x == ("__debug__" : Str)) = false := by decide) (he : starEach (e :: es) X.env = (false, eval e X.env) :: starEach es X.env := by rfl) (hpl : (backTo pos (starEach es X.env)).any (·.1) = false := by rfl) :
    RE X au W (.Call (.Name x p) (e :: es) [] pos) (fCall g fa) := by
  obtain ⟨f, fd, F, m, kp, b⟩ := C
  exact re_call F tk hr m kp b ha hg hdb he hpl
theorem re_callMC {x : Str} {ps : List Str} {k : Nat} {g : T → List T → RpM} {e : Expr} {es : List Expr} {fa : FX.Env → R (List Vl)} {p pos : Pos} (C : Cal X.prog X.w X.K X.mg X.base x ps k (spM X.K X.mg g)) (tk : Takes X W) (hr : Room k X.A)
    (ha : RA X au W (e :: es) fa) (hg : Gl X x := by rfl) (hdb : (x == ("__debug__" : Str)) = false := by decide) (he : starEach (e :: es) X.env = (false, eval e X.env) :: starEach es X.env := by rfl) (hpl : (backTo pos (starEach es X.env)).any (·.1) = false := by rfl) :
    RE X au W (.Call (.Name x p) (e :: es) [] pos) (fCallM g fa) := by
  obtain ⟨f, fd, F, m, kp, b⟩ := C
  exact re_callM F tk hr m kp b ha hg hdb he hpl
/-- an own exception's class, its __init__ -/
def Exc1 (P : Program) (w : World) (K : PySem.W.Frag) (mg : Str → Option Value) (base : Heap) (c : Str) : Prop := ∃ (C fI : Addr) (fd : FuncData), ExcC K C fI ∧ FnOk P w K mg base (L2.CX P w) 1 fI fd ["self", "value"] (spXI K) ∧ Binds K fd ["self", "value"] [] ∧ mg c = some (.ref C)
theorem rs_raiseC {c : Str} {e : Expr} {fa : FX.Env → R (List Vl)} {p p2 pos : Pos} (T : Exc1 X.prog X.w X.K X.mg X.base c) (tk : Takes X W) (hr : Room 2 X.A) (ha : RA X au W [e] fa) (hg : Gl X c := by rfl) (hc : X.calm = true := by rfl) (hdb : (c == ("__debug__" : Str)) = false := by decide)
    (he : starEach [e] X.env = (false, eval e X.env) :: starEach [] X.env := by rfl) (hpl : (backTo p2 (starEach [] X.env)).any (·.1) = false := by rfl) : RS X au W (.Raise (some (.Call (.Name c p) [e] [] p2)) none pos) (gRaise c fa) := by
  obtain ⟨C, fI, fd, a, F, b, m⟩ := T
  exact rs_raise a F tk hr b m ha hg hc hdb he hpl
end
/-! #### what the generator's lines lean on -/
section
variable {X : Cx} {k : Nat}
theorem units_of (hr : Room k X.A) : X.A.units + 64 < cLine := hr.units
end
end FX
end

section
set_option Elab.async false
set_option linter.all false
set_option maxRecDepth 100000
set_option maxHeartbeats 4000000
namespace FX
open PySem PySem.Spec PyProof.Rows L2 LamX
/-! ### a lambda without parameters, handed to a def that asks it (after LamX.lam_make2, LamX.pe_lamcall: here what stays is told closer) -/
section
variable {X : Cx} {pins : List (Addr × Obj)} {σ : L2.St} {H : Hp} {s : Shared}
/-- all but the table at P is kept, nothing is lost -/
structure Kpt (P : Addr) (H H1 : Hp) : Prop where
  k : ∀ b o, b ≠ P → H b = some o → H1 b = some o
  n : ∀ b, H1 b = none → H b = none
theorem lam_made {T : List (Addr × Str)} {c P : Addr} {params : Arguments} {body : Expr} {scope : Scope} {pos : Pos} {E : Value → Shared → Prop} {Q : Value → Shared → Prop} (I : Inv X pins σ H s) (TB : TabB X.base X.mg c P) (hcode : X.env.code = .ref c)
    (hm : (P, X.env.qual ++ "<lambda>") ∈ T) (hu : ∀ p ∈ T, p.1 = P → p.2 = X.env.qual ++ "<lambda>") (hT : Tabs T H) (hdef : defaultsOf params X.env = ([], [])) (hfree : ∀ y ∈ scope.names, y.2 = .free → ∃ c, X.env.cells.lookup y.1 = some c)
    (h : ∀ (f c' : Addr) (pm ctv : Value) (H1 : Hp) (s' : Shared), Inv X pins σ H1 s' → Kpt P H H1 → Tabs T H1 → s'.heap.get? f = some (PySem.W.kla_obj "<lambda>" (X.env.qual ++ "<lambda>") params body scope (cloFrom X.env.cells scope.names []) pm c' ctv) →
      H1 f = none → f ∉ frs X.stack → H1 c' = some (CodeO c' (X.env.qual ++ "<lambda>")) → Q (.ref f) s') : wpAny (model X.prog X.w) X.A (eval (.Lambda params body scope pos) X.env) Q E s := by
  obtain ⟨ps, tP, tk3, all⟩ := hT _ hm
  have stP : s.heap.get? P = some { cls := .none, data := .fields ps } := I.hok P _ tP
  have far : ∀ f, s.heap.objs.size ≤ f → f ∉ frs X.stack := fun f hf z => (List.mem_cons.mp (I.stkSub _ z)).elim (fun e => by
    have := I.lt
    rw [← e] at this
    exact absurd (Nat.lt_of_lt_of_le this hf) (Nat.lt_irrefl _)) fun e => I.nofs hf e
  refine PySem.W.kla_eval hdef ?_
  cases among : codeAmong pos ps.toList with
  | some cv =>
    obtain ⟨c', rfl, known⟩ := all pos cv among
    refine PySem.W.kla_makeFunctionHit (mg := X.mg) (c := c) (P := P) (ps := ps) (closure_ok hfree) I.ok.glob (I.mod.glob.keeps I.bk) hcode (TB.code.keeps I.bk) stP tk3 among (TB.bm.keeps I.bk) fun ctv h' tk grow size => ?_
    exact h _ c' ((X.mg "__name__").getD .none) ctv H _ (I.kept fun b o e => Heap.get?_push_of_some _ (grow b o e)) ⟨fun _ _ _ e => e, fun _ e => e⟩ hT (Heap.get?_push_size _ rfl) (I.hok.fresh size) (far _ size) known
  | none =>
    refine PySem.W.kla_makeFunction (mg := X.mg) (c := c) (P := P) (ps := ps) (closure_ok hfree) I.ok.glob (I.mod.glob.keeps I.bk) hcode (TB.code.keeps I.bk) stP tk3 among TB.gP (TB.bm.keeps I.bk) fun c' ctv h' tk grow new less record table => ?_
    obtain ⟨_, oc, vs, t, e2, hoc, hd, hv⟩ := record
    cases e2
    have size : s.heap.objs.size ≤ h'.objs.size := Nat.le_trans new (Nat.le_of_lt less)
    have noC : H c' = none := I.hok.fresh new
    have cP : P ≠ c' := ne_of_none tP noC
    have J := inv_table (t' := tk) (more := #[rawInt pos.line, rawInt pos.col, .ref c']) (h' := h'.push (PySem.W.kla_obj "<lambda>" (X.env.qual ++ "<lambda>") params body scope (cloFrom X.env.cells scope.names []) ((X.mg "__name__").getD .none) c' ctv)) I tP
      (fun b o hb e => Heap.get?_push_of_some _ (grow b o hb e)) (Heap.get?_push_of_some _ table) new ⟨oc, vs, t, Heap.get?_push_of_some _ hoc, hd, hv⟩
    have kept : Kpt P H (upd (upd H P (.tbl (ps ++ #[rawInt pos.line, rawInt pos.col, .ref c']))) c' (CodeO c' (X.env.qual ++ "<lambda>"))) :=
      ⟨fun b o hb e => by rw [upd_ne (ne_of_none e noC), upd_ne hb]; exact e, fun b e => by
        by_cases z : b = c'
        · rw [z]; exact noC
        · rw [upd_ne z] at e
          by_cases z2 : b = P
          · rw [z2, upd_same] at e; cases e
          · rw [upd_ne z2] at e; exact e⟩
    have split : (ps ++ #[rawInt pos.line, rawInt pos.col, .ref c']).toList = ps.toList ++ [rawInt pos.line, rawInt pos.col, .ref c'] := by simp
    refine h h'.objs.size c' ((X.mg "__name__").getD .none) ctv _ _ J kept (fun p hp => ?_) (Heap.get?_push_size _ rfl) ?_ (far _ size) upd_same
    · by_cases hb : p.1 = P
      · rw [hu p hp hb, hb]
        refine ⟨_, by rw [upd_ne cP, upd_same], by rw [split]; exact PySem.TriplesOk_snoc _ _ _ _ tk3, fun p' cv found => ?_⟩
        rw [split] at found
        rcases among_app _ tk3 found with z | z
        · obtain ⟨c0, e1, e2⟩ := all p' cv z
          exact ⟨c0, e1, kept.k _ _ (fun w => by rw [w, tP] at e2; exact codeO_ne ps (Option.some.inj e2).symm) e2⟩
        · exact ⟨c', z, upd_same⟩
      · obtain ⟨ps', a1, a2, a3⟩ := hT p hp
        refine ⟨ps', kept.k _ _ hb a1, a2, fun p' cv found => ?_⟩
        obtain ⟨c0, e1, e2⟩ := a3 p' cv found
        exact ⟨c0, e1, kept.k _ _ (fun w => by rw [w, tP] at e2; exact codeO_ne ps (Option.some.inj e2).symm) e2⟩
    · have n1 : h'.objs.size ≠ c' := Nat.ne_of_gt less
      have n2 : h'.objs.size ≠ P := fun w => by
        have := Heap.lt_size stP
        rw [← w] at this
        exact absurd (Nat.lt_of_lt_of_le this size) (Nat.lt_irrefl _)
      rw [upd_ne n1, upd_ne n2]
      exact I.hok.fresh size
end
def tLamK (T : List (Addr × Str)) (P : Addr) (TT : (XK → Hp → VK → Prop) → Hp → VK → Prop) (t : XK → TE) : TE := fun σ H Q => Tabs T H ∧ ∀ H1, Kpt P H H1 → Tabs T H1 → TT (fun E H' Q' => t E σ H' Q') H1 Q
section
variable {X : Cx}
/-- x(lambda: body) -/
theorem pe_lamK {T : List (Addr × Str)} {TT : (XK → Hp → VK → Prop) → Hp → VK → Prop} {x a : Str} {g c P : Addr} {k : Nat} {pg : Arguments} {bg : List Stmt} {sg : Scope} {dV kV doc pm cdv ct oc : Value} {an od : Option Addr} {osl : Array (Option Value)} {Ng : List Str}
    {params : Arguments} {body : Expr} {scope : Scope} {t : XK → TE} {p lpos pos : Pos} (hg : Gl X x) (hm : X.mg x = some (.ref g)) (hk : PySem.W.keepIn X.K (.ref g) = true)
    (lk : X.K.lookup g = some ⟨oc, od, .func (PySem.W.fnOf x x pg bg sg dV kV doc pm an cdv ct), osl⟩) (hcg : PySem.W.codeIn X.K cdv x = true) (hb : L2.Binds X.K (PySem.W.fnOf x x pg bg sg dV kV doc pm an cdv ct) [a] []) (Sg : FnScope Ng [a] sg) (hNg : Ng[0]? = some a) (hva : Vis sg a)
    (hG : GivesTo X Ng x sg g cdv bg a (X.env.qual ++ "<lambda>") TT) (TB : TabB X.base X.mg c P) (hcode : X.env.code = .ref c) (hmT : (P, X.env.qual ++ "<lambda>") ∈ T) (hu : ∀ p ∈ T, p.1 = P → p.2 = X.env.qual ++ "<lambda>") (hr : Room (k + 2) X.A) (L : LamS X.env.scope scope) (hdef : defaultsOf params X.env = ([], []))
    (hbind : ∀ (q : Str) (cl : List (Str × Addr)) (pm cv ctv : Value), bindArgs (PySem.W.kla_fn "<lambda>" q params body scope cl pm cv ctv) ⟨[], []⟩ = pure [])
    (hbody : ∀ (A : Around) (outer : List PySem.Env) (s : Shared) (H : Hp) (E : XK) (f c' : Addr), Room k (A.deeper (lamEnv X scope s.heap.objs.size f c')) → PE (lamCx X A outer s H E scope f c') body (t E))
    (hdb : (x == ("__debug__" : Str)) = false) (hd : (a == ("__debug__" : Str)) = false) (hcd : (a == ("__classdict__" : Str)) = false) : PE X (.Call (.Name x p) [.Lambda params body scope lpos] [] pos) (tLamK T P TT t) := by
  constructor
  rintro pins s σ H Q I ⟨hT, h⟩
  refine wpAny_Call_Name_kw (ld_glob I hg hm (PySem.W.callWith_K (h₀ := X.base) I.ok.mod.kin hk ?_ (by rfl) (by rfl)) hdb)
  show wpAny _ _ (spliced ((false, eval (.Lambda params body scope lpos) X.env) :: backTo pos (starEach [] X.env))) _ _ s
  refine Calls.spliced_cons (lam_made I TB hcode hmT hu hT hdef (L.has I.ok) fun f c' pm' ctv H1 s' J kept T1 hf hfn hfr hco => Calls.spliced_nil ⟨J.kIn, ?_⟩)
  have run : codeAny (model X.prog X.w) X.A (.call (.ref g) ⟨[.ref f], []⟩) (CR C8.CX0 X.stack X.prog X.w H1 s' Q C8.E0) s' := by
    refine run_ofS (N := Ng) (ps := [a]) (us := [.ref f]) (vs := [.ref f]) lk hcg Sg hr J.env0 (hb s' [.ref f] J.kIn rfl) (.cons rfl .nil) rfl fun hr' => ?_
    have act := hG f c' s' H1 Q (fun E H' Q' => t E σ H' Q') (fun W pn xe E p1 p2 tk hW => pe_act (i := 0) J L hf hfn hfr (hbind _ _ _ _ _) tk hW hr' (fun A outer s H hr2 => hbody A outer s H E f c' hr2) hNg hva hd hcd) hco (h H1 kept T1)
    exact act.elim fun t' z => ⟨t', z.1.nox, z.2⟩
  refine wpAny_call (codeAny_mono run fun r s2 hq => ?_)
  match r, hq with
  | .error _, hq => exact (show False from hq).elim
  | .ok (.ret u), hq => exact J.after hq
  | .ok .next, hq => exact False.elim hq
  | .ok .brk, hq => exact False.elim hq
  | .ok .cont, hq => exact False.elim hq
/-- told: try: a() / except C as e: return (word, e.value); return (none's word, None) -/
def TRef (C : Addr) (w0 w1 : Str) : (XK → Hp → VK → Prop) → Hp → VK → Prop := fun tl H Q =>
  tl (fun cls d H' => cls = .ref C ∧ ∃ (dd : Addr) (fs : List (Str × V)) (v : V), d = some dd ∧ H' dd = some (.xd fs) ∧ fs.lookup ("value" : Str) = some v ∧ ∀ p, H' p = none → Q (.ref p) (upd H' p (.tup [.str w1, v]))) H fun _ H' => ([V.str w0, V.non] : List V).length ≤ sizeLine ∧ ∀ p, H' p = none → Q (.ref p) (upd H' p (.tup [.str w0, .non]))
theorem ref_gives {x a cn n w0 w1 q : Str} {sg : Scope} {g C : Addr} {cdg : Value} {j j' j2 j3 k1 k2 : Nat} {p1 p2 p3 p4 p5 p6 p7 p8 p9 p10 p11 p12 p13 p14 p15 p16 : Pos} (hN : ([a, n] : List Str).Nodup) (hge : sg.names.lookup cn = some .globalImplicit) (hme : X.mg cn = some (.ref C)) (hde : (cn == ("__debug__" : Str)) = false)
    (hln : sg.names.lookup n = some .local) (hdn : (n == ("__debug__" : Str)) = false) (hcn : (n == ("__classdict__" : Str)) = false) (XF : XfC X.K C) (hno : PySem.W.findIn X.K (.ref C) "value" = some none) (hex : PySem.W.exmOne X.K (.ref C) (.ref C) = some true) :
    GivesTo X [a, n] x sg g cdg [.Try [.Expr (.Call (.Name a p1) [] [] p2) p3] [.ExceptHandler (some (.Name cn p4)) (some n) [.Return (some (.Tuple [.Constant (.str w1) j p5, .Attribute (.Name n p6) "value" p7] k1 p8)) p9] p10] [] [] p11,
      .Return (some (.Tuple [.Constant (.str w0) j2 p12, .Constant .none j3 p13] k2 p14)) p15] a q (TRef C w0 w1) := by
  intro f c' s H Q tl act hc h
  have gl : Gl (cxOf C8.CX0 X.prog X.w X.K X.mg X.base [a, n] x sg g cdg X.A X.stack s H C8.E0).nox cn := hge
  refine ⟨_, pss_cons (ps_try_as (i := 1) (X := (cxOf C8.CX0 X.prog X.w X.K X.mg X.base [a, n] x sg g cdg X.A X.stack s H C8.E0).nox) (c := .ref C)
      (tb := fun W D σ H => ∃ Ech : XK, (∀ cls d σ' H', σ'.length = 2 → Ech cls d H' → W cls d σ' H') ∧ σ[0]? = some (some (.ref f)) ∧ H c' = some (CodeO c' q) ∧ tl Ech H (fun _ H' => D.nx σ H'))
      rfl rfl hN rfl hln ⟨gl, hde, .inl hme⟩ LamX.takes0 (fun W pn xe tk _ => ?_) (fun a' oe cls d pn hz hf => pss_one (ps_ret (pe_tup (pa_cons pe_str (pa_cons (pe_xf XF hno hz hf (pe_var (i := 1) rfl (.inl hln) hdn hcn)) pa_nil))))))
    (pss_one (ps_ret (pe_tup (pa_cons pe_str (pa_cons pe_non pa_nil))))), ?_⟩
  · refine ⟨fun pins s' σ H' D I h' => ?_⟩
    obtain ⟨Ech, hW, h1, h2, h3⟩ := h'
    have tk2 : Takes ((cxOf C8.CX0 X.prog X.w X.K X.mg X.base [a, n] x sg g cdg X.A X.stack s H C8.E0).tr pn xe) fun cls d σ' H' => σ'.length = 2 → W cls d σ' H' := fun u s'' ⟨b1, b2, b3, b4, b5, b6, b7, b8, b9, J, b10, b11, b12, b13, b14, b15, w⟩ =>
      tk u s'' ⟨b1, b2, b3, b4, b5, b6, b7, b8, b9, J, b10, b11, b12, b13, b14, b15, w J.len⟩
    exact (pss_one (ps_expr (pos := p3) (act _ pn xe Ech p1 p2 tk2 fun cls d σ' H' e l => hW cls d σ' H' l e))).run pins s' σ H' D I ⟨h1, h2, h3⟩
  · refine ⟨_, fun cls d σ' H' hl2 hE => ?_, rfl, hc, h⟩
    obtain ⟨ec, dd, fs, v, ed, hd, hl, k⟩ := hE
    subst ec
    refine ⟨true, hex, fun _ a' _ => ?_, fun z => by cases z⟩
    refine ⟨.ref a', by rw [List.getElem?_set_self (by omega)], rfl, rfl, dd, fs, v, ed, hd, hl, ?_⟩
    exact ⟨by show 2 ≤ sizeLine; decide, fun p hp => k p hp⟩
end
/-! ### in the functional layer -/
def fRef (cn w0 w1 : Str) (fb : FX.Env → R Vl) : FX.Env → R Vl := fun ρ => match fb ρ with
  | .ok _ ρ1 => .ok (.fz (.tup [.str w0, .non])) ρ1
  | .err e ρ1 => match e.fs with
    | [(f, t)] => if e.cls = cn ∧ f = ("value" : Str) then .ok (.fz (.tup [.str w1, t])) ρ1 else .stuck
    | _ => .stuck
  | .stuck => .stuck
/-- the def that asks, found in the module; the exception's class that it catches -/
def RefD (K : PySem.W.Frag) (mg : Str → Option Value) (x : Str) (st : Stmt) (a cn : Str) : Prop :=
  ∃ (g C : Addr) (dV kV doc pm cdv ct oc : Value) (an od : Option Addr) (osl : Array (Option Value)), mg x = some (.ref g) ∧ PySem.W.keepIn K (.ref g) = true ∧ K.lookup g = some ⟨oc, od, .func (PySem.W.fnOf x x (defArgs st) (defBody st) (defScope st) dV kV doc pm an cdv ct), osl⟩ ∧ PySem.W.codeIn K cdv x = true ∧
    L2.Binds K (PySem.W.fnOf x x (defArgs st) (defBody st) (defScope st) dV kV doc pm an cdv ct) [a] [] ∧ mg cn = some (.ref C) ∧ XfC K C ∧ PySem.W.findIn K (.ref C) "value" = some none ∧ PySem.W.exmOne K (.ref C) (.ref C) = some true
section
variable {X : Cx} {au : Au} {W : WX}
theorem SRel.kpt {K : PySem.W.Frag} {mg : Str → Option Value} {ρ : FX.Env} {σ : L2.St} {F H H1 : Hp} {P : Addr} {ps : Array Value} (S : SRel K mg au ρ σ F H) (k : Kpt P H H1) (hP : H P = some (.tbl ps)) (ht : au.tb ≠ []) (t : Tabs au.tb H1) {q0 : Str} (hq : (P, q0) ∈ au.tb) : SRel K mg au ρ σ F H1 ∧ Xtn au ρ σ F H ρ σ F H1 := by
  have np : ∀ b o, H b = some o → (∀ ps, o ≠ .tbl ps) → H1 b = some o := fun b o h n => k.k b o (fun z => by rw [z, hP] at h; exact n ps (Option.some.inj h).symm) h
  refine ⟨⟨fun b o h => np b o (S.sub _ _ h) fun ps z => S.nt ht b ps (by rw [h, z]), fun b h => S.nw b (k.n b h), t, S.len, S.fz, fun h => ?_, S.ds, S.nt⟩, ⟨.refl _, fun b o h n _ => np b o h (n ht), k.n, fun b h => .inl h, fun b h => .inl h, fun b vs h => by
    by_cases z : b = P
    · obtain ⟨ps', e1, _⟩ := t _ hq
      rw [z] at h; rw [show H1 P = some (.tbl ps') from e1] at h; cases h
    · cases e1 : H b with
      | none => exact .inl (.inl e1)
      | some o1 => have := k.k b o1 z e1; rw [h] at this; cases this; exact .inl (.inr ⟨vs, e1⟩)⟩⟩
  obtain ⟨a, e, n, o, i⟩ := S.ow h
  exact ⟨a, e, n, o.mono (.refl _) (fun u hu nu => np a u hu nu), i⟩
theorem re_ref {x a n cn w0 w1 : Str} {st : Stmt} {c P : Addr} {k j j2 j3 k1 k2 : Nat} {params : Arguments} {body : Expr} {scope : Scope} {fb : FX.Env → R Vl} {p lpos pos p1 p2 p3 p4 p5 p6 p7 p8 p9 p10 p11 p12 p13 p14 p15 : Pos} (D : RefD X.K X.mg x st a cn) (Sg : FnScope [a, n] [a] (defScope st))
    (hb : defBody st = [.Try [.Expr (.Call (.Name a p1) [] [] p2) p3] [.ExceptHandler (some (.Name cn p4)) (some n) [.Return (some (.Tuple [.Constant (.str w1) j p5, .Attribute (.Name n p6) "value" p7] k1 p8)) p9] p10] [] [] p11,
      .Return (some (.Tuple [.Constant (.str w0) j2 p12, .Constant .none j3 p13] k2 p14)) p15])
    (hge : (defScope st).names.lookup cn = some .globalImplicit) (hln : (defScope st).names.lookup n = some .local) (hla : (defScope st).names.lookup a = some .local) (TB : TabB X.base X.mg c P) (hcode : X.env.code = .ref c) (hmT : (P, X.env.qual ++ "<lambda>") ∈ au.tb) (hu : ∀ p ∈ au.tb, p.1 = P → p.2 = X.env.qual ++ "<lambda>")
    (hr : Room (k + 2) X.A) (L : LamS X.env.scope scope) (hbody : ∀ (A : Around) (outer : List PySem.Env) (s : Shared) (H : Hp) (E : XK) (f c' : Addr), Room k (A.deeper (lamEnv X scope s.heap.objs.size f c')) → RE (lamCx X A outer s H E scope f c') au (fun cls d _ H => E cls d H) body fb)
    (hg : Gl X x := by rfl) (hdef : defaultsOf params X.env = ([], []) := by rfl) (hbind : ∀ (q : Str) (cl : List (Str × Addr)) (pm cv ctv : Value), bindArgs (PySem.W.kla_fn "<lambda>" q params body scope cl pm cv ctv) ⟨[], []⟩ = pure [] := by intros; rfl)
    (hdx : (x == ("__debug__" : Str)) = false := by decide) (hda : (a == ("__debug__" : Str)) = false := by decide) (hca : (a == ("__classdict__" : Str)) = false := by decide) (hdn : (n == ("__debug__" : Str)) = false := by decide) (hcn : (n == ("__classdict__" : Str)) = false := by decide) (hde : (cn == ("__debug__" : Str)) = false := by decide) :
    RE X au W (.Call (.Name x p) [.Lambda params body scope lpos] [] pos) (fRef cn w0 w1 fb) := by
  obtain ⟨g, C, dV, kV, doc, pm, cdv, ct, oc, an, od, osl, m, kp, lk, hc, bi, mC, XF, hno, hex⟩ := D
  have hG : GivesTo X [a, n] x (defScope st) g cdv (defBody st) a (X.env.qual ++ "<lambda>") (TRef C w0 w1) := by
    rw [hb]
    exact ref_gives (p16 := p15) (j' := j) Sg.nd hge mC hde hln hdn hcn XF hno hex
  refine ⟨PE.imp (pe_lamK (t := fun E => tF X au (fun cls d _ H => E cls d H) (VE X) fb) hg m kp lk hc bi Sg rfl (.inl hla) hG TB hcode hmT hu hr L hdef hbind (fun A outer s H E f c' hr => (hbody A outer s H E f c' hr).pe) hdx hda hca) fun σ H Q ⟨F, ρ, S, q⟩ => ⟨S.tabs, fun H1 kept T1 => ?_⟩⟩
  have ht : au.tb ≠ [] := fun z => by rw [z] at hmT; cases hmT
  obtain ⟨ps, hP, _⟩ := S.tabs _ hmT
  obtain ⟨S1, X1⟩ := S.kpt kept hP ht T1 hmT
  refine ⟨F, ρ, S1, ?_⟩
  have q : Post X au W (VE X) ρ σ F H1 (fRef cn w0 w1 fb ρ) Q := q.step early_VE X1
  unfold fRef at q
  cases e : fb ρ with
  | stuck => rw [e] at q; exact q.elim
  | ok v ρ1 =>
    rw [e] at q
    refine fun y F2 H2 S2 X2 V2 => ⟨by show 2 ≤ sizeLine; decide, fun p hp => ?_⟩
    have sF : Same F2 (upd F2 p (.tup [.str w0, .non])) := same_upd (S2.sub.free hp)
    have nw : ∀ b, upd F2 p (.tup [.str w0, .non]) b ≠ none → F2 b ≠ none ∨ Nh H2 b := fun b hb => by
      by_cases z : b = p
      · rw [z]; exact .inr (.inl hp)
      · rw [upd_ne z] at hb; exact .inl hb
    exact q (.ref p) (upd F2 p (.tup [.str w0, .non])) (upd H2 p (.tup [.str w0, .non])) (S2.new sF (same_upd hp) (same_upd2 (S2.sub.trans (same_upd hp)) upd_same) nw (nt_upd S2.nt fun _ z => by cases z)) (X2.trans (Xt.new sF (same_upd hp) nw)) (.tup upd_same (.cons (.str _) (.cons .non .nil)))
  | err e1 ρ1 =>
    rw [e] at q
    dsimp only at q
    split at q
    · rename_i f t efs
      split at q
      · rename_i hh
        refine fun cls d F2 H2 S2 X2 E2 => ?_
        obtain ⟨C', dx, fs, m1, c1, d1, h1, r1⟩ := E2
        rw [hh.1] at m1
        have m1 := mC.symm.trans m1
        cases m1
        rw [efs] at r1
        cases r1 with
        | @cons _ v _ _ _ rv r1 =>
          cases r1
          refine ⟨c1, dx, _, v, d1, h1, by rw [hh.2]; simp [List.lookup], fun p hp => ?_⟩
          have sF : Same F2 (upd F2 p (.tup [.str w1, v])) := same_upd (S2.sub.free hp)
          have nw : ∀ b, upd F2 p (.tup [.str w1, v]) b ≠ none → F2 b ≠ none ∨ Nh H2 b := fun b hb => by
            by_cases z : b = p
            · rw [z]; exact .inr (.inl hp)
            · rw [upd_ne z] at hb; exact .inl hb
          exact q (.ref p) (upd F2 p (.tup [.str w1, v])) (upd H2 p (.tup [.str w1, v])) (S2.new sF (same_upd hp) (same_upd2 (S2.sub.trans (same_upd hp)) upd_same) nw (nt_upd S2.nt fun _ z => by cases z)) (X2.trans (Xt.new sF (same_upd hp) nw)) (.tup upd_same (.cons (.str _) (.cons (rv.mono sF) .nil)))
      · exact q.elim
    · exact q.elim
end
end FX
end

section
set_option Elab.async false
set_option linter.all false
set_option maxRecDepth 100000
set_option maxHeartbeats 4000000
namespace FX
open PySem PySem.Spec PyProof.Rows L2
section
variable {X : Cx} {au : Au} {W : WX}
/-! ### a local that holds a def -/
def isFn (i : Nat) (x : Str) (ρ : FX.Env) : Bool := match ρ[i]? with
  | some (.fz (.fn y)) => decide (y = x)
  | _ => false
def fAlt (p : FX.Env → Bool) (f g : FX.Env → R Vl) : FX.Env → R Vl := fun ρ => if p ρ = true then f ρ else g ρ
theorem re_alt {p : FX.Env → Bool} {e : Expr} {f g : FX.Env → R Vl} (hf : RE X au W e fun ρ => if p ρ = true then f ρ else .stuck) (hg : RE X au W e g) : RE X au W e (fAlt p f g) := by
  refine ⟨⟨fun pins s σ H Q I ⟨F, ρ, S, h⟩ => ?_⟩⟩
  unfold fAlt at h
  by_cases hp : p ρ = true
  · rw [if_pos hp] at h
    exact hf.pe.run pins s σ H Q I ⟨F, ρ, S, by show Post X au W (VE X) ρ σ F H (if p ρ = true then f ρ else .stuck) Q; rw [if_pos hp]; exact h⟩
  · rw [if_neg hp] at h
    exact hg.pe.run pins s σ H Q I ⟨F, ρ, S, h⟩
theorem re_callL {E : XK} (i : Nat) {x y : Str} {ps : List Str} {k : Nat} {g : List T → Rp} {e : Expr} {es : List Expr} {fa : FX.Env → R (List Vl)} {p pos : Pos} (C : FX.Cal X.prog X.w X.K X.mg X.base x ps k (spP X.K X.mg g)) (tk : Takes X (fun cls d _ H => E cls d H)) (hr : Room k X.A)
    (ha : RA X au (fun cls d _ H => E cls d H) (e :: es) fa) (hN : X.N[i]? = some y := by rfl) (hv : Vis X.env.scope y := by first | exact Or.inl rfl | exact Or.inr (Or.inl rfl) | exact Or.inr (Or.inr rfl)) (hdb : (y == ("__debug__" : Str)) = false := by decide) (hcd : (y == ("__classdict__" : Str)) = false := by decide)
    (he : starEach (e :: es) X.env = (false, eval e X.env) :: starEach es X.env := by rfl) (hpl : (backTo pos (starEach es X.env)).any (·.1) = false := by rfl) :
    RE X au (fun cls d _ H => E cls d H) (.Call (.Name y p) (e :: es) [] pos) (fun ρ => if isFn i x ρ = true then fCall g fa ρ else .stuck) := by
  obtain ⟨f, fd, F, m, kp, b⟩ := C
  refine ⟨PE.imp (pe_callL (i := i) (dvs := []) (E := E) F hr hN hv kp b .nil (passes_call tk fun _ _ _ _ h => h) ha.pa hdb hcd he hpl) fun σ H Q ⟨F', ρ, S, q⟩ => ?_⟩
  dsimp only at q
  split at q
  · rename_i hf
    have hs : σ[i]? = some (some (.ref f)) := by
      unfold isFn at hf
      split at hf
      · rename_i y' e1
        have ey : y' = x := of_decide_eq_true hf
        subst ey
        obtain ⟨v, ev, rv⟩ := S.fz e1
        cases rv with
        | fn hm => rw [m] at hm; cases hm; exact ev
      · cases hf
    refine ⟨hs, F', ρ, S, esc_post early_VE q fun xs ts ρ1 F1 H1 S1 r q1 => ?_⟩
    rw [List.append_nil]
    exact ⟨F1, ts, S1.sub, r, rp_post S1 q1⟩
  · exact q.elim
end
/-! ### the law -/
def spLaw (K : PySem.W.Frag) (cs : List (Addr × Addr)) : Sp := fun vs H Q _ => ∃ (a : Addr) (ns : List Int), vs = [.ref a] ∧ SqL K H a (ns.map V.int) ∧ ns.length ≤ 63 ∧ (∀ z ∈ ns, Builtin.Int.intBits z ≤ 1048576) ∧ (∀ p ∈ cs, H p.2 = some (.tbl #[])) ∧ ∀ H', Q (.bl true) H'
def startL (N : Nat) (ns : List Int) : FX.Env := .fz (.seq (ns.map .int)) :: List.replicate (N - 1) .un
def tbsOf (cs : List (Addr × Addr)) : List (Addr × Str) := cs.map fun p => (p.2, (("law" : Str) ++ ".<locals>.") ++ "<lambda>")
theorem reps_ints {K : PySem.W.Frag} {mg : Str → Option Value} {F : Hp} : ∀ ns : List Int, Reps K mg F (ns.map V.int) (ns.map T.int)
  | [] => .nil
  | n :: ns => .cons (.int n) (reps_ints ns)
theorem law_ok {P : Program} {w : World} {K : PySem.W.Frag} {mg : Str → Option Value} {base : Heap} {k : Nat} {f : Addr} {st : Stmt} {dV kV doc pm cdv ct oc : Value} {an od : Option Addr} {osl : Array (Option Value)} {N : List Str} {cs : List (Addr × Addr)} {G : FX.Env → O}
    (lk : K.lookup f = some ⟨oc, od, .func (PySem.W.fnOf "law" "law" (defArgs st) (defBody st) (defScope st) dV kV doc pm an cdv ct), osl⟩) (hcd : PySem.W.codeIn K cdv "law" = true) (S : FnScope N ["script"] (defScope st))
    (hb : ∀ (A : Around) (outer : List PySem.Env) (s : Shared) (H : Hp) (E : XK) (au : Au), au.tb = tbsOf cs → Room k (A.deeper (envOfC "law" (defScope st) s.heap.objs.size f cdv)) → RSs (cxOf (L2.CX P w) P w K mg base N "law" (defScope st) f cdv A outer s H E) au (fun cls d _ H => E cls d H) (defBody st) G)
    (hG : ∀ ns : List Int, ns.length ≤ 63 → (∀ z ∈ ns, Builtin.Int.intBits z ≤ 1048576) → ∃ ρ, G (startL N.length ns) = .rt (.fz (.bl true)) ρ) :
    FnOk P w K mg base (L2.CX P w) (k + 1) f (PySem.W.fnOf "law" "law" (defArgs st) (defBody st) (defScope st) dV kV doc pm an cdv ct) ["script"] (spLaw K cs) := by
  refine fn_of lk hcd S (fun vs H Q E ⟨a, ns, e, _⟩ => by rw [e]; rfl) fun A outer s H vs Q E hr ⟨a, ns, e, hs, hl, hbits, ht, hQ⟩ => ?_
  subst e
  refine ⟨_, (hb A outer s H E ⟨fun _ => 0, fun b => H b = none, tbsOf cs⟩ rfl hr).pss, cl H, startL N.length ns, ⟨fun b o h => (cl_of h).1, fun _ h => h, fun p hp => ?_, ?_, fun {i t} hi => ?_, fun {i k t} hi => ?_, fun {i j k k' t t' b} h1 h2 e1 e2 => ?_, fun _ b ps h => (cl_of h).2 ps rfl⟩, ?_⟩
  · obtain ⟨q, hq, e⟩ := List.mem_map.mp hp
    subst e
    exact LamX.TabS.nil (ht q hq)
  · simp [startL, L2.start]
  · have : i = 0 ∧ t = .seq (ns.map .int) := by
      cases i with
      | zero => cases hi; exact ⟨rfl, rfl⟩
      | succ i =>
        have hi : (List.replicate (N.length - 1) Sl.un)[i]? = some (.fz t) := hi
        rw [List.getElem?_replicate] at hi
        split at hi <;> cases hi
    obtain ⟨e1, e2⟩ := this
    subst e1 e2
    exact ⟨.ref a, rfl, .seq (sqL_cl hs) (reps_ints ns)⟩
  · cases i with
    | zero => cases hi
    | succ i =>
      have hi : (List.replicate (N.length - 1) Sl.un)[i]? = some (.own k t) := hi
      rw [List.getElem?_replicate] at hi
      split at hi <;> cases hi
  · cases i with
    | zero => cases h1
    | succ i =>
      have h1 : (List.replicate (N.length - 1) Sl.un)[i]? = some (.own k t) := h1
      rw [List.getElem?_replicate] at h1
      split at h1 <;> cases h1
  · obtain ⟨ρ, e⟩ := hG ns hl hbits
    rw [e]
    intro x σ' F' H' S' X' V'
    cases (show Rep K mg F' x (.bl true) from V')
    exact hQ H'
theorem cx_none {P : Program} {w : World} {H : Hp} {s : Shared} {e : Value} {s' : Shared} (h : L2.CX P w [] H s (fun _ _ _ => False) e s') : False := by
  obtain ⟨_, _, _, _, _, _, _, _, _, _, _, _, z⟩ := h
  exact z
end FX
end

section
set_option Elab.async false
set_option linter.all false
set_option maxRecDepth 100000
set_option maxHeartbeats 4000000
namespace FX
open PySem PySem.Spec PyProof.Rows L2
section
variable {P : Program} {w : World} {K : PySem.W.Frag} {mg : Str → Option Value} {base : Heap}
/-- an own exception class with PartError's __init__(self, value=None) -/
theorem exc1_of {c q : Str} {st : Stmt} {C fI Td : Addr} {kV doc pm cdv ct oc oc2 : Value} {an od od2 : Option Addr} {osl osl2 : Array (Option Value)} {n2 : Nat} {p1 p2 p3 p4 : Pos}
    (lk : K.lookup fI = some ⟨oc, od, .func (PySem.W.fnOf "__init__" q (defArgs st) (defBody st) (defScope st) (.ref Td) kV doc pm an cdv ct), osl⟩) (hcd : PySem.W.codeIn K cdv q = true) (kp : PySem.W.keepIn K (.ref fI) = true) (lT : K.lookup Td = some ⟨oc2, od2, .seq #[.none] n2, osl2⟩)
    (S : FnScope ["self", "value"] ["self", "value"] (defScope st)) (hb : defBody st = [.Assign [.Attribute (.Name "self" p1) "value" p2] (.Name "value" p3) p4])
    (hbind : ∀ (T : Addr) (kV doc pm : Value) (an : Option Addr) (cdv ct : Value) (us its : List Value), us.length = 2 → its.length = 1 → ∃ k, bindArgs (PySem.W.fnOf "__init__" q (defArgs st) (defBody st) (defScope st) (.ref T) kV doc pm an cdv ct) ⟨us, []⟩ = seqItems? (.ref T) >>= k ∧ k (some its.toArray) = pure ((["self", "value"] : List Str).zip (us ++ its.drop 1)))
    (hs : (defScope st).names.lookup ("self" : Str) = some .local) (hv : (defScope st).names.lookup ("value" : Str) = some .local)
    (ox : OexC K C) (nv : PySem.W.findIn K (.ref C) "value" = some none) (init : PySem.W.findIn K (.ref C) "__init__" = some (some (.ref fI))) (tyI : PySem.W.typeIn K (.ref fI) = some (.type "function")) (mC : mg c = some (.ref C)) : Exc1 P w K mg base c := by
  have F : FunD K "__init__" q (defArgs st) (defBody st) (defScope st) [.non] [] fI (PySem.W.fnOf "__init__" q (defArgs st) (defBody st) (defScope st) (.ref Td) kV doc pm an cdv ct) :=
    ⟨⟨oc, od, .ref Td, kV, doc, pm, an, cdv, ct, osl, rfl, lk, hcd, .inr ⟨by simp, Td, _, [.none], n2, rfl, lT, rfl, .cons rfl .nil⟩, .inl rfl⟩, kp⟩
  obtain ⟨ds, vd, B⟩ := F.binds1 (ps := ["self", "value"]) 2 1 (by simp) rfl hbind
  cases vd
  refine ⟨C, fI, _, ⟨ox, nv, init, tyI⟩, ?_, B, mC⟩
  refine F.ok S (fun vs H Q E ⟨a, C, v, e, _⟩ => by rw [e]; rfl) fun cdv A outer s H vs Q E hr ⟨a, C', v, e, ox', nv', ha, k⟩ => ?_
  subst e
  rw [hb]
  refine ⟨_, pss_one (ps_ost (pe_var (i := 0) rfl (.inl hs)) (pe_var (i := 1) rfl (.inl hv)) rfl), ?_⟩
  exact ⟨v, rfl, .ref a, rfl, a, C', rfl, ox', nv', .inl ⟨ha, k⟩⟩
end
end FX
end

section
set_option Elab.async false
set_option linter.all false
set_option maxRecDepth 100000
set_option maxHeartbeats 4000000
namespace FX
open PySem PySem.Spec PyProof.Rows L2
/-- what the top has written of a def -/
def Fct (K : PySem.W.Frag) (x : Str) (st : Stmt) : Prop := ∃ (f : Addr) (oc : Value) (od : Option Addr) (kV doc pm : Value) (an : Option Addr) (cdv ct : Value) (osl : Array (Option Value)), PySem.W.nsIn K mainGlobals x = some (some (.ref f)) ∧
  K.lookup f = some ⟨oc, od, .func (PySem.W.fnOf x x (defArgs st) (defBody st) (defScope st) .none kV doc pm an cdv ct), osl⟩ ∧ PySem.W.codeIn K cdv x = true ∧ PySem.W.keepIn K (.ref f) = true
theorem Fct.mk {K : PySem.W.Frag} {x : Str} {st : Stmt} {f : Addr} {oc : Value} {od : Option Addr} {kV doc pm : Value} {an : Option Addr} {cdv ct : Value} {osl : Array (Option Value)} (a : PySem.W.nsIn K mainGlobals x = some (some (.ref f)))
    (l : K.lookup f = some ⟨oc, od, .func (PySem.W.fnOf x x (defArgs st) (defBody st) (defScope st) .none kV doc pm an cdv ct), osl⟩) (c : PySem.W.codeIn K cdv x = true) (k : PySem.W.keepIn K (.ref f) = true) : Fct K x st := ⟨f, oc, od, kV, doc, pm, an, cdv, ct, osl, a, l, c, k⟩
theorem int_mk {K : PySem.W.Frag} {x : Str} {i : Int} {tk : Tok} (a : PySem.W.nsIn K mainGlobals x = some (some (.int i tk))) : ∃ tk, PySem.W.nsIn K mainGlobals x = some (some (.int i tk)) := ⟨tk, a⟩
theorem oex_mk {K : PySem.W.Frag} {C : Addr} {nm q N bs bm sn sub ab col dd k0 k1 k2 k3 k5} (a : K.lookup C = some (excClassObj nm q C N bs bm true sn sub ab col dd k0 k1 k2 k3 k5 "ValueError.__new__")) (b : PySem.HandSPX.refsVE bm = true)
    (c : PySem.W.findIn K (.ref C) "__setattr__" = some (some (.builtin "object.__setattr__"))) (d : PySem.W.subIn K (.ref C) (.type "BaseException") = some true) (e : PySem.W.typeIn K (.ref C) = some (.type "type")) (f : PySem.W.keepIn K (.ref C) = true) : OexC K C :=
  ⟨⟨nm, q, N, bs, bm, sn, sub, ab, col, dd, k0, k1, k2, k3, k5, a, b⟩, c, d, e, f⟩
theorem exm_mk {K : PySem.W.Frag} {C : Addr} (a : PySem.W.subIn K (.ref C) (.type "BaseException") = some true) (t : PySem.W.typeIn K (.ref C) = some (.type "type")) {o1 : Value} {o2 : Option Addr} {cd : ClassData} {o3 : Array (Option Value)} (l : K.lookup C = some ⟨o1, o2, .cls cd, o3⟩) (s : PySem.W.subIn K (.ref C) (.ref C) = some true) : PySem.W.exmOne K (.ref C) (.ref C) = some true := by
  unfold PySem.W.exmOne PySem.W.kitCls
  have c : PySem.W.clsIn K C = some cd := by unfold PySem.W.clsIn; rw [l]
  rw [a]
  simp [c, t, s]
theorem no_of {K : Params → PySem.W.Frag} {as : List Addr} {e : ∀ P, as = (K P).map (·.1)} {ts : List Addr} {w : World} {h : Heap} (Y : (PySem.W.kmHook K as e ts).says w h) {P : Addr} (n : as.contains P = false) : (K w.params).lookup P = none := by
  have n : ((K w.params).map (·.1)).contains P = false := by rw [← e w.params]; exact n
  generalize K w.params = l at n
  induction l with
  | nil => rfl
  | cons p l ih =>
    obtain ⟨a, o⟩ := p
    simp only [List.map_cons, List.contains_cons, Bool.or_eq_false_iff] at n
    show List.lookup P ((a, o) :: l) = none
    rw [List.lookup_cons, n.1]
    exact ih n.2
theorem chd_mk {K : PySem.W.Frag} {c P : Addr} {d : Option Addr} {vs : Array Value} {sl : Array (Option Value)} (l : K.lookup c = some ⟨.type "code", d, .fields vs, sl⟩) (v : (vs[11]? : Option Value) = some (.ref P))
    (e : ((match vs.getD 18 .none with | .str _ _ => true | _ => false) && (match vs.getD 7 .none with | .int _ _ => true | _ => false) && (match vs.getD 9 .none with | .bool _ => true | _ => false) && (match vs.getD 10 .none with | .int _ _ => true | _ => false) && c != P) = true) : PySem.W.codeHdIn K c P = true := by
  unfold PySem.W.codeHdIn
  rw [l]
  simp only [v]
  simp only [Bool.and_eq_true] at e ⊢
  obtain ⟨⟨⟨⟨e1, e2⟩, e3⟩, e4⟩, e5⟩ := e
  exact ⟨⟨⟨⟨⟨by simp, e1⟩, e2⟩, e3⟩, e4⟩, e5⟩
theorem Fct.fn0 {K : PySem.W.Frag} {h : Heap} {mg : Str → Option Value} {x : Str} {st : Stmt} {ps : List Str} (D : Fct K x st) (X : K.In h) (G : h.Ns mainGlobals mg)
    (hb : ∀ (kV doc pm : Value) (an : Option Addr) (cdv ct : Value) (us : List Value), us.length = ps.length → bindArgs (PySem.W.fnOf x x (defArgs st) (defBody st) (defScope st) .none kV doc pm an cdv ct) ⟨us, []⟩ = pure (ps.zip us)) : Fn0 K mg x st ps := by
  obtain ⟨f, oc, od, kV, doc, pm, an, cdv, ct, osl, a, l, c, k⟩ := D
  have F := fun_mk (st := st) l c k
  exact ⟨f, _, F, PySem.W.mg_of X G a, k, F.binds hb⟩
theorem none_of {K : PySem.W.Frag} {h : Heap} {mg : Str → Option Value} {x : Str} (X : K.In h) (G : h.Ns mainGlobals mg) (e : PySem.W.nsIn K mainGlobals x = some none) : mg x = none := PySem.W.mg_none_of X G e
theorem int_of {K : PySem.W.Frag} {h : Heap} {mg : Str → Option Value} {x : Str} {i : Int} (X : K.In h) (G : h.Ns mainGlobals mg) (e : ∃ tk, PySem.W.nsIn K mainGlobals x = some (some (.int i tk))) : ∃ tk, mg x = some (.int i tk) := e.elim fun tk e => ⟨tk, PySem.W.mg_of X G e⟩
theorem fn_glob {K : PySem.W.Frag} {mg : Str → Option Value} {x : Str} {st : Stmt} {ps : List Str} (D : Fn0 K mg x st ps) : ∃ f : Addr, mg x = some (.ref f) := let ⟨f, _, _, m, _⟩ := D; ⟨f, m⟩
/-- what is known of an own exception class -/
structure ExcF (K : PySem.W.Frag) (c : Str) (C fI : Addr) : Prop where
  m : PySem.W.nsIn K mainGlobals c = some (some (.ref C))
  ox : OexC K C
  nv : PySem.W.findIn K (.ref C) "value" = some none
  init : PySem.W.findIn K (.ref C) "__init__" = some (some (.ref fI))
  tyI : PySem.W.typeIn K (.ref fI) = some (.type "function")
theorem ref_of {K : PySem.W.Frag} {h : Heap} {mg : Str → Option Value} {x a cn : Str} {st : Stmt} {C : Addr} (D : Fct K x st) (X : K.In h) (G : h.Ns mainGlobals mg)
    (hb : ∀ (kV doc pm : Value) (an : Option Addr) (cdv ct : Value) (us : List Value), us.length = 1 → bindArgs (PySem.W.fnOf x x (defArgs st) (defBody st) (defScope st) .none kV doc pm an cdv ct) ⟨us, []⟩ = pure (([a] : List Str).zip us))
    (mC : PySem.W.nsIn K mainGlobals cn = some (some (.ref C))) (XF : XfC K C) (nv : PySem.W.findIn K (.ref C) "value" = some none) (ex : PySem.W.exmOne K (.ref C) (.ref C) = some true) : RefD K mg x st a cn := by
  obtain ⟨f, oc, od, kV, doc, pm, an, cdv, ct, osl, a', l, c, k⟩ := D
  have F := fun_mk (st := st) l c k
  exact ⟨f, C, .none, kV, doc, pm, cdv, ct, oc, an, od, osl, PySem.W.mg_of X G a', k, l, c, Binds.all fun us hl => hb kV doc pm an cdv ct us hl, PySem.W.mg_of X G mC, XF, nv, ex⟩
end FX
end

section
set_option Elab.async false
set_option linter.all false
set_option maxRecDepth 100000
/-! how mirrors are evaluated: equations that ask for the environment -/
namespace FX
namespace Ev
open PySem L2
theorem bind_ok {α β : Type} (a : α) (ρ : FX.Env) (f : α → FX.Env → R β) : (R.ok a ρ).bind f = f a ρ := rfl
theorem bind_err {α β : Type} (e : Ex) (ρ : FX.Env) (f : α → FX.Env → R β) : (R.err e ρ : R α).bind f = .err e ρ := rfl
theorem map_ok {α β : Type} (a : α) (ρ : FX.Env) (f : α → β) : (R.ok a ρ).map f = .ok (f a) ρ := rfl
theorem map_err {α β : Type} (e : Ex) (ρ : FX.Env) (f : α → β) : (R.err e ρ : R α).map f = .err e ρ := rfl
theorem norm_fz (t : T) (ρ : FX.Env) : (R.ok (Vl.fz t) ρ).norm = .ok (.fz t) ρ := rfl
theorem norm_own (t : T) (ρ : FX.Env) : (R.ok (Vl.own t) ρ).norm = .ok (.fz t) ρ := rfl
theorem norm_bor (i : Nat) (ρ : FX.Env) : (R.ok (Vl.bor i) ρ).norm = .ok (.bor i) ρ := rfl
theorem norm_err (e : Ex) (ρ : FX.Env) : (R.err e ρ).norm = .err e ρ := rfl
theorem of_fz (t : T) (ρ : FX.Env) : R.of (some (.fz t)) ρ = .ok (.fz t) ρ := rfl
theorem of_own (t : T) (ρ : FX.Env) : R.of (some (.own t)) ρ = .ok (.own t) ρ := rfl
theorem ofB_some (b : Bool) (ρ : FX.Env) : R.ofB (some b) ρ = .ok b ρ := rfl
theorem o_ok {α : Type} (a : α) (ρ : FX.Env) (f : α → FX.Env → O) : (R.ok a ρ).o f = f a ρ := rfl
theorem o_err {α : Type} (e : Ex) (ρ : FX.Env) (f : α → FX.Env → O) : (R.err e ρ : R α).o f = .er e ρ := rfl
theorem after_nx (ρ : FX.Env) (h : FX.Env → O) : (O.nx ρ).after h = h ρ := rfl
theorem after_rt (v : Vl) (ρ : FX.Env) (h : FX.Env → O) : (O.rt v ρ).after h = .rt v ρ := rfl
theorem after_er (e : Ex) (ρ : FX.Env) (h : FX.Env → O) : (O.er e ρ).after h = .er e ρ := rfl
theorem look_fz (ρ : FX.Env) (t : T) : look ρ (.fz t) = some t := rfl
theorem look_bor (ρ : FX.Env) (i : Nat) : look ρ (.bor i) = (match ρ[i]? with | some (.own _ t) => some t | some (.fz t) => some t | _ => none) := rfl
theorem looks_nil (ρ : FX.Env) : looks ρ [] = some [] := rfl
theorem looks_cons (ρ : FX.Env) (v : Vl) (vs : List Vl) : looks ρ (v :: vs) = (match look ρ v, looks ρ vs with | some t, some ts => some (t :: ts) | _, _ => none) := rfl
theorem look2_eq {α : Type} (ρ : FX.Env) (v u : Vl) (g : T → T → Option α) : look2 ρ v u g = (match look ρ v, look ρ u with | some t, some s => g t s | _, _ => none) := rfl
theorem esc1_fz (t : T) (ρ : FX.Env) : esc1 (.fz t) ρ = some (t, ρ) := rfl
theorem esc1_bor (i : Nat) (ρ : FX.Env) : esc1 (.bor i) ρ = (match ρ[i]? with | some (.own _ t) => some (t, ρ.set i (.fz t)) | some (.fz t) => some (t, ρ) | _ => none) := rfl
theorem escs_nil (ρ : FX.Env) : escs [] ρ = some ([], ρ) := rfl
theorem escs_cons (v : Vl) (vs : List Vl) (ρ : FX.Env) : escs (v :: vs) ρ = (match esc1 v ρ with | some (t, ρ1) => (match escs vs ρ1 with | some (ts, ρ2) => some (t :: ts, ρ2) | none => none) | none => none) := rfl
theorem ap_var (i : Nat) (ρ : FX.Env) : fVar i ρ = (match ρ[i]? with | some (.fz t) => .ok (.fz t) ρ | some (.own _ _) => .ok (.bor i) ρ | _ => .stuck) := rfl
theorem ap_c (t : T) (ρ : FX.Env) : fC t ρ = .ok (.fz t) ρ := rfl
theorem ap_nil (ρ : FX.Env) : fANil ρ = .ok [] ρ := rfl
theorem ap_cons (f : FX.Env → R Vl) (g : FX.Env → R (List Vl)) (ρ : FX.Env) : fACons f g ρ = (f ρ).norm.bind fun v ρ1 => (g ρ1).bind fun vs ρ2 => .ok (v :: vs) ρ2 := rfl
theorem ap_star (f : FX.Env → R Vl) (g : FX.Env → R (List Vl)) (ρ : FX.Env) : fAStar f g ρ = (f ρ).norm.bind fun v ρ1 => match (look ρ1 v).bind T.items with | some ts => (g ρ1).bind fun vs ρ2 => .ok (ts.map .fz ++ vs) ρ2 | none => .stuck := rfl
theorem ap_cb (g : List T → Option Nv) (fa : FX.Env → R (List Vl)) (ρ : FX.Env) : fCB g fa ρ = (fa ρ).bind fun vs ρ1 => R.of ((looks ρ1 vs).bind g) ρ1 := rfl
theorem ap_bin (g : T → T → Option Nv) (fa fb : FX.Env → R Vl) (ρ : FX.Env) : fBin g fa fb ρ = (fa ρ).norm.bind fun v ρ1 => (fb ρ1).norm.bind fun u ρ2 => R.of (look2 ρ2 v u g) ρ2 := rfl
theorem ap_cmp (g : T → T → Option Bool) (fa fb : FX.Env → R Vl) (ρ : FX.Env) : fCmpT g fa fb ρ = (fa ρ).norm.bind fun v ρ1 => (fb ρ1).norm.bind fun u ρ2 => R.ofB (look2 ρ2 v u g) ρ2 := rfl
theorem gcm_eq (g : T → T → Option Bool) (t u : T) : gCm g t u = (g t u).map fun b => .fz (.bl b) := rfl
theorem ap_tru (f : FX.Env → R Vl) (ρ : FX.Env) : fTru f ρ = (f ρ).norm.bind fun v ρ1 => R.ofB ((look ρ1 v).bind T.tru) ρ1 := rfl
theorem tru_bl (b : Bool) : T.tru (.bl b) = some b := rfl
theorem ap_and (f g : FX.Env → R Bool) (ρ : FX.Env) : fAnd f g ρ = (f ρ).bind fun b ρ1 => if b = true then g ρ1 else .ok false ρ1 := rfl
theorem ap_or (f g : FX.Env → R Bool) (ρ : FX.Env) : fOr f g ρ = (f ρ).bind fun b ρ1 => if b = true then .ok true ρ1 else g ρ1 := rfl
theorem ap_not (f : FX.Env → R Bool) (ρ : FX.Env) : fNot f ρ = (f ρ).map fun b => !b := rfl
theorem ap_andv (f g : FX.Env → R Vl) (ρ : FX.Env) : fAndV f g ρ = (f ρ).norm.bind fun v ρ1 => match v with | .fz (.bl true) => g ρ1 | .fz (.bl false) => .ok (.fz (.bl false)) ρ1 | _ => .stuck := rfl
theorem ap_orv (f g : FX.Env → R Vl) (ρ : FX.Env) : fOrV f g ρ = (f ρ).norm.bind fun v ρ1 => match v with | .fz (.bl true) => .ok (.fz (.bl true)) ρ1 | .fz (.bl false) => g ρ1 | _ => .stuck := rfl
theorem ap_notv (f : FX.Env → R Vl) (ρ : FX.Env) : fNotV f ρ = (f ρ).norm.bind fun v ρ1 => match v with | .fz (.bl b) => .ok (.fz (.bl (!b))) ρ1 | _ => .stuck := rfl
theorem ap_if (f : FX.Env → R Bool) (g h : FX.Env → R Vl) (ρ : FX.Env) : fIf f g h ρ = (f ρ).bind fun b ρ1 => if b = true then g ρ1 else h ρ1 := rfl
theorem ap_esc {α : Type} (g : FX.Env → R (List Vl)) (k : List T → FX.Env → R α) (ρ : FX.Env) : fEsc g k ρ = (g ρ).bind fun vs ρ1 => match escs vs ρ1 with | some (ts, ρ2) => k ts ρ2 | none => .stuck := rfl
theorem ap_tup (g : FX.Env → R (List Vl)) (ρ : FX.Env) : fTup g ρ = fEsc g (fun ts ρ => R.of (lim ts.length (.fz (.tup ts))) ρ) ρ := rfl
theorem ap_lst (g : FX.Env → R (List Vl)) (ρ : FX.Env) : fLst g ρ = fEsc g (fun ts ρ => R.of (lim ts.length (.own (.lst ts))) ρ) ρ := rfl
theorem lim_eq (n : Nat) (v : Nv) : lim n v = if n ≤ 1000 then some v else none := rfl
theorem ap_call (g : List T → Rp) (fa : FX.Env → R (List Vl)) (ρ : FX.Env) : fCall g fa ρ = fEsc fa (fun ts ρ => (g ts).r ρ) ρ := rfl
theorem r_fz (t : T) (ρ : FX.Env) : (Rp.ok (.fz t)).r ρ = .ok (.fz t) ρ := rfl
theorem r_own (t : T) (ρ : FX.Env) : (Rp.ok (.own t)).r ρ = .ok (.own t) ρ := rfl
theorem r_err (e : Ex) (ρ : FX.Env) : (Rp.err e).r ρ = .err e ρ := rfl
theorem ap_v (f : FX.Env → R Bool) (ρ : FX.Env) : fV f ρ = (f ρ).map fun b => .fz (.bl b) := rfl
theorem ap_chain (g g2 : T → T → Option Bool) (fa fb fc : FX.Env → R Vl) (ρ : FX.Env) : fChain g g2 fa fb fc ρ = (fa ρ).norm.bind fun v ρ1 => (fb ρ1).norm.bind fun u ρ2 => match look2 ρ2 v u g with | some true => (fc ρ2).norm.bind fun z ρ3 => R.ofB (look2 ρ3 u z g2) ρ3 | some false => .ok false ρ2 | none => .stuck := rfl
theorem ap_neg (f : FX.Env → R Vl) (ρ : FX.Env) : fNeg f ρ = (f ρ).norm.bind fun v ρ1 => match v with | .fz (.int i) => .ok (.fz (.int (-i))) ρ1 | _ => .stuck := rfl
theorem ap_items (f : FX.Env → R Vl) (ρ : FX.Env) : fItems f ρ = (f ρ).norm.bind fun v ρ1 => match esc1 v ρ1 with | some (t, ρ2) => (match t.items with | some ts => .ok ts ρ2 | none => .stuck) | none => .stuck := rfl
theorem items_tup (ts : List T) : (T.tup ts).items = some ts := rfl
theorem items_lst (ts : List T) : (T.lst ts).items = some ts := rfl
theorem ap_yes (ρ : FX.Env) : fYes ρ = .ok true ρ := rfl
theorem ap_lc (vs : List Nat) (fi : FX.Env → R (List T)) (b : T → FX.Env → Option FX.Env) (ft : FX.Env → R Bool) (fe : FX.Env → R Vl) (ρ : FX.Env) : fLc vs fi b ft fe ρ = (fi ρ).bind fun ts ρ1 => (lcL vs b ft fe ts [] ρ1).map fun ys => .own (.lst ys) := rfl
theorem ap_dc (vs : List Nat) (fi : FX.Env → R (List T)) (b : T → FX.Env → Option FX.Env) (ft : FX.Env → R Bool) (fk fv : FX.Env → R Vl) (ρ : FX.Env) : fDc vs fi b ft fk fv ρ = (fi ρ).bind fun ts ρ1 => (dcL vs b ft fk fv ts [] ρ1).map fun ys => .own (.dK ys) := rfl
theorem ap_rev (f : FX.Env → R Vl) (ρ : FX.Env) : fRev f ρ = (f ρ).norm.bind fun v ρ1 => R.of ((look ρ1 v).bind aRev) ρ1 := rfl
theorem ap_dk (ρ : FX.Env) : fDK ρ = .ok (.own (.dK [])) ρ := rfl
theorem ap_dn (f : FX.Env → R Vl) (ρ : FX.Env) : fDN f ρ = (f ρ).norm.bind fun v ρ1 => match esc1 v ρ1 with | some (t, ρ2) => .ok (.fz (.dN t)) ρ2 | none => .stuck := rfl
theorem ap_none (ρ : FX.Env) : fNone ρ = .ok none ρ := rfl
theorem ap_some (f : FX.Env → R Vl) (ρ : FX.Env) : fSome f ρ = (f ρ).norm.bind fun v ρ1 => match v with | .fz (.int i) => .ok (some i) ρ1 | _ => .stuck := rfl
theorem ap_cut (fa : FX.Env → R Vl) (fl fh : FX.Env → R (Option Int)) (ρ : FX.Env) : fCut fa fl fh ρ = (fa ρ).norm.bind fun v ρ1 => (fl ρ1).bind fun lo ρ2 => (fh ρ2).bind fun hi ρ3 => R.of ((look ρ3 v).bind fun t => aCut t lo hi) ρ3 := rfl
theorem ap_enum (fa : FX.Env → R (List Vl)) (ρ : FX.Env) : fEnum fa ρ = fEsc fa (fun ts ρ => match ts with | [t] => (match t.items with | some us => .ok (enumT 0 us) ρ | none => .stuck) | _ => .stuck) ρ := rfl
theorem ap_zip (fa : FX.Env → R (List Vl)) (ρ : FX.Env) : fZip fa ρ = fEsc fa (fun ts ρ => match ts with | [t, u] => (match t.items, u.items with | some ts, some us => .ok (zipT ts us) ρ | _, _ => .stuck) | _ => .stuck) ρ := rfl
theorem ap_range1 (fa : FX.Env → R (List Vl)) (ρ : FX.Env) : fRange1 fa ρ = (fa ρ).bind fun vs ρ1 => match vs with | [.fz (.int n)] => if okR n = true then .ok (rangeT 0 n) ρ1 else .stuck | _ => .stuck := rfl
theorem ap_range2 (fa : FX.Env → R (List Vl)) (ρ : FX.Env) : fRange2 fa ρ = (fa ρ).bind fun vs ρ1 => match vs with | [.fz (.int m), .fz (.int n)] => if okR m = true ∧ okR n = true then .ok (rangeT m n) ρ1 else .stuck | _ => .stuck := rfl
theorem ap_callM (g : T → List T → RpM) (fa : FX.Env → R (List Vl)) (ρ : FX.Env) : fCallM g fa ρ = (fa ρ).bind fun vs ρ1 => match vs with | .bor i :: us => (match escs us ρ1 with | some (ts, ρ2) => (match ownT ρ2 i with | some (k, t) => (match g t ts with | .ok t2 v => R.of (some v) (ρ2.set i (.own k t2)) | .err _ => .stuck | .stuck => .stuck) | none => .stuck) | none => .stuck) | _ => .stuck := rfl
theorem ownT_eq (ρ : FX.Env) (i : Nat) : ownT ρ i = (match ρ[i]? with | some (.own k t) => some (k, t) | _ => none) := rfl
theorem ap_gd (p : T → Bool) (i : Nat) (f : FX.Env → R Vl) (ρ : FX.Env) : gd p i f ρ = (match ownT ρ i with | some (_, t) => if p t = true then f ρ else .stuck | none => .stuck) := rfl
theorem ap_mut (i : Nat) (m : T → List T → Option (T × T)) (fa : FX.Env → R (List Vl)) (ρ : FX.Env) : fMut i m fa ρ = (match ownT ρ i with | none => .stuck | some _ => fEsc fa (fun ts ρ1 => match ownT ρ1 i with | none => .stuck | some (k, t) => match m t ts with | some (t2, w) => .ok (.fz w) (ρ1.set i (.own k t2)) | none => .stuck) ρ) := rfl
theorem isL_lst (ts : List T) : isL (.lst ts) = true := rfl
theorem app_eq (ts : List T) (t : T) : mAppend (.lst ts) [t] = if ts.length ≤ 1000000 then some (.lst (ts ++ [t]), .non) else none := rfl
theorem ap_seq (g h : FX.Env → O) (ρ : FX.Env) : gSeq g h ρ = (g ρ).after h := rfl
theorem ap_gif (c : FX.Env → R Bool) (g h : FX.Env → O) (ρ : FX.Env) : gIf c g h ρ = (c ρ).o fun b ρ1 => if b = true then g ρ1 else h ρ1 := rfl
theorem ap_set (i : Nat) (f : FX.Env → R Vl) (ρ : FX.Env) : gSet i f ρ = (f ρ).o (put1 i) := rfl
theorem put_fz (i : Nat) (t : T) (ρ : FX.Env) : put1 i (.fz t) ρ = .nx (ρ.set i (.fz t)) := rfl
theorem put_own (i : Nat) (t : T) (ρ : FX.Env) : put1 i (.own t) ρ = .nx (ρ.set i (.own none t)) := rfl
theorem put_bor (i j : Nat) (ρ : FX.Env) : put1 i (.bor j) ρ = (match esc1 (.bor j) ρ with | some (t, ρ1) => .nx (ρ1.set i (.fz t)) | none => .stuck) := rfl
theorem ap_ret (f : FX.Env → R Vl) (ρ : FX.Env) : gRet f ρ = (f ρ).o fun v ρ1 => .rt v ρ1 := rfl
theorem ap_drop (f : FX.Env → R Vl) (ρ : FX.Env) : gDrop f ρ = (f ρ).o fun _ ρ1 => .nx ρ1 := rfl
theorem ap_gnil (ρ : FX.Env) : FX.gNil ρ = .nx ρ := rfl
theorem ap_raise (c : Str) (fa : FX.Env → R (List Vl)) (ρ : FX.Env) : gRaise c fa ρ = (fa ρ).o fun vs ρ1 => match escs vs ρ1 with | some ([t], ρ2) => .er ⟨c, [("value", t)]⟩ ρ2 | _ => .stuck := rfl
theorem ap_for (fi : FX.Env → R (List T)) (b : T → FX.Env → Option FX.Env) (g : FX.Env → O) (ρ : FX.Env) : gFor fi b g ρ = (fi ρ).o fun ts ρ1 => forL b g ts ρ1 := rfl
theorem ap_aug (i : Nat) (g : T → T → Option Nv) (f : FX.Env → R Vl) (ρ : FX.Env) : gAug i g f ρ = (match ρ[i]? with | some (.fz t) => (f ρ).norm.o fun v ρ1 => (match (look ρ1 v).bind (g t) with | some w => put1 i w.vl ρ1 | none => .stuck) | _ => .stuck) := rfl
theorem ap_asg (b : T → FX.Env → Option FX.Env) (f : FX.Env → R Vl) (ρ : FX.Env) : gAsg b f ρ = (f ρ).norm.o fun v ρ1 => match esc1 v ρ1 with | some (t, ρ2) => (match b t ρ2 with | some ρ3 => .nx ρ3 | none => .stuck) | none => .stuck := rfl
theorem ap_store (st : T → T → T → Option T) (i : Nat) (fv fk : FX.Env → R Vl) (ρ : FX.Env) : gStore st i fv fk ρ = (fv ρ).norm.o fun v ρ1 => match ownT ρ1 i with | none => .stuck | some _ => (fk ρ1).norm.o fun kx ρ2 => match escs [v, kx] ρ2 with | some ([t, k], ρ3) => (match ownT ρ3 i with | some (id, c) => (match st c k t with | some c2 => .nx (ρ3.set i (.own id c2)) | none => .stuck) | none => .stuck) | _ => .stuck := rfl
theorem ap_bname (i : Nat) (t : T) (ρ : FX.Env) : bName i t ρ = some (ρ.set i (.fz t)) := rfl
theorem ap_bnil (ρ : FX.Env) : bNil [] ρ = some ρ := rfl
theorem ap_bcons (b : T → FX.Env → Option FX.Env) (c : List T → FX.Env → Option FX.Env) (t : T) (ts : List T) (ρ : FX.Env) : bCons b c (t :: ts) ρ = (b t ρ).bind (c ts) := rfl
theorem ap_btup (n : Nat) (c : List T → FX.Env → Option FX.Env) (ts : List T) (ρ : FX.Env) : bTup n c (.tup ts) ρ = if ts.length = n then c ts ρ else none := rfl
theorem end_rt (t : T) (ρ : FX.Env) : endP (.rt (.fz t) ρ) = .ok (.fz t) := rfl
theorem end_own (t : T) (ρ : FX.Env) : endP (.rt (.own t) ρ) = .ok (.own t) := rfl
theorem end_nx (ρ : FX.Env) : endP (.nx ρ) = .ok (.fz .non) := rfl
theorem end_er (e : Ex) (ρ : FX.Env) : endP (.er e ρ) = .err e := rfl
theorem end_bor (i : Nat) (ρ : FX.Env) : endP (.rt (.bor i) ρ) = (match ρ[i]? with | some (.own none t) => .ok (.own t) | some (.fz t) => .ok (.fz t) | _ => .stuck) := rfl
theorem vl_fz (t : T) : (Nv.fz t).vl = .fz t := rfl
theorem vl_own (t : T) : (Nv.own t).vl = .own t := rfl
end Ev
end FX
end

section
set_option Elab.async false
set_option linter.all false
set_option maxRecDepth 100000
set_option maxHeartbeats 4000000
namespace FX
open PySem PySem.Spec PyProof.Rows L2
/-! ### instances: made, asked, written -/
def putFT (f : Str) (v : T) : List (Str × T) → List (Str × T)
  | [] => [(f, v)]
  | (g, x) :: r => if g = f then (g, v) :: r else (g, x) :: putFT f v r
theorem RepF.put {K : PySem.W.Frag} {mg : Str → Option Value} {F : Hp} {f : Str} {y : V} {t : T} (h : Rep K mg F y t) : ∀ {vs : List (Str × V)} {ts : List (Str × T)}, RepF K mg F vs ts → RepF K mg F (putF f y vs) (putFT f t ts)
  | _, _, .nil => .cons h .nil
  | _, _, .cons (k := k) h1 r => by
    simp only [putF, putFT]
    split
    · exact .cons h r
    · exact .cons h1 (RepF.put h r)
theorem RepF.len {K : PySem.W.Frag} {mg : Str → Option Value} {F : Hp} : ∀ {vs : List (Str × V)} {ts : List (Str × T)}, RepF K mg F vs ts → vs.length = ts.length
  | _, _, .nil => rfl
  | _, _, .cons h r => by simp [r.len]
theorem RepF.none {K : PySem.W.Frag} {mg : Str → Option Value} {F : Hp} {f : Str} : ∀ {vs : List (Str × V)} {ts : List (Str × T)}, RepF K mg F vs ts → ts.lookup f = Option.none → vs.lookup f = Option.none
  | _, _, .nil, _ => rfl
  | _, _, .cons (k := k) h r, e => by
    simp only [List.lookup] at e ⊢
    split at e
    · cases e
    · exact r.none e
/-- a class and a field that none of its classes has -/
def FldC (K : PySem.W.Frag) (mg : Str → Option Value) (c f : Str) : Prop := ∃ C : Addr, mg c = some (.ref C) ∧ Cls K C ∧ NoAttr K C f
/-- C(..): how an instance is made; dts: the defaults that fill up -/
def MkC (P : Program) (w : World) (K : PySem.W.Frag) (mg : Str → Option Value) (base : Heap) (c : Str) (ps : List Str) (k : Nat) (g : T → List T → RpM) (dts : List T) : Prop :=
  ∃ (C f : Addr) (fd : FuncData) (ds : List Value) (dvs : List V), Mk K C f ∧ FnOk P w K mg base (L2.CX P w) k f fd ps (spM K mg g) ∧ Binds K fd ps ds ∧ Vals dvs ds ∧ mg c = some (.ref C) ∧ ∀ F, Reps K mg F dvs dts
/-- a method that changes nothing -/
def MtC (P : Program) (w : World) (K : PySem.W.Frag) (mg : Str → Option Value) (base : Heap) (c m : Str) (ps : List Str) (k : Nat) (g : List T → Rp) : Prop :=
  ∃ (C f : Addr) (fd : FuncData), Cls K C ∧ Meth K C m f ∧ FnOk P w K mg base (L2.CX P w) k f fd ps (spP K mg g) ∧ Binds K fd ps [] ∧ mg c = some (.ref C)
section
variable {X : Cx} {au : Au} {E : XK}
theorem re_attrC {W : WX} {c f : Str} {e : Expr} {fa : FX.Env → R Vl} {pos : Pos} (D : FldC X.K X.mg c f) (he : RE X au W e fa) (hb : attributeBase e f X.env (eval e X.env) = eval e X.env := by rfl) : RE X au W (.Attribute e f pos) (fAttr c f fa) := by
  obtain ⟨C, m, cl, na⟩ := D
  exact re_attr m cl na he hb
theorem passE {W : WX} (tk : Takes X (fun cls d _ H => E cls d H)) : Passes (L2.CX X.prog X.w) X E := passes_call tk fun _ _ _ _ h => h
def fMake (c : Str) (g : T → List T → RpM) (dts : List T) (fa : FX.Env → R (List Vl)) : FX.Env → R Vl := fEsc fa fun ts ρ => match g (.ins c []) (ts ++ dts) with
  | .ok t (.fz .non) => .ok (.own t) ρ
  | .err e => .err e ρ
  | _ => .stuck
theorem reps_app {K : PySem.W.Frag} {mg : Str → Option Value} {F : Hp} : ∀ {xs ys : List V} {ts us : List T}, Reps K mg F xs ts → Reps K mg F ys us → Reps K mg F (xs ++ ys) (ts ++ us)
  | _, _, _, _, .nil, h => h
  | _, _, _, _, .cons a r, h => .cons a (reps_app r h)
theorem make_core {c : Str} {g : T → List T → RpM} {dts : List T} {C : Addr} {dvs xs : List V} {ts : List T} {ρ : FX.Env} {σ : L2.St} {F H : Hp} {Q : VK} (mC : X.mg c = some (.ref C)) (S : SRel X.K X.mg au ρ σ F H) (r : Reps X.K X.mg F xs ts) (hd : ∀ F, Reps X.K X.mg F dvs dts)
    (q : Post X au (fun cls d _ H => E cls d H) (VE X) ρ σ F H (match g (.ins c []) (ts ++ dts) with | .ok t (.fz .non) => .ok (.own t) ρ | .err e => .err e ρ | _ => .stuck) Q) :
    ∀ x dx, H x = none → H dx = none → dx ≠ x → spM X.K X.mg g (.ref x :: (xs ++ dvs)) (upd (upd H dx (.own x)) x (.ins C dx [])) (fun v H2 => v = .non ∧ Q (.ref x) H2) E := by
  intro x dx nx ndx ne
  have hF : F x = none := S.sub.free nx
  have keep : ∀ b o, H b = some o → upd (upd H dx (.own x)) x (.ins C dx []) b = some o := fun b o h => by
    rw [upd_ne (ne_of_none h nx), upd_ne (ne_of_none h ndx)]; exact h
  have s2 : Same F (upd (upd H dx (.own x)) x (.ins C dx [])) := fun b o h => keep b o (S.sub _ _ h)
  have lost : ∀ b, upd (upd H dx (.own x)) x (.ins C dx []) b = none → H b = none := fun b h => by
    cases e : H b with
    | none => rfl
    | some o => rw [keep b o e] at h; cases h
  have lost2 : ∀ b, Nh (upd (upd H dx (.own x)) x (.ins C dx [])) b → Nh H b := fun b h => by
    rcases h with h | ⟨vs, h⟩
    · exact .inl (lost b h)
    · by_cases z : b = x
      · rw [z, upd_same] at h; cases h
      · rw [upd_ne z] at h
        by_cases z2 : b = dx
        · rw [z2, upd_same] at h; cases h
        · rw [upd_ne z2] at h; exact .inr ⟨vs, h⟩
  refine ⟨F, x, .ins c [], xs ++ dvs, ts ++ dts, rfl, s2, hF, .ins mC upd_same .nil, reps_app r (hd F), ?_⟩
  generalize g (.ins c []) (ts ++ dts) = res at q ⊢
  match res, q with
  | .ok t (.fz .non), q =>
    intro y F' H' s1 kp nn s3 nw fa ow hv
    cases (show Rep X.K X.mg F' y .non from hv)
    refine ⟨rfl, ?_⟩
    obtain ⟨F3, D⟩ := clean (K := X.K) (mg := X.mg) S.nt s1 s3 fun b hb => (nw b hb).elim .inl fun z => .inr (lost2 b z)
    have hH : Same H H' := fun b o h => kp b o (keep b o h) (ne_of_none h nx)
    have S3 := S.new D.s hH D.s3 D.nw D.nt
    refine q (.ref x) F3 H' S3 (Xt.new D.s hH D.nw) ⟨x, rfl, D.le.free fa, D.own ow, nx, fun ⟨j, k2, t2, h1, h2⟩ => ?_⟩
    obtain ⟨b, eb, _, ob, _⟩ := S.ow h1
    rw [h2] at eb; cases eb
    obtain ⟨o, ho, _⟩ := ob.there
    rw [nx] at ho; cases ho
  | .err e, q =>
    intro cls d F' H' s1 kp nn s3 nw ev
    by_cases hx : F' x = none
    · obtain ⟨F3, D⟩ := clean (K := X.K) (mg := X.mg) S.nt s1 s3 fun b hb => (nw b hb).elim .inl fun z => z.elim (fun z => .inr (lost2 b z)) fun z => by rw [z] at hb; exact absurd hx hb
      have hH : Same H H' := fun b o h => kp b o (keep b o h) (ne_of_none h nx)
      obtain ⟨C', dx', fs, e1, e2, e3, e4, e5⟩ := ev
      exact q cls d F3 H' (S.new D.s hH D.s3 D.nw D.nt) (Xt.new D.s hH D.nw) ⟨C', dx', fs, e1, e2, e3, e4, D.repF e5⟩
    · obtain ⟨F3, D⟩ := clean (K := X.K) (mg := X.mg) S.nt s1 s3 fun b hb => (nw b hb).elim .inl fun z => z.elim (fun z => .inr (lost2 b z)) fun z => .inr (.inl (by rw [z]; exact nx))
      have hH : Same H H' := fun b o h => kp b o (keep b o h) (ne_of_none h nx)
      obtain ⟨C', dx', fs, e1, e2, e3, e4, e5⟩ := ev
      exact q cls d F3 H' (S.new D.s hH D.s3 D.nw D.nt) (Xt.new D.s hH D.nw) ⟨C', dx', fs, e1, e2, e3, e4, D.repF e5⟩
  | .ok t (.fz (.bl _)), q => exact q.elim
  | .ok t (.fz (.int _)), q => exact q.elim
  | .ok t (.fz (.str _)), q => exact q.elim
  | .ok t (.fz (.tup _)), q => exact q.elim
  | .ok t (.fz (.lst _)), q => exact q.elim
  | .ok t (.fz (.seq _)), q => exact q.elim
  | .ok t (.fz (.tsq _)), q => exact q.elim
  | .ok t (.fz (.dK _)), q => exact q.elim
  | .ok t (.fz (.dT _)), q => exact q.elim
  | .ok t (.fz (.ins _ _)), q => exact q.elim
  | .ok t (.fz (.fn _)), q => exact q.elim
  | .ok t (.fz (.ty _)), q => exact q.elim
  | .ok t (.fz (.dN _)), q => exact q.elim
  | .ok t (.own _), q => exact q.elim
  | .stuck, q => exact q.elim
theorem re_make {c : Str} {ps : List Str} {k : Nat} {g : T → List T → RpM} {dts : List T} {e : Expr} {es : List Expr} {fa : FX.Env → R (List Vl)} {p pos : Pos} (M : MkC X.prog X.w X.K X.mg X.base c ps k g dts) (tk : Takes X (fun cls d _ H => E cls d H)) (hr : Room (k + 1) X.A)
    (ha : RA X au (fun cls d _ H => E cls d H) (e :: es) fa) (hg : Gl X c := by rfl) (hdb : (c == ("__debug__" : Str)) = false := by decide) (he : starEach (e :: es) X.env = (false, eval e X.env) :: starEach es X.env := by rfl) (hpl : (backTo pos (starEach es X.env)).any (·.1) = false := by rfl) :
    RE X au (fun cls d _ H => E cls d H) (.Call (.Name c p) (e :: es) [] pos) (fMake c g dts fa) := by
  obtain ⟨C, f, fd, ds, dvs, M, F, b, vd, m, rd⟩ := M
  refine ⟨PE.imp (pe_make M F hr hg m b vd (passE (W := fun _ _ _ _ => True) tk) ha.pa hdb he hpl) fun σ H Q ⟨F, ρ, S, q⟩ => ?_⟩
  exact ⟨F, ρ, S, esc_post early_VE q fun xs ts ρ1 F1 H1 S1 r q1 => make_core m S1 r rd q1⟩
theorem re_make0 {c : Str} {ps : List Str} {k : Nat} {g : T → List T → RpM} {dts : List T} {p pos : Pos} (M : MkC X.prog X.w X.K X.mg X.base c ps k g dts) (tk : Takes X (fun cls d _ H => E cls d H)) (hr : Room (k + 1) X.A)
    (hg : Gl X c := by rfl) (hdb : (c == ("__debug__" : Str)) = false := by decide) : RE X au (fun cls d _ H => E cls d H) (.Call (.Name c p) [] [] pos) (fMake c g dts fANil) := by
  obtain ⟨C, f, fd, ds, dvs, M, F, b, vd, m, rd⟩ := M
  refine ⟨PE.imp (pe_make0 M F hr hg m b vd (passE (W := fun _ _ _ _ => True) tk) hdb) fun σ H Q ⟨F, ρ, S, q⟩ => ?_⟩
  exact make_core (xs := []) m S .nil rd q
def fMeth (c m : Str) (g : List T → Rp) (fo : FX.Env → R Vl) (fa : FX.Env → R (List Vl)) : FX.Env → R Vl := fun ρ => (fo ρ).norm.bind fun v ρ1 => match look ρ1 v with
  | some (.ins c' fs) => if c' = c ∧ fs.lookup m = none then (fa ρ1).bind fun vs ρ2 => (match escs (v :: vs) ρ2 with
    | some (t :: ts, ρ3) => (g (t :: ts)).r ρ3
    | _ => .stuck) else .stuck
  | _ => .stuck
theorem meth_core {c m : Str} {g : List T → Rp} {C : Addr} {fo : FX.Env → R Vl} {fa : FX.Env → R (List Vl)} {ta : TA} {σ : L2.St} {H : Hp} {Q : VK} (mC : X.mg c = some (.ref C)) (hta : ∀ σ H Q, tF X au (fun cls d _ H => E cls d H) (VA X) fa σ H Q → ta σ H Q)
    (q : tF X au (fun cls d _ H => E cls d H) (VE X) (fMeth c m g fo fa) σ H Q) : tMeth C m (spP X.K X.mg g) [] E (tF X au (fun cls d _ H => E cls d H) (VE X) fo) ta σ H Q := by
  obtain ⟨F, ρ, S, q⟩ := q
  refine ⟨F, ρ, S, Post.bindN early_VE q fun x v ρ1 F1 H1 S1 X1 V1 h1 => ?_⟩
  split at h1
  · rename_i c' fs e1
    split at h1
    · rename_i ec
      obtain ⟨ec, el⟩ := ec
      subst ec
      cases look_o S1 V1 e1 with
      | ins hc' ha r =>
        rw [mC] at hc'
        cases hc'
        refine ⟨_, _, _, rfl, ha, r.none el, hta _ _ _ ⟨F1, ρ1, S1, Post.bind early_VE h1 fun xs vs ρ2 F2 H2 e2 S2 X2 V2 h2 => ?_⟩⟩
        split at h2
        · rename_i t ts ρ3 e3
          obtain ⟨F3, S3, X3, r3⟩ := escs_ok (xs := V.ref _ :: xs) (vs := v :: vs) S2 (.intro (V1.mono X2.ff) V2) e3
          have h2 := Post.step early_VE h2 X3
          rw [List.append_nil]
          exact ⟨F3, t :: ts, S3.sub, r3, rp_post S3 h2⟩
        · exact h2.elim
    · exact h1.elim
  · exact h1.elim
theorem re_meth {c m : Str} {ps : List Str} {k : Nat} {g : List T → Rp} {o e : Expr} {es : List Expr} {fo : FX.Env → R Vl} {fa : FX.Env → R (List Vl)} {apos pos : Pos} {pl : Sem Bool} (M : MtC X.prog X.w X.K X.mg X.base c m ps k g) (tk : Takes X (fun cls d _ H => E cls d H)) (hr : Room k X.A)
    (ho : RE X au (fun cls d _ H => E cls d H) o fo) (ha : RA X au (fun cls d _ H => E cls d H) (e :: es) fa) (hst : starEach (e :: es) X.env = (false, eval e X.env) :: starEach es X.env := by rfl) (hpl : (backTo pos (starEach es X.env)).any (·.1) = false := by rfl)
    (ht : eval (.Call (.Attribute o m apos) (e :: es) [] pos) X.env = (do
      let ov ← eval o X.env
      standAt apos.atName
      let (f, first) ← holding [ov] (getMethod ov m pl)
      callWith pos f first (backTo pos (starEach (e :: es) X.env)) (backToKw pos (keywordEach [] X.env))) := by rfl) : RE X au (fun cls d _ H => E cls d H) (.Call (.Attribute o m apos) (e :: es) [] pos) (fMeth c m g fo fa) := by
  obtain ⟨C, f, fd, cl, M, F, b, mC⟩ := M
  exact ⟨PE.imp (pe_meth (pl := pl) ho.pe cl M F hr b .nil (passE (W := fun _ _ _ _ => True) tk) ha.pa hst hpl ht) fun σ H Q q => meth_core mC (fun _ _ _ h => h) q⟩
theorem re_meth0 {c m : Str} {ps : List Str} {k : Nat} {g : List T → Rp} {o : Expr} {fo : FX.Env → R Vl} {apos pos : Pos} {pl : Sem Bool} (M : MtC X.prog X.w X.K X.mg X.base c m ps k g) (tk : Takes X (fun cls d _ H => E cls d H)) (hr : Room k X.A)
    (ho : RE X au (fun cls d _ H => E cls d H) o fo)
    (ht : eval (.Call (.Attribute o m apos) [] [] pos) X.env = (do
      let ov ← eval o X.env
      standAt apos.atName
      let (f, first) ← holding [ov] (getMethod ov m pl)
      callWith pos f first (backTo pos (starEach [] X.env)) (backToKw pos (keywordEach [] X.env))) := by rfl) : RE X au (fun cls d _ H => E cls d H) (.Call (.Attribute o m apos) [] [] pos) (fMeth c m g fo fANil) := by
  obtain ⟨C, f, fd, cl, M, F, b, mC⟩ := M
  refine ⟨PE.imp (pe_meth0 (pl := pl) ho.pe cl M F hr b .nil (passE (W := fun _ _ _ _ => True) tk) ht) fun σ H Q q => ?_⟩
  refine meth_core mC (fun σ H Q h => ?_) q
  obtain ⟨F, ρ, S, h⟩ := h
  exact h [] F H S (Xt.refl _ _ _ _) trivial
/-- of one class among several -/
def isCl (c : Str) (fo : FX.Env → R Vl) (ρ : FX.Env) : Bool := match (fo ρ).norm with
  | .ok v ρ1 => (match look ρ1 v with
    | some (.ins c' _) => decide (c' = c)
    | _ => false)
  | _ => false
theorem re_on {W : WX} {p : FX.Env → Bool} {e : Expr} {f : FX.Env → R Vl} (h : RE X au W e f) : RE X au W e (fun ρ => if p ρ = true then f ρ else .stuck) := by
  refine ⟨PE.imp h.pe fun σ H Q ⟨F, ρ, S, q⟩ => ⟨F, ρ, S, ?_⟩⟩
  dsimp only at q
  split at q
  · exact q
  · exact q.elim
/-- self.f = e, an own object's field -/
def gSetF (c f : Str) (i : Nat) (fv : FX.Env → R Vl) : FX.Env → O := fun ρ => (fv ρ).norm.o fun v ρ1 => match ownT ρ1 i with
  | none => .stuck
  | some _ => match escs [v] ρ1 with
    | some ([t], ρ2) => match ownT ρ2 i with
      | some (id, .ins c' fs) => if c' = c ∧ fs.length < 1000 then .nx (ρ2.set i (.own id (.ins c' (putFT f t fs)))) else .stuck
      | _ => .stuck
    | _ => .stuck
theorem rs_setF {W : WX} {c f x : Str} {value : Expr} {fv : FX.Env → R Vl} {np pos' pos : Pos} (i : Nat) (D : FldC X.K X.mg c f) (hv : RE X au W value fv) (hN : X.N[i]? = some x := by rfl) (hvis : Vis X.env.scope x := by first | exact Or.inl rfl | exact Or.inr (Or.inl rfl) | exact Or.inr (Or.inr rfl)) (hd : (x == ("__debug__" : Str)) = false := by decide)
    (hcd : (x == ("__classdict__" : Str)) = false := by decide) (hs : swapsWith value (some (.Attribute (.Name x np) f pos')) pos.line X.env = pure false := by rfl) : RS X au W (.Assign [.Attribute (.Name x np) f pos'] value pos) (gSetF c f i fv) := by
  obtain ⟨C, m, cl, na⟩ := D
  have ho := re_var (X := X) (au := au) (W := W) (pos := np) i hN hvis hd hcd
  refine ⟨PS.imp (ps_fld ho.pe hv.pe hs) fun D σ H ⟨F, ρ, S, h⟩ => ?_⟩
  refine ⟨F, ρ, S, PostS.evalN h fun y v ρ1 F1 H1 S1 X1 V1 h1 => ⟨F1, ρ1, S1, ?_⟩⟩
  split at h1
  · exact h1.elim
  · rename_i p ep
    obtain ⟨id, c0⟩ := p
    have eg := ownT_get ep
    unfold fVar
    rw [eg]
    intro o F2 H2 S2 X2 V2
    have V2 : ∃ k t, ρ1[i]? = some (.own k t) ∧ σ[i]? = some (some o) := V2
    obtain ⟨_, _, _, eo⟩ := V2
    have h2 := (h1.step X1).step X2
    split at h2
    · rename_i t ρ2 e4
      obtain ⟨F4, S4, X4, r⟩ := escs_ok (xs := [y]) (vs := [v]) S2 (.intro (V1.mono X2.ff) trivial) e4
      split at h2
      · rename_i id' c' fs e5
        have eg5 := ownT_get e5
        obtain ⟨a, ea, naa, oa, da⟩ := S4.ow eg5
        rw [eo] at ea; cases ea
        split at h2
        · rename_i hc
          obtain ⟨ec, hl⟩ := hc
          subst ec
          cases r with
          | cons ry r =>
            cases oa with
            | @ins _ C' dx' fs' _ hc' hH rf =>
              rw [m] at hc'; cases hc'
              refine ⟨a, C, _, _, rfl, hH, cl, na, by rw [rf.len]; exact hl, ?_⟩
              have ow : OwnAt X.K X.mg F4 (upd H2 a (.ins C dx' (putF f y fs'))) a (.ins c' (putFT f t fs)) := .ins m upd_same (rf.put ry)
              obtain ⟨S5, X5⟩ := S4.mut eg5 eo hH (fun ps z => by cases z) (fun φ z => by cases z) ow
              exact h2 σ F4 _ S5 (X4.trans X5)
        · exact h2.elim
      · exact h2.elim
    · exact h2.elim
end
end FX
end

section
set_option Elab.async false
set_option linter.all false
set_option maxRecDepth 100000
set_option maxHeartbeats 4000000
namespace FX
open PySem PySem.Spec PyProof.Rows L2
/-! ### classes as the top has written them -/
/-- a method of the text -/
def Mt0 (K : PySem.W.Frag) (mg : Str → Option Value) (c m q : Str) (st : Stmt) (ps : List Str) : Prop := ∃ (C f : Addr) (fd : FuncData), Fun K m q st f fd ∧ Cls K C ∧ Meth K C m f ∧ Binds K fd ps [] ∧ mg c = some (.ref C)
/-- an __init__ of the text; dts: its defaults -/
def Mk0 (P : Program) (w : World) (K : PySem.W.Frag) (mg : Str → Option Value) (base : Heap) (c q : Str) (st : Stmt) (ps : List Str) (N : List Str) (dts : List T) : Prop :=
  ∃ (C f : Addr) (fd : FuncData) (ds : List Value) (dvs : List V), (∀ k, OkF P w K mg base q st f fd N ps k) ∧ Mk K C f ∧ Binds K fd ps ds ∧ Vals dvs ds ∧ mg c = some (.ref C) ∧ ∀ F, Reps K mg F dvs dts
section
variable {P : Program} {w : World} {K : PySem.W.Frag} {mg : Str → Option Value} {base : Heap} {c m q : Str} {st : Stmt} {ps N : List Str} {k n : Nat} {G : FX.Env → O}
theorem mt_p (F : Mt0 K mg c m q st ps) (S : FnScope N ps (defScope st))
    (hb : ∀ (f : Addr) (cdv : Value) (A : Around) (outer : List PySem.Env) (s : Shared) (H : Hp) (E : XK) (au : Au), au.tb = [] → Room k (A.deeper (envOfC q (defScope st) s.heap.objs.size f cdv)) →
      RSs (cxOf (L2.CX P w) P w K mg base N q (defScope st) f cdv A outer s H E) au (fun cls d _ H => E cls d H) (defBody st) G) : MtC P w K mg base c m ps (k + 1) (mkP ps.length N.length G) := by
  obtain ⟨C, f, fd, F, cl, M, b, mc⟩ := F
  exact ⟨C, f, fd, cl, M, fnP F S (hb f), b, mc⟩
theorem mk_m {dts : List T} (F : Mk0 P w K mg base c q st ps N dts) (hps : ps.length = n + 1)
    (hb : ∀ (f : Addr) (cdv : Value) (A : Around) (outer : List PySem.Env) (s : Shared) (H : Hp) (E : XK) (au : Au), au.tb = [] → Room k (A.deeper (envOfC q (defScope st) s.heap.objs.size f cdv)) →
      RSs (cxOf (L2.CX P w) P w K mg base N q (defScope st) f cdv A outer s H E) au (fun cls d _ H => E cls d H) (defBody st) G) : MkC P w K mg base c ps (k + 1) (mkM n N.length G) dts := by
  obtain ⟨C, f, fd, ds, dvs, ok, M, b, vd, mc, r⟩ := F
  exact ⟨C, f, fd, ds, dvs, M, fnM (ok k) hps (hb f), b, vd, mc, r⟩
/-- the class itself -/
structure ClF (K : PySem.W.Frag) (c : Str) (C : Addr) : Prop where
  m : PySem.W.nsIn K mainGlobals c = some (some (.ref C))
  pg : PySem.W.plainGet K C Str.empty = true
  hd : PySem.W.hasDictIn K C = true
  po : PySem.W.plainOver K C = true
  sa : PySem.W.findIn K (.ref C) "__setattr__" = some (some (.builtin "object.__setattr__"))
theorem ClF.cls {C : Addr} (h : ClF K c C) : Cls K C := ⟨h.pg, h.hd, h.po, h.sa⟩
/-- a def of a class, found there -/
def MtF (K : PySem.W.Frag) (C : Addr) (m q : Str) (st : Stmt) : Prop := ∃ (f : Addr) (oc : Value) (od : Option Addr) (kV doc pm : Value) (an : Option Addr) (cdv ct : Value) (osl : Array (Option Value)), PySem.W.findIn K (.ref C) m = some (some (.ref f)) ∧ PySem.W.isFn K (.ref f) = true ∧ PySem.W.keepIn K (.ref f) = true ∧
  K.lookup f = some ⟨oc, od, .func (PySem.W.fnOf m q (defArgs st) (defBody st) (defScope st) .none kV doc pm an cdv ct), osl⟩ ∧ PySem.W.codeIn K cdv q = true
theorem MtF.mk {C f : Addr} {oc : Value} {od : Option Addr} {kV doc pm : Value} {an : Option Addr} {cdv ct : Value} {osl : Array (Option Value)} (a : PySem.W.findIn K (.ref C) m = some (some (.ref f))) (n : PySem.W.isFn K (.ref f) = true) (k : PySem.W.keepIn K (.ref f) = true)
    (l : K.lookup f = some ⟨oc, od, .func (PySem.W.fnOf m q (defArgs st) (defBody st) (defScope st) .none kV doc pm an cdv ct), osl⟩) (c : PySem.W.codeIn K cdv q = true) : MtF K C m q st := ⟨f, oc, od, kV, doc, pm, an, cdv, ct, osl, a, n, k, l, c⟩
theorem MtF.mt0 {h : Heap} {C : Addr} (D : MtF K C m q st) (cf : ClF K c C) (X : K.In h) (G : h.Ns mainGlobals mg)
    (hb : ∀ (kV doc pm : Value) (an : Option Addr) (cdv ct : Value) (us : List Value), us.length = ps.length → bindArgs (PySem.W.fnOf m q (defArgs st) (defBody st) (defScope st) .none kV doc pm an cdv ct) ⟨us, []⟩ = pure (ps.zip us)) : Mt0 K mg c m q st ps := by
  obtain ⟨f, oc, od, kV, doc, pm, an, cdv, ct, osl, a, n, kp, l, cc⟩ := D
  have F := fun_mk (st := st) l cc kp
  exact ⟨C, f, _, F, cf.cls, ⟨a, n, kp⟩, F.binds hb, PySem.W.mg_of X G cf.m⟩
theorem MtF.mk0 {h : Heap} {C : Addr} (D : MtF K C "__init__" q st) (cf : ClF K c C) (X : K.In h) (G : h.Ns mainGlobals mg) (S : FnScope N ps (defScope st)) (mk : PySem.W.makesIn K C = true) (kp : PySem.W.keepIn K (.ref C) = true)
    (hb : ∀ (kV doc pm : Value) (an : Option Addr) (cdv ct : Value) (us : List Value), us.length = ps.length → bindArgs (PySem.W.fnOf "__init__" q (defArgs st) (defBody st) (defScope st) .none kV doc pm an cdv ct) ⟨us, []⟩ = pure (ps.zip us)) : Mk0 P w K mg base c q st ps N [] := by
  obtain ⟨f, oc, od, kV, doc, pm, an, cdv, ct, osl, a, n, kpf, l, cc⟩ := D
  have F := fun_mk (st := st) l cc kpf
  exact ⟨C, f, _, [], [], fun k sp => F.okX S, ⟨mk, a, n, kp⟩, F.binds hb, .nil, PySem.W.mg_of X G cf.m, fun F => .nil⟩
/-- an __init__ whose last parameter has the default () -/
def MtD (K : PySem.W.Frag) (C : Addr) (q : Str) (st : Stmt) : Prop := ∃ (f Td a0 : Addr) (oc : Value) (od : Option Addr) (kV doc pm : Value) (an : Option Addr) (cdv ct : Value) (osl : Array (Option Value)) (oc2 : Value) (od2 : Option Addr) (n2 : Nat) (osl2 : Array (Option Value)) (oc3 : Option Addr) (n3 : Nat) (osl3 : Array (Option Value)),
  PySem.W.findIn K (.ref C) "__init__" = some (some (.ref f)) ∧ PySem.W.isFn K (.ref f) = true ∧ PySem.W.keepIn K (.ref f) = true ∧
  K.lookup f = some ⟨oc, od, .func (PySem.W.fnOf "__init__" q (defArgs st) (defBody st) (defScope st) (.ref Td) kV doc pm an cdv ct), osl⟩ ∧ PySem.W.codeIn K cdv q = true ∧ K.lookup Td = some ⟨oc2, od2, .seq #[.ref a0] n2, osl2⟩ ∧ K.lookup a0 = some ⟨.type "tuple", oc3, .seq #[] n3, osl3⟩
theorem MtD.mk {C f Td a0 : Addr} {oc : Value} {od : Option Addr} {kV doc pm : Value} {an : Option Addr} {cdv ct : Value} {osl : Array (Option Value)} {oc2 : Value} {od2 : Option Addr} {n2 : Nat} {osl2 : Array (Option Value)} {oc3 : Option Addr} {n3 : Nat} {osl3 : Array (Option Value)}
    (a : PySem.W.findIn K (.ref C) "__init__" = some (some (.ref f))) (n : PySem.W.isFn K (.ref f) = true) (k : PySem.W.keepIn K (.ref f) = true) (l : K.lookup f = some ⟨oc, od, .func (PySem.W.fnOf "__init__" q (defArgs st) (defBody st) (defScope st) (.ref Td) kV doc pm an cdv ct), osl⟩) (c : PySem.W.codeIn K cdv q = true)
    (l2 : K.lookup Td = some ⟨oc2, od2, .seq #[.ref a0] n2, osl2⟩) (l3 : K.lookup a0 = some ⟨.type "tuple", oc3, .seq #[] n3, osl3⟩) : MtD K C q st := ⟨f, Td, a0, oc, od, kV, doc, pm, an, cdv, ct, osl, oc2, od2, n2, osl2, oc3, n3, osl3, a, n, k, l, c, l2, l3⟩
/-- C(..) with all arguments, or with the last one's default -/
theorem MtD.mk0 {h : Heap} {C : Addr} {nn : Nat} (D : MtD K C q st) (cf : ClF K c C) (X : K.In h) (G : h.Ns mainGlobals mg) (S : FnScope N ps (defScope st)) (mk : PySem.W.makesIn K C = true) (kp : PySem.W.keepIn K (.ref C) = true) (hn : nn + 1 = ps.length)
    (hb1 : ∀ (T : Addr) (kV doc pm : Value) (an : Option Addr) (cdv ct : Value) (us its : List Value), us.length = nn → its.length = 1 → ∃ k, bindArgs (PySem.W.fnOf "__init__" q (defArgs st) (defBody st) (defScope st) (.ref T) kV doc pm an cdv ct) ⟨us, []⟩ = seqItems? (.ref T) >>= k ∧ k (some its.toArray) = pure (ps.zip (us ++ its.drop 0)))
    (hb2 : ∀ (T : Addr) (kV doc pm : Value) (an : Option Addr) (cdv ct : Value) (us its : List Value), us.length = nn + 1 → its.length = 1 → ∃ k, bindArgs (PySem.W.fnOf "__init__" q (defArgs st) (defBody st) (defScope st) (.ref T) kV doc pm an cdv ct) ⟨us, []⟩ = seqItems? (.ref T) >>= k ∧ k (some its.toArray) = pure (ps.zip (us ++ its.drop 1))) :
    Mk0 P w K mg base c q st ps N [] ∧ Mk0 P w K mg base c q st ps N [.tsq []] := by
  obtain ⟨f, Td, a0, oc, od, kV, doc, pm, an, cdv, ct, osl, oc2, od2, n2, osl2, oc3, n3, osl3, a, n, kpf, l, cc, l2, l3⟩ := D
  have F : FunD K "__init__" q (defArgs st) (defBody st) (defScope st) [.ref a0] [] f (PySem.W.fnOf "__init__" q (defArgs st) (defBody st) (defScope st) (.ref Td) kV doc pm an cdv ct) :=
    ⟨⟨oc, od, .ref Td, kV, doc, pm, an, cdv, ct, osl, rfl, l, cc, .inr ⟨by simp, Td, _, [.ref a0], n2, rfl, l2, rfl, .cons rfl .nil⟩, .inl rfl⟩, kpf⟩
  have M : Mk K C f := ⟨mk, a, n, kp⟩
  obtain ⟨d1, v1, B1⟩ := F.binds1 (ps := ps) nn 0 (by simp) hn hb1
  obtain ⟨d2, v2, B2⟩ := F.binds1 (ps := ps) (nn + 1) 1 (by simp) hn hb2
  have mc := PySem.W.mg_of X G cf.m
  refine ⟨⟨C, f, _, d2, [], fun k sp => F.ok S, M, B2, ?_, mc, fun F => .nil⟩, ⟨C, f, _, d1, [.ref a0], fun k sp => F.ok S, M, B1, v1, mc, fun F => .cons (.tsq (.inr ⟨_, #[], n3, l3, rfl, rfl, by decide, .nil⟩) .nil) .nil⟩⟩
  exact v2
theorem fld_of {h : Heap} {C : Addr} {f : Str} (cf : ClF K c C) (X : K.In h) (G : h.Ns mainGlobals mg) (na : PySem.W.findIn K (.ref C) f = some none) : FldC K mg c f := ⟨C, PySem.W.mg_of X G cf.m, cf.cls, na⟩
end
end FX
end

section
set_option Elab.async false
set_option linter.all false
set_option maxRecDepth 100000
set_option maxHeartbeats 4000000
namespace FX
open PySem PySem.Spec PyProof.Rows L2
/-! ### several clauses with names (the library has them for one clause, or without names) -/
def wAsM (K : PySem.W.Frag) (i : Nat) (Wout : WX) (D : Ends) : List (Value × (Addr → Value → Option Addr → TS)) → WX
  | [] => Wout
  | (c, ts) :: r => fun cls d σ H => ∃ b, PySem.W.exmOne K cls c = some b ∧ (b = true → ∀ a, H a = none → ts a cls d { nx := fun σ' H' => D.nx (σ'.set i none) H', rt := D.rt, bk := fun σ' H' => D.bk (σ'.set i none) H', ct := fun σ' H' => D.ct (σ'.set i none) H' } (σ.set i (some (.ref a))) H) ∧ (b = false → wAsM K i Wout D r cls d σ H)
inductive HdsAs (X : Cx) (n : Str) : List ExceptHandler → List (Value × (Addr → Value → Option Addr → TS)) → Prop
  | nil : HdsAs X n [] []
  | cons {x : Str} {c : Value} {ts : Addr → Value → Option Addr → TS} {b₀ : Stmt} {suite : List Stmt} {np pos' : Pos} {hds : List ExceptHandler} {l : List (Value × (Addr → Value → Option Addr → TS))} (hc : Names X x c)
      (hsu : ∀ (a : Addr) (oe : Obj) (cls : Value) (d : Option Addr) (pn : List (Addr × Obj)), Zc cls d oe → (∃ vs, oe.data = .fields vs) → PSs (X.suite a ((a, oe) :: pn)) (b₀ :: suite) (ts a cls d)) (r : HdsAs X n hds l) :
      HdsAs X n (.ExceptHandler (some (.Name x np)) (some n) (b₀ :: suite) pos' :: hds) ((c, ts) :: l)
section
variable {X : Cx} {n : Str} {i : Nat} {body : List Stmt} {h₀ : ExceptHandler} {hds : List ExceptHandler} {l : List (Value × (Addr → Value → Option Addr → TS))} {pos : Pos} {tb : WX → TS} {Wout : WX}
theorem ps_many_as (hs : X.stack = X.env :: X.outer) (hf : X.env.frame = some X.env.locals) (hN : X.N.Nodup) (hi : X.N[i]? = some n) (hln : X.env.kindOf n = some .local) (tk : Takes X Wout)
    (hb : ∀ (W : WX) (pn : List (Addr × Obj)) (xe : Value → Shared → Prop), Takes (X.tr pn xe) W → PassesOwn (model X.prog X.w) X.A X.env xe → PSs (X.tr pn xe) body (tb W))
    (hh : HdsAs X n (h₀ :: hds) l) : PS X (.Try body (h₀ :: hds) [] [] pos) (fun D σ H => tb (wAsM X.K i Wout D l) D σ H) := by
  refine ⟨fun pn0 s σ H D I h => ?_⟩
  have ok := I.ok
  have hfr : X.A.frames = some (X.env :: X.outer) := by rw [ok.frames, hs]
  have hloc : Loc X.env.scope n := .inl hln
  refine wpAny_Try_except ?_
  refine wpAny_mono ((hb (wAsM X.K i Wout D l) (X.pn ++ pn0) (fun e s₁ => wpAny (model X.prog X.w) X.A (noteFrame e X.env) (fun _ s₂ => wpAny (model X.prog X.w) X.A (setFlight e none) (fun _ s₃ =>
    wpAny (model X.prog X.w) X.A (handleBy e X.env (h₀ :: hds)) (SP X pn0 D) X.xe s₃) X.xe s₂) X.xe s₁) (fun u s' xx => ?_) PassesOwn.looking).run [] s σ H D (I.toTry _) h) (fun f s1 hq => ?_) (fun e s1 he => he)
  · -- the catch
    obtain ⟨a, B, sI, pn0', σ', H', cls, d, rfl, J', nb, up, sky, na, os, ag, w⟩ := xx
    have J : Inv X pn0 σ' H' sI := J'.ofTry ok
    have sky' : Sky B (X.env :: X.outer) a (Zc cls d) X.env.locals s'.heap := by rw [← hs]; exact sky
    show wpAny (model X.prog X.w) X.A (noteFrame (.ref a) X.env) _ _ _
    refine Sky.land Zc.steady hfr hf sky' fun h3 sk3 u3 => ?_
    have I3 : Inv X pn0 σ' H' { s' with heap := h3 } := J.landed nb sk3.1 (up.trans u3) os ag
    obtain ⟨x3, w3, ge3, gz3, gd3⟩ := sk3.there
    have farO : ∀ {h : Heap} {o : Obj} {vs : Array Value}, h.FunFrames B (X.env :: X.outer) → h.get? a = some o → o.data = .fields vs → a ∉ frs (X.env :: X.outer) := fun {h o vs} ff e dd hm => by
      obtain ⟨_, o', e', hnf⟩ := ff.mem hm
      rw [e] at e'; cases e'
      exact hnf _ dd
    have far := farO sk3.2.2.1 ge3 gd3
    have nL : a ≠ X.env.locals := fun z => far (List.mem_filterMap.mpr ⟨X.env, List.mem_cons_self, by rw [hf, z]⟩)
    have nF : a ∉ X.fs := fun hm => by
      obtain ⟨e, he, q⟩ := List.mem_filterMap.mp hm
      exact far (List.mem_filterMap.mpr ⟨e, List.mem_cons_of_mem _ he, q⟩)
    have T3 := I3.suite ge3 gd3 na nL nF
    have go : ∀ {hds' : List ExceptHandler} {l' : List (Value × (Addr → Value → Option Addr → TS))}, HdsAs X n hds' l' → wAsM X.K i Wout D l' cls d σ' H' →
        wpAny (model X.prog X.w) X.A (handleBy (.ref a) X.env hds') (SP X pn0 D) X.xe { s' with heap := h3 } := by
      intro hds' l' hk
      induction hk with
      | nil =>
        intro w
        refine wpAny_handleBy_nil ?_
        obtain ⟨k1, k2, k3, oe, vs, T, oT, ts', he, hz, hd, h1, hr⟩ := id sk3
        unfold PySem.passOn
        refine wpAny_bind (wpAny_field he hd h1 ?_)
        rw [if_neg (show ¬ ((Value.ref T == Value.none) = true) from by simp)]
        have fin : wpAny (model X.prog X.w) X.A (setFlight (.ref a) X.env.frame) (fun _ s4 => wpAny (model X.prog X.w) X.A (throw (.ref a) : Sem Flow) (SP X pn0 D) X.xe s4) X.xe { s' with heap := h3 } := by
          rw [hf]
          refine HandSPX.setFlight_upZ sk3 fun h4 hh4 u4 => wpAny_throw (tk _ _ ?_)
          exact ⟨a, B, sI, pn0, σ', H', cls, d, rfl, J, nb, (up.trans u3).trans u4, .inr (.inr (by rw [hs]; exact hh4)), na, os, ag, w⟩
        first
          | exact wpAny_bind (wpAny_pure (wpAny_bind fin))
          | exact wpAny_bind fin
      | @cons x c ts b₀ suite np pos' hds2 l2 hc hsu r ih =>
        intro w
        obtain ⟨b, hb1, hyes, hno⟩ := w
        refine wpAny_handleBy_cons (codeAny_handlers_test ?_) (by intro q; cases q)
        have lt1 : PySem.W.Looks (model X.prog X.w) h3 (typeOf (.ref a)) cls := fun A Q E s k q => wpAny_typeOf_ref (k _ _ ge3) (by rw [gz3.1]; exact q)
        have lm1 := PySem.W.exm_one (M := model X.prog X.w) (I3.kIn) lt1 hb1
        have tst : ∀ {Q : Value → Shared → Prop} {E : Value → Shared → Prop}, Q c { s' with heap := h3 } → wpAny (model X.prog X.w) (X.A.mark (some (.ref a))) (eval (.Name x np) X.env) Q E { s' with heap := h3 } := fun {Q E} q => by
          obtain ⟨hg, hdbg, hm | ⟨hm, hv, hnn⟩⟩ := hc
          · exact ld_glob (X := X.suite a ((a, x3) :: (X.pn ++ pn0))) T3 hg hm q hdbg
          · exact ld_blt (X := X.suite a ((a, x3) :: (X.pn ++ pn0))) T3 hg hm hv q hnn hdbg
        refine tst (lm1.here ?_)
        cases b with
        | true =>
          refine codeAny_handlers_suite_as ?_
          refine HandSPX.lands_againZ sk3 fun h4 sk4 u4 => ?_
          have I4 : Inv X pn0 σ' H' { s' with heap := h4 } := J.landed nb sk4.1 ((up.trans u3).trans u4) os ag
          obtain ⟨x4, w4, ge4, gz4, gd4⟩ := sk4.there
          have T4 := I4.suite ge4 gd4 na nL nF
          refine store_ok (X := X.suite a ((a, x4) :: (X.pn ++ pn0))) (v := .ref a) T4 hN hi hloc rfl (fun s5 S5 => ?_) (.inr hln)
          refine wpAny_mono ((hsu a x4 cls d (X.pn ++ pn0) gz4 ⟨_, gd4⟩).run [] s5 _ H' _ S5 (hyes rfl a na)) (fun f s9 hq => ?_) (fun _ _ z => False.elim z)
          have fin0 : ∀ {σ9 : L2.St} {H9 : Hp} {Q : Shared → Prop}, Inv (X.suite a ((a, x4) :: (X.pn ++ pn0))) [] σ9 H9 s9 → (∀ s7, Inv X pn0 (σ9.set i none) H9 s7 → Q s7) →
              wpAny (model X.prog X.w) X.A (do bindName X.env n .none; unbindBehindTheSuite X.env n pos') (fun _ s7 => Q s7) X.xe s9 := fun {σ9 H9 Q} T9 hq => gone_ok (T9.unsuite ok) hN hi hln hq
          cases f with
          | next =>
            obtain ⟨σ9, H9, T9, q9⟩ := hq
            exact fin0 T9 fun s7 J7 => ⟨_, _, J7, q9⟩
          | brk =>
            obtain ⟨σ9, H9, T9, q9⟩ := hq
            exact fin0 T9 fun s7 J7 => ⟨_, _, J7, q9⟩
          | cont =>
            obtain ⟨σ9, H9, T9, q9⟩ := hq
            exact fin0 T9 fun s7 J7 => ⟨_, _, J7, q9⟩
          | ret u =>
            obtain ⟨v9, σ9, H9, T9, r9, q9⟩ := hq
            exact fin0 T9 fun s7 J7 => ⟨_, _, _, J7, r9, q9⟩
        | false =>
          show wpAny _ X.A (handleBy (.ref a) X.env hds2) _ _ _
          exact ih (hno rfl)
    exact go hh w
  · cases f with
    | next =>
      obtain ⟨σ', H', J', q⟩ := hq
      exact wpAny_execs_nil ⟨σ', H', J'.ofTry ok, q⟩
    | brk =>
      obtain ⟨σ', H', J', q⟩ := hq
      exact ⟨σ', H', J'.ofTry ok, q⟩
    | cont =>
      obtain ⟨σ', H', J', q⟩ := hq
      exact ⟨σ', H', J'.ofTry ok, q⟩
    | ret u =>
      obtain ⟨v, σ', H', J', r, q⟩ := hq
      exact ⟨v, σ', H', J'.ofTry ok, r, q⟩
end
end FX
end

section
set_option Elab.async false
set_option linter.all false
set_option maxRecDepth 100000
set_option maxHeartbeats 4000000
namespace FX
open PySem PySem.Spec PyProof.Rows L2 LamX
/-! ### a def that asks and catches several classes -/
/-- the clauses: class, its name, the word -/
inductive RHs (K : PySem.W.Frag) (mg : Str → Option Value) (sg : Scope) (n : Str) : List ExceptHandler → List (Addr × Str × Str) → Prop
  | nil : RHs K mg sg n [] []
  | cons {cn w : Str} {C : Addr} {j k1 : Nat} {p4 p5 p6 p7 p8 p9 p10 : Pos} {hds : List ExceptHandler} {l : List (Addr × Str × Str)} (hge : sg.names.lookup cn = some .globalImplicit) (hme : mg cn = some (.ref C)) (hde : (cn == ("__debug__" : Str)) = false) (XF : XfC K C) (hno : PySem.W.findIn K (.ref C) "value" = some none) (hex : PySem.W.exmOne K (.ref C) (.ref C) = some true)
      (hne : ∀ q ∈ l, PySem.W.exmOne K (.ref q.1) (.ref C) = some false) (r : RHs K mg sg n hds l) : RHs K mg sg n (.ExceptHandler (some (.Name cn p4)) (some n) [.Return (some (.Tuple [.Constant (.str w) j p5, .Attribute (.Name n p6) "value" p7] k1 p8)) p9] p10 :: hds) ((C, cn, w) :: l)
def tsW (C : Addr) (w : Str) (a : Addr) (cls : Value) (d : Option Addr) : TS := fun D σ H => cls = .ref C ∧ σ[1]? = some (some (.ref a)) ∧ ∃ (dd : Addr) (fs : List (Str × V)) (v : V), d = some dd ∧ H dd = some (.xd fs) ∧ fs.lookup ("value" : Str) = some v ∧ ∀ p, H p = none → D.rt (.ref p) (upd H p (.tup [.str w, v]))
def EM (K : PySem.W.Frag) (Q : VK) : List (Addr × Str × Str) → XK
  | [] => fun _ _ _ => False
  | (C, _, w) :: r => fun cls d H' => ∃ b, PySem.W.exmOne K cls (.ref C) = some b ∧ (b = true → cls = .ref C ∧ ∃ (dd : Addr) (fs : List (Str × V)) (v : V), d = some dd ∧ H' dd = some (.xd fs) ∧ fs.lookup ("value" : Str) = some v ∧ ∀ p, H' p = none → Q (.ref p) (upd H' p (.tup [.str w, v]))) ∧ (b = false → EM K Q r cls d H')
def TRefM (K : PySem.W.Frag) (cs : List (Addr × Str × Str)) (w0 : Str) : (XK → Hp → VK → Prop) → Hp → VK → Prop := fun tl H Q =>
  tl (EM K Q cs) H fun _ H' => ([V.str w0, V.non] : List V).length ≤ sizeLine ∧ ∀ p, H' p = none → Q (.ref p) (upd H' p (.tup [.str w0, .non]))
def tsL (cs : List (Addr × Str × Str)) : List (Value × (Addr → Value → Option Addr → TS)) := cs.map fun q => (Value.ref q.1, fun a cls d => tsW q.1 q.2.2 a cls d)
section
variable {X : Cx} {au : Au} {W : WX}
theorem RHs.hds {a n x : Str} {sg : Scope} {g : Addr} {cdg : Value} {A : Around} {stack : List PySem.Env} {s : Shared} {H : Hp} {P : Program} {w : World} {K : PySem.W.Frag} {mg : Str → Option Value} {base : Heap} (hln : sg.names.lookup n = some .local) (hdn : (n == ("__debug__" : Str)) = false) (hcn : (n == ("__classdict__" : Str)) = false) :
    ∀ {hds : List ExceptHandler} {l : List (Addr × Str × Str)}, RHs K mg sg n hds l → HdsAs (cxOf C8.CX0 P w K mg base [a, n] x sg g cdg A stack s H C8.E0).nox n hds (tsL l)
  | _, _, .nil => .nil
  | _, _, .cons hge hme hde XF hno hex hne r => by
    refine .cons ⟨hge, hde, .inl hme⟩ (fun a' oe cls d pn hz hf => ?_) (RHs.hds hln hdn hcn r)
    refine PSs.imp (pss_one (ps_ret (pe_tup (pa_cons pe_str (pa_cons (pe_xf XF hno hz hf (pe_var (i := 1) rfl (.inl hln) hdn hcn)) pa_nil))))) fun D σ H h => ?_
    obtain ⟨ec, hs, dd, fs, v, ed, hd, hl, k⟩ := h
    exact ⟨.ref a', hs, rfl, ec, dd, fs, v, ed, hd, hl, by show 2 ≤ sizeLine; decide, fun p hp => k p hp⟩
theorem EM.wish {K : PySem.W.Frag} {Q : VK} {D : Ends} {σ : L2.St} {cls : Value} {d : Option Addr} {H' : Hp} (hσ : σ.length = 2) (hD : ∀ v H, Q v H → D.rt v H) : ∀ {cs : List (Addr × Str × Str)}, EM K Q cs cls d H' → wAsM K 1 (fun _ _ _ _ => False) D (tsL cs) cls d σ H'
  | [], h => h
  | (C, cn, w) :: r, h => by
    obtain ⟨b, e, hy, hn⟩ := h
    refine ⟨b, e, fun hb a' _ => ?_, fun hb => EM.wish hσ hD (hn hb)⟩
    obtain ⟨ec, dd, fs, v, ed, hd, hl, k⟩ := hy hb
    exact ⟨ec, by rw [List.getElem?_set_self (by omega)], dd, fs, v, ed, hd, hl, fun p hp => hD _ _ (k p hp)⟩
theorem refM_gives {x a n w0 q : Str} {sg : Scope} {g : Addr} {cdg : Value} {j2 j3 k2 : Nat} {p1 p2 p3 p11 p12 p13 p14 p15 : Pos} {h0 : ExceptHandler} {hds : List ExceptHandler} {cs : List (Addr × Str × Str)} (hN : ([a, n] : List Str).Nodup)
    (hln : sg.names.lookup n = some .local) (hdn : (n == ("__debug__" : Str)) = false) (hcn : (n == ("__classdict__" : Str)) = false) (R : RHs X.K X.mg sg n (h0 :: hds) cs) :
    GivesTo X [a, n] x sg g cdg [.Try [.Expr (.Call (.Name a p1) [] [] p2) p3] (h0 :: hds) [] [] p11,
      .Return (some (.Tuple [.Constant (.str w0) j2 p12, .Constant .none j3 p13] k2 p14)) p15] a q (TRefM X.K cs w0) := by
  intro f c' s H Q tl act hc h
  refine ⟨_, pss_cons (ps_many_as (i := 1) (X := (cxOf C8.CX0 X.prog X.w X.K X.mg X.base [a, n] x sg g cdg X.A X.stack s H C8.E0).nox) (l := tsL cs)
      (tb := fun W D σ H => ∃ Ech : XK, (∀ cls d σ' H', σ'.length = 2 → Ech cls d H' → W cls d σ' H') ∧ σ[0]? = some (some (.ref f)) ∧ H c' = some (CodeO c' q) ∧ tl Ech H (fun _ H' => D.nx σ H'))
      rfl rfl hN rfl hln LamX.takes0 (fun W pn xe tk _ => ?_) (R.hds hln hdn hcn))
    (pss_one (ps_ret (pe_tup (pa_cons pe_str (pa_cons pe_non pa_nil))))), ?_⟩
  · refine ⟨fun pins s' σ H' D I h' => ?_⟩
    obtain ⟨Ech, hW, h1, h2, h3⟩ := h'
    have tk2 : Takes ((cxOf C8.CX0 X.prog X.w X.K X.mg X.base [a, n] x sg g cdg X.A X.stack s H C8.E0).tr pn xe) fun cls d σ' H' => σ'.length = 2 → W cls d σ' H' := fun u s'' ⟨b1, b2, b3, b4, b5, b6, b7, b8, b9, J, b10, b11, b12, b13, b14, b15, w⟩ =>
      tk u s'' ⟨b1, b2, b3, b4, b5, b6, b7, b8, b9, J, b10, b11, b12, b13, b14, b15, w J.len⟩
    exact (pss_one (ps_expr (pos := p3) (act _ pn xe Ech p1 p2 tk2 fun cls d σ' H' e l => hW cls d σ' H' l e))).run pins s' σ H' D I ⟨h1, h2, h3⟩
  · exact ⟨_, fun cls d σ' H' hl2 hE => EM.wish hl2 (fun v H h => h) hE, rfl, hc, h⟩
def fRefM (tbl : List (Str × Str)) (w0 : Str) (fb : FX.Env → R Vl) : FX.Env → R Vl := fun ρ => match fb ρ with
  | .ok _ ρ1 => .ok (.fz (.tup [.str w0, .non])) ρ1
  | .err e ρ1 => match tbl.lookup e.cls with
    | some w1 => match e.fs with
      | [(f, t)] => if f = ("value" : Str) then .ok (.fz (.tup [.str w1, t])) ρ1 else .stuck
      | _ => .stuck
    | none => .stuck
  | .stuck => .stuck
def RefDM (K : PySem.W.Frag) (mg : Str → Option Value) (x : Str) (st : Stmt) (a : Str) (n : Str) (hs : List ExceptHandler) (tbl : List (Str × Str)) : Prop :=
  ∃ (g : Addr) (dV kV doc pm cdv ct oc : Value) (an od : Option Addr) (osl : Array (Option Value)) (cs : List (Addr × Str × Str)), mg x = some (.ref g) ∧ PySem.W.keepIn K (.ref g) = true ∧ K.lookup g = some ⟨oc, od, .func (PySem.W.fnOf x x (defArgs st) (defBody st) (defScope st) dV kV doc pm an cdv ct), osl⟩ ∧ PySem.W.codeIn K cdv x = true ∧
    L2.Binds K (PySem.W.fnOf x x (defArgs st) (defBody st) (defScope st) dV kV doc pm an cdv ct) [a] [] ∧ RHs K mg (defScope st) n hs cs ∧ tbl = cs.map fun q => (q.2.1, q.2.2)
theorem RHs.em {K : PySem.W.Frag} {mg : Str → Option Value} {sg : Scope} {n : Str} {Q : VK} {cls : Str} {C : Addr} {d dx : Addr} {fs : List (Str × V)} {v : V} {H' : Hp} {w : Str} (hC : mg cls = some (.ref C)) (hd : H' dx = some (.xd fs)) (hl : fs.lookup ("value" : Str) = some v) :
    ∀ {hs : List ExceptHandler} {cs : List (Addr × Str × Str)}, RHs K mg sg n hs cs → (cs.map fun q => (q.2.1, q.2.2)).lookup cls = some w → (∀ p, H' p = none → Q (.ref p) (upd H' p (.tup [.str w, v]))) → (∃ q ∈ cs, q.1 = C) ∧ EM K Q cs (.ref C) (some dx) H'
  | _, _, .nil, e, _ => by cases e
  | _, _, .cons (cn := cn) (C := C1) (l := l) hge hme hde XF hno hex hne r, e, k => by
    simp only [List.map_cons, List.lookup_cons] at e
    by_cases z : cls = cn
    · subst z
      rw [hC] at hme
      cases hme
      simp at e
      subst e
      exact ⟨⟨_, List.mem_cons_self, rfl⟩, true, hex, fun _ => ⟨rfl, dx, fs, v, rfl, hd, hl, k⟩, fun z => by cases z⟩
    · have z' : (cls == cn) = false := by simpa using z
      rw [z'] at e
      obtain ⟨⟨q, hq, eq⟩, h⟩ := RHs.em (d := d) hC hd hl r e k
      refine ⟨⟨q, List.mem_cons_of_mem _ hq, eq⟩, false, by rw [← eq]; exact hne q hq, fun z => (by cases z), fun _ => h⟩
theorem re_refM {x a n w0 : Str} {st : Stmt} {c P : Addr} {k j2 j3 k2 : Nat} {params : Arguments} {body : Expr} {scope : Scope} {fb : FX.Env → R Vl} {tbl : List (Str × Str)} {h0 : ExceptHandler} {hds : List ExceptHandler} {p lpos pos p1 p2 p3 p11 p12 p13 p14 p15 : Pos} (D : RefDM X.K X.mg x st a n (h0 :: hds) tbl) (Sg : FnScope [a, n] [a] (defScope st))
    (hb : defBody st = [.Try [.Expr (.Call (.Name a p1) [] [] p2) p3] (h0 :: hds) [] [] p11, .Return (some (.Tuple [.Constant (.str w0) j2 p12, .Constant .none j3 p13] k2 p14)) p15])
    (hln : (defScope st).names.lookup n = some .local) (hla : (defScope st).names.lookup a = some .local) (TB : TabB X.base X.mg c P) (hcode : X.env.code = .ref c) (hmT : (P, X.env.qual ++ "<lambda>") ∈ au.tb) (hu : ∀ p ∈ au.tb, p.1 = P → p.2 = X.env.qual ++ "<lambda>")
    (hr : Room (k + 2) X.A) (L : LamS X.env.scope scope) (hbody : ∀ (A : Around) (outer : List PySem.Env) (s : Shared) (H : Hp) (E : XK) (f c' : Addr), Room k (A.deeper (lamEnv X scope s.heap.objs.size f c')) → RE (lamCx X A outer s H E scope f c') au (fun cls d _ H => E cls d H) body fb)
    (hg : Gl X x := by rfl) (hdef : defaultsOf params X.env = ([], []) := by rfl) (hbind : ∀ (q : Str) (cl : List (Str × Addr)) (pm cv ctv : Value), bindArgs (PySem.W.kla_fn "<lambda>" q params body scope cl pm cv ctv) ⟨[], []⟩ = pure [] := by intros; rfl)
    (hdx : (x == ("__debug__" : Str)) = false := by decide) (hda : (a == ("__debug__" : Str)) = false := by decide) (hca : (a == ("__classdict__" : Str)) = false := by decide) (hdn : (n == ("__debug__" : Str)) = false := by decide) (hcn : (n == ("__classdict__" : Str)) = false := by decide) :
    RE X au W (.Call (.Name x p) [.Lambda params body scope lpos] [] pos) (fRefM tbl w0 fb) := by
  obtain ⟨g, dV, kV, doc, pm, cdv, ct, oc, an, od, osl, cs, m, kp, lk, hc, bi, RH, et⟩ := D
  have hG : GivesTo X [a, n] x (defScope st) g cdv (defBody st) a (X.env.qual ++ "<lambda>") (TRefM X.K cs w0) := by
    rw [hb]
    exact refM_gives Sg.nd hln hdn hcn RH
  refine ⟨PE.imp (pe_lamK (t := fun E => tF X au (fun cls d _ H => E cls d H) (VE X) fb) hg m kp lk hc bi Sg rfl (.inl hla) hG TB hcode hmT hu hr L hdef hbind (fun A outer s H E f c' hr => (hbody A outer s H E f c' hr).pe) hdx hda hca) fun σ H Q ⟨F, ρ, S, q⟩ => ⟨S.tabs, fun H1 kept T1 => ?_⟩⟩
  have ht : au.tb ≠ [] := fun z => by rw [z] at hmT; cases hmT
  obtain ⟨ps, hP, _⟩ := S.tabs _ hmT
  obtain ⟨S1, X1⟩ := S.kpt kept hP ht T1 hmT
  refine ⟨F, ρ, S1, ?_⟩
  have q : Post X au W (VE X) ρ σ F H1 (fRefM tbl w0 fb ρ) Q := q.step early_VE X1
  unfold fRefM at q
  have tup : ∀ {F2 H2 : Hp} {ρ2 : FX.Env} (wd : Str) (v : V) (t : T), SRel X.K X.mg au ρ2 σ F2 H2 → Xtn au ρ σ F H1 ρ2 σ F2 H2 → Rep X.K X.mg F2 v t → Post X au W (VE X) ρ σ F H1 (.ok (.fz (.tup [.str wd, t])) ρ2) Q → ∀ p, H2 p = none → Q (.ref p) (upd H2 p (.tup [.str wd, v])) := by
    intro F2 H2 ρ2 wd v t S2 X2 rv q p hp
    have sF : Same F2 (upd F2 p (.tup [.str wd, v])) := same_upd (S2.sub.free hp)
    have nw : ∀ b, upd F2 p (.tup [.str wd, v]) b ≠ none → F2 b ≠ none ∨ Nh H2 b := fun b hb => by
      by_cases z : b = p
      · rw [z]; exact .inr (.inl hp)
      · rw [upd_ne z] at hb; exact .inl hb
    exact q (.ref p) (upd F2 p (.tup [.str wd, v])) (upd H2 p (.tup [.str wd, v])) (S2.new sF (same_upd hp) (same_upd2 (S2.sub.trans (same_upd hp)) upd_same) nw (nt_upd S2.nt fun _ z => by cases z)) (X2.trans (Xt.new sF (same_upd hp) nw)) (.tup upd_same (.cons (.str _) (.cons (rv.mono sF) .nil)))
  cases e : fb ρ with
  | stuck => rw [e] at q; exact q.elim
  | ok v ρ1 =>
    rw [e] at q
    exact fun y F2 H2 S2 X2 V2 => ⟨by show 2 ≤ sizeLine; decide, fun p hp => tup w0 .non .non S2 X2 .non q p hp⟩
  | err e1 ρ1 =>
    rw [e] at q
    dsimp only at q
    split at q
    · rename_i w1 ew
      split at q
      · rename_i f t efs
        split at q
        · rename_i hf
          refine fun cls d F2 H2 S2 X2 E2 => ?_
          obtain ⟨C', dx, fs, m1, c1, d1, h1, r1⟩ := E2
          rw [efs] at r1
          cases r1 with
          | @cons _ v _ _ _ rv r1 =>
            cases r1
            rw [et] at ew
            subst hf
            have := (RHs.em (Q := Q) (d := dx) (v := v) m1 h1 (by simp [List.lookup]) RH ew (tup w1 v t S2 X2 rv q)).2
            rw [c1, d1]
            exact this
        · exact q.elim
      · exact q.elim
    · exact q.elim
end
end FX
end

section
set_option Elab.async false
set_option linter.all false
set_option maxRecDepth 100000
set_option maxHeartbeats 4000000
namespace FX
open PySem PySem.Spec PyProof.Rows L2
/-! ### C() of a class without __init__; range with a step -/
/-- an own class that has no __init__ of its own -/
def New0 (K : PySem.W.Frag) (mg : Str → Option Value) (c : Str) : Prop := ∃ C : Addr, PySem.W.makesIn K C = true ∧ PySem.W.findIn K (.ref C) "__init__" = some (some (.builtin "object.__init__")) ∧ PySem.W.keepIn K (.ref C) = true ∧ mg c = some (.ref C)
section
variable {X : Cx} {au : Au} {W : WX}
theorem run_new0 {pins : List (Addr × Obj)} {σ : L2.St} {H : Hp} {s : Shared} {Q : VK} {C : Addr} (hm : PySem.W.makesIn X.K C = true) (hi : PySem.W.findIn X.K (.ref C) "__init__" = some (some (.builtin "object.__init__"))) (I : Inv X pins σ H s)
    (h : ∀ x dx, H x = none → H dx = none → dx ≠ x → Q (.ref x) (upd (upd H dx (.own x)) x (.ins C dx []))) : wpAny (model X.prog X.w) X.A (call (.ref C) []) (EP X pins σ Q) X.xe s := by
  have hq := h (s.heap.objs.size + 1) s.heap.objs.size (I.hok.fresh (Nat.le_succ _)) (I.hok.fresh (Nat.le_refl _)) (Nat.ne_of_lt (Nat.lt_succ_self _))
  have I2 := Inv.made (C := C) I
  have Y := PySem.W.makes_of (M := model X.prog X.w) I.kIn hm
  have up : ∀ b o, s.heap.get? b = some o → ((s.heap.push PySem.W.emptyDict).push (PySem.W.instObj C s.heap.objs.size)).get? b = some o := fun b o e => Heap.get?_push_of_some _ (Heap.get?_push_of_some _ e)
  have at1 : ((s.heap.push PySem.W.emptyDict).push (PySem.W.instObj C s.heap.objs.size)).get? (s.heap.objs.size + 1) = some (PySem.W.instObj C s.heap.objs.size) := by
    have z := Heap.get?_push_size (s.heap.push PySem.W.emptyDict) (o := PySem.W.instObj C s.heap.objs.size) rfl
    rwa [Heap.size_push] at z
  have ty : PySem.W.Looks (model X.prog X.w) ((s.heap.push PySem.W.emptyDict).push (PySem.W.instObj C s.heap.objs.size)) (typeOf (.ref (s.heap.objs.size + 1))) (.ref C) := (PySem.W.Looks.ld at1).andThen .now
  have ob : PySem.W.Looks (model X.prog X.w) ((s.heap.push PySem.W.emptyDict).push (PySem.W.instObj C s.heap.objs.size)) (isInstance (.ref (s.heap.objs.size + 1)) (.type "object")) true := ty.andThen (Y.top.keeps up)
  refine wpAny_call (codeAny_mono (R := fun r s' => match r with | .ok (.ret v) => EP X pins σ Q v s' | _ => False) (make_map0 (K := X.K) I.kIn hm hi (fun self => PySem.W.Looks.of_pure (PySem.W.oi_bind self)) ?_) fun r s' hr => ?_)
  · refine codeAny_call_builtin PySem.W.oi_plain PySem.W.entry_oi (@PySem.W.check_slot (model X.prog X.w) _ _ _ "object.__init__" "object" "__init__" (.ref (s.heap.objs.size + 1)) [] [] _ PySem.W.oi_kind PySem.W.oi_split ob (PySem.W.oi_args (.ref (s.heap.objs.size + 1))) ?_)
    rw [PySem.W.oi_run]
    exact wpAny_pure (And.intro rfl (show EP X pins σ Q (.ref (s.heap.objs.size + 1)) _ from ⟨V.ref (s.heap.objs.size + 1), _, I2, rfl, hq⟩))
  · match r, hr with
    | .ok (.ret v), hr => exact hr
def fNew (c : Str) : FX.Env → R Vl := fun ρ => .ok (.own (.ins c [])) ρ
theorem re_new0 {c : Str} {p pos : Pos} (M : New0 X.K X.mg c) (hg : Gl X c := by rfl) (hdb : (c == ("__debug__" : Str)) = false := by decide) : RE X au W (.Call (.Name c p) [] [] pos) (fNew c) := by
  obtain ⟨C, hm, hi, kp, mC⟩ := M
  refine ⟨⟨fun pins s σ H Q I ⟨F, ρ, S, q⟩ => ?_⟩⟩
  refine wpAny_Call_Name_kw (ld_glob I hg mC ?_ hdb)
  refine PySem.W.callWith_K0 I.kIn kp (run_new0 hm hi I fun x dx nx ndx ne => ?_)
  have hF : F x = none := S.sub.free nx
  have hH : Same H (upd (upd H dx (.own x)) x (.ins C dx [])) := fun b o h => by
    rw [upd_ne (ne_of_none h nx), upd_ne (ne_of_none h ndx)]; exact h
  have nw : ∀ b, F b ≠ none → F b ≠ none ∨ Nh H b := fun b h => .inl h
  have q : ∀ y F' H', SRel X.K X.mg au ρ σ F' H' → Xtn au ρ σ F H ρ σ F' H' → VRel X.K X.mg ρ σ F' H' H y (.own (.ins c [])) → Q y H' := q
  refine q (.ref x) F _ (S.new (.refl _) hH (S.sub.trans hH) nw S.nt) (Xt.new (.refl _) hH nw) ⟨x, rfl, hF, .ins mC upd_same .nil, nx, fun ⟨j, k2, t2, h1, h2⟩ => ?_⟩
  obtain ⟨b, eb, _, ob, _⟩ := S.ow h1
  rw [h2] at eb; cases eb
  obtain ⟨o, ho, _⟩ := ob.there
  rw [nx] at ho; cases ho
theorem wk_rangeC {F H : Hp} {lo c : Int} {n : Nat} : Wk X.K X.mg (Itc lo c n) F H ((List.range n).map fun i => .int (lo + (i : Nat) * c)) := by
  have hl : ((List.range n).map fun i : Nat => T.int (lo + (i : Nat) * c)).length = n := by simp
  refine ⟨fun _ => True, _, by rw [hl]; exact walk_rangeC, fun _ _ _ _ => trivial, fun i H1 x H2 F1 t ht s1 s2 y => ?_⟩
  obtain ⟨e, hx⟩ := y
  subst e hx
  have et : t = .int (lo + (i : Nat) * c) := by
    rw [List.getElem?_map] at ht
    cases q : (List.range n)[i]? with
    | none => rw [q] at ht; cases ht
    | some j =>
      rw [q] at ht
      have : j = i := by
        obtain ⟨h1, h2⟩ := List.getElem?_eq_some_iff.mp q
        simpa using h2.symm
      subst this
      exact (Option.some.inj ht).symm
  subst et
  exact ⟨F1, .refl _, .refl _, s2, fun _ h => .inl h, .int _⟩
def okR3 (i j c : Int) : Bool := decide (c ≠ 0) && decide (c.natAbs < 1073741824) && Builtin.Range.small i j c && decide (0 ≤ Builtin.Range.rangeSize i j c)
def range3T (i j c : Int) : List T := (List.range (Builtin.Range.rangeSize i j c).toNat).map fun k => .int (i + (k : Nat) * c)
def fRange3 (fa : FX.Env → R (List Vl)) : FX.Env → R (List T) := fun ρ => (fa ρ).bind fun vs ρ1 => match vs with
  | [.fz (.int i), .fz (.int j), .fz (.int c)] => if okR3 i j c = true then .ok (range3T i j c) ρ1 else .stuck
  | _ => .stuck
theorem ri_range3 {tg a b c : Expr} {fa : FX.Env → R (List Vl)} {p pos : Pos} (hm : X.mg "range" = none) (ha : RA X au W [a, b, c] fa) (hg : Gl X "range" := by rfl) (hs : starEach [a, b, c] X.env = (false, eval a X.env) :: starEach [b, c] X.env := by rfl) (hpl : (backTo pos (starEach [b, c] X.env)).any (·.1) = false := by rfl) :
    RI X au W tg (.Call (.Name "range" p) [a, b, c] [] pos) (fRange3 fa) := by
  refine ⟨PI.imp (pi_range3 hg hm ha.pa hs hpl) fun σ H R ⟨F, ρ, S, h⟩ => ⟨F, ρ, S, Post.bind early_VW h fun xs vs ρ1 F1 H1 e S1 X1 V1 h1 => ?_⟩⟩
  split at h1
  · rename_i i j c
    split at h1
    · rename_i ok
      simp only [okR3, Bool.and_eq_true, decide_eq_true_eq] at ok
      obtain ⟨⟨⟨k0, k1⟩, k2⟩, k3⟩ := ok
      match xs, V1 with
      | [x, y, z], V1 =>
        cases (show Rep X.K X.mg F1 x (.int i) from V1.1)
        cases (show Rep X.K X.mg F1 y (.int j) from V1.2.1)
        cases (show Rep X.K X.mg F1 z (.int c) from V1.2.2.1)
        exact ⟨i, j, c, (Builtin.Range.rangeSize i j c).toNat, rfl, ⟨k0, k1, k2, by omega⟩, h1 _ F1 H1 S1 (Xt.refl _ _ _ _) wk_rangeC⟩
    · exact h1.elim
  · exact h1.elim
end
end FX
end

section
set_option Elab.async false
set_option linter.all false
set_option maxRecDepth 100000
set_option maxHeartbeats 4000000
namespace FX
open PySem PySem.Spec PyProof.Rows L2
/-! ### o.m(..), o of one of several classes -/
def fDisp (m : Str) (tbl : List (Str × (List T → Rp))) (fo : FX.Env → R Vl) (fa : FX.Env → R (List Vl)) : FX.Env → R Vl := fun ρ => (fo ρ).norm.bind fun v ρ1 => match look ρ1 v with
  | some (.ins c' fs) => match tbl.lookup c' with
    | some g => if fs.lookup m = none then (fa ρ1).bind fun vs ρ2 => (match escs (v :: vs) ρ2 with
      | some (t :: ts, ρ3) => (g (t :: ts)).r ρ3
      | _ => .stuck) else .stuck
    | none => .stuck
  | _ => .stuck
section
variable {X : Cx} {au : Au} {W : WX}
inductive REs (X : Cx) (au : Au) (W : WX) (e : Expr) (m : Str) (fo : FX.Env → R Vl) (fa : FX.Env → R (List Vl)) : List (Str × (List T → Rp)) → Prop
  | nil : REs X au W e m fo fa []
  | cons {c : Str} {g : List T → Rp} {l : List (Str × (List T → Rp))} (h : RE X au W e (fMeth c m g fo fa)) (r : REs X au W e m fo fa l) : REs X au W e m fo fa ((c, g) :: l)
theorem REs.get {e : Expr} {m : Str} {fo : FX.Env → R Vl} {fa : FX.Env → R (List Vl)} {c : Str} {g : List T → Rp} : ∀ {l : List (Str × (List T → Rp))}, REs X au W e m fo fa l → l.lookup c = some g → RE X au W e (fMeth c m g fo fa)
  | _, .nil, h => by cases h
  | _, .cons (c := c1) h r, q => by
    simp only [List.lookup_cons] at q
    by_cases z : c = c1
    · subst z
      simp at q; subst q; exact h
    · have z' : (c == c1) = false := by simpa using z
      rw [z'] at q
      exact r.get q
theorem re_disp {e : Expr} {m : Str} {fo : FX.Env → R Vl} {fa : FX.Env → R (List Vl)} {tbl : List (Str × (List T → Rp))} (h : REs X au W e m fo fa tbl) (ne : tbl ≠ [] := by simp) : RE X au W e (fDisp m tbl fo fa) := by
  refine ⟨⟨fun pins s σ H Q I ⟨F, ρ, S, q⟩ => ?_⟩⟩
  unfold fDisp at q
  cases e1 : (fo ρ).norm with
  | stuck => rw [e1] at q; exact q.elim
  | err x ρ1 =>
    rw [e1] at q
    cases tbl with
    | nil => exact absurd rfl ne
    | cons p l =>
      cases h with
      | cons h r =>
        refine h.pe.run pins s σ H Q I ⟨F, ρ, S, ?_⟩
        unfold fMeth
        rw [e1]
        exact q
  | ok v ρ1 =>
    rw [e1] at q
    have q : Post X au W (VE X) ρ σ F H (match look ρ1 v with
      | some (.ins c' fs) => (match tbl.lookup c' with
        | some g => if fs.lookup m = none then (fa ρ1).bind fun vs ρ2 => (match escs (v :: vs) ρ2 with
          | some (t :: ts, ρ3) => (g (t :: ts)).r ρ3
          | _ => .stuck) else .stuck
        | none => .stuck)
      | _ => .stuck) Q := q
    split at q
    · rename_i c' fs e2
      split at q
      · rename_i g e3
        refine (h.get e3).pe.run pins s σ H Q I ⟨F, ρ, S, ?_⟩
        unfold fMeth
        rw [e1]
        show Post X au W (VE X) ρ σ F H (match look ρ1 v with
          | some (.ins c'' fs) => if c'' = c' ∧ fs.lookup m = none then (fa ρ1).bind fun vs ρ2 => (match escs (v :: vs) ρ2 with
            | some (t :: ts, ρ3) => (g (t :: ts)).r ρ3
            | _ => .stuck) else .stuck
          | _ => .stuck) Q
        rw [e2]
        dsimp only
        split at q
        · rename_i hl; rw [if_pos ⟨rfl, hl⟩]; exact q
        · exact q.elim
      · exact q.elim
    · exact q.elim
end
end FX
end

section
set_option Elab.async false
set_option linter.all false
set_option maxRecDepth 100000
set_option maxHeartbeats 4000000
namespace FX
open PySem PySem.Spec PyProof.Rows L2
/-! ### list(d), sorted(d) of a dict -/
def tupT (k : List Key) : T := .tup (k.map keyT)
def bListD : List T → Option Nv
  | [.dT kvs] => some (.own (.lst (kvs.map fun p => tupT p.1)))
  | [.dK kvs] => some (.own (.lst (kvs.map fun p => keyT p.1)))
  | _ => none
def rListT : List V → Hp → VK → Prop := fun xs H Q => ∃ d kvs, xs = [V.ref d] ∧ Rd H d (.dT kvs) ∧ ∀ p bs, H p = none → IsKeys H kvs bs → Q (.ref p) (upd H p (.lst (bs.map V.ref)))
def rListK : List V → Hp → VK → Prop := fun xs H Q => ∃ (a : Addr) (kvs : List (Key × V)), xs = [.ref a] ∧ Rd H a (.dK kvs) ∧ ∀ p, H p = none → Q (.ref p) (upd H p (.lst (kvs.map fun kv => kV kv.1)))
section
variable {X : Cx} {au : Au} {W : WX}
theorem rep_key {F : Hp} (k : Key) : Rep X.K X.mg F (kV k) (keyT k) := by
  cases k with
  | inl i => exact .int i
  | inr x => exact .str x
theorem reps_keys {F : Hp} : ∀ ks : List Key, Reps X.K X.mg F (ks.map kV) (ks.map keyT)
  | [] => .nil
  | k :: ks => .cons (rep_key k) (reps_keys ks)
theorem reps_ks {F0 F : Hp} : ∀ {kvs : List (Key × V)} {ts : List (Key × T)}, RepK X.K X.mg F0 kvs ts → Reps X.K X.mg F (kvs.map fun kv => kV kv.1) (ts.map fun p => keyT p.1)
  | _, _, .nil => .nil
  | _, _, .cons h r => .cons (rep_key _) (reps_ks r)
/-- the still heap and the keys' tuples -/
def plusK (F H : Hp) (bs : List Addr) : Hp := fun b => match F b with
  | some o => some o
  | none => if b ∈ bs then H b else none
theorem isKeys_mem {H : Hp} : ∀ {kvs : List (List Key × V)} {bs : List Addr}, IsKeys H kvs bs → ∀ b ∈ bs, ∃ k : List Key, H b = some (.tup (k.map kV))
  | _, _, .nil, b, h => by cases h
  | (k, _) :: _, _, .cons h r, b, hb => by
    rcases List.mem_cons.mp hb with z | z
    · subst z; exact ⟨_, h⟩
    · exact isKeys_mem r b z
theorem reps_tups {H F' : Hp} {ts : List (List Key × T)} {F0 : Hp} : ∀ {kvs : List (List Key × V)} {ts : List (List Key × T)} {bs : List Addr}, RepT X.K X.mg F0 kvs ts → IsKeys H kvs bs → (∀ b ∈ bs, F' b = H b) → Reps X.K X.mg F' (bs.map V.ref) (ts.map fun p => tupT p.1)
  | _, _, _, .nil, .nil, _ => .nil
  | _, _, _, .cons (k := k) h r, .cons hk rk, hb => .cons (.tup ((hb _ List.mem_cons_self).trans hk) (reps_keys k)) (reps_tups (ts := []) r rk fun b q => hb b (List.mem_cons_of_mem _ q))
theorem ca_listD : Ca X (fun xs H Q => rListT xs H Q ∨ rListK xs H Q) bListD := by
  intro F H xs ts Q s rs q
  cases rs with
  | nil => exact q.elim
  | @cons v t vs ts h r =>
    cases r with
    | cons _ _ => cases t <;> exact q.elim
    | nil =>
      cases h with
      | @dK a kvs ts h r =>
        exact .inr ⟨_, _, rfl, h, fun p hp => q.made s hp (.lst upd_same (reps_ks r))⟩
      | @dT a kvs ts h r =>
        refine .inl ⟨_, _, rfl, h, fun p bs hp hk => ?_⟩
        have mem := isKeys_mem hk
        have onH : ∀ b o, plusK F H bs b = some o → H b = some o := fun b o e => by
          unfold plusK at e
          split at e
          · rename_i o' e'; cases e; exact s _ _ e'
          · split at e
            · exact e
            · cases e
        have at1 : ∀ b ∈ bs, plusK F H bs b = H b := fun b hb => by
          unfold plusK
          split
          · rename_i o' e'; exact (s _ _ e').symm
          · rw [if_pos hb]
        have same : Same F (plusK F H bs) := fun b o e => by unfold plusK; rw [e]
        have hp' : plusK F H bs p = none := by
          cases e : plusK F H bs p with
          | none => rfl
          | some o => have := onH p o e; rw [hp] at this; cases this
        refine (show ∀ p F' H', Same F F' → Same H H' → Same F' H' → (∀ b, F' b ≠ none → F b ≠ none ∨ Nh H b) → H p = none → F' p = none → OwnAt X.K X.mg F' H' p _ → Q (.ref p) H' from q) p (plusK F H bs) _ same (same_upd hp) (fun b o e => ?_) (fun b hb => ?_) hp hp' (.lst upd_same (reps_tups (ts := []) r hk at1))
        · rw [upd_ne (ne_of_none (onH b o e) hp)]; exact onH b o e
        · by_cases e : F b = none
          · right; right
            by_cases hm : b ∈ bs
            · obtain ⟨k, hk⟩ := mem b hm; exact ⟨_, hk⟩
            · exact absurd (by unfold plusK; rw [e]; exact if_neg hm) hb
          · exact .inl e
      | _ => exact q.elim
def orN (g g' : List T → Option Nv) : List T → Option Nv := fun ts => match g ts with
  | some v => some v
  | none => g' ts
theorem call_listA (hc : X.calm = true) : CallR X (.type "list") (fun xs H Q => (∃ p ys, xs = [.ref p] ∧ (SqL X.K H p ys ∨ SqT X.K H p ys) ∧ ∀ l, H l = none → Q (.ref l) (upd H l (.lst ys))) ∨ rListT xs H Q ∨ rListK xs H Q) :=
  call_list_of.or ((call_list_dT hc).or (call_listD hc))
abbrev bListA := orN bList bListD
theorem ca_listA : Ca X (fun xs H Q => (∃ p ys, xs = [.ref p] ∧ (SqL X.K H p ys ∨ SqT X.K H p ys) ∧ ∀ l, H l = none → Q (.ref l) (upd H l (.lst ys))) ∨ rListT xs H Q ∨ rListK xs H Q) bListA := ca_list.or ca_listD
/-! sorted -/
def keysI : List (Key × T) → Option (List Int)
  | [] => some []
  | (.inl i, _) :: r => (keysI r).map (i :: ·)
  | _ => none
def sortI (ks : List Int) : List Int := ks.mergeSort fun a b => decide (a ≤ b)
def bSortedK : List T → Option Nv
  | [.dK kvs] => match keysI kvs with
    | some ks => if ks.length < 64 then some (.own (.lst ((sortI ks).map T.int))) else none
    | none => none
  | _ => none
def rSortK : List V → Hp → VK → Prop := fun xs H Q => ∃ (a : Addr) (kvs : List (Key × V)) (ks : List Int), xs = [.ref a] ∧ Rd H a (.dK kvs) ∧ kvs.map (·.1) = ks.map Sum.inl ∧ ks.length < 64 ∧
    ∀ (ys : List Int) (p : Addr), ys.Perm ks → ys.Pairwise (· ≤ ·) → H p = none → Q (.ref p) (upd H p (.lst (ys.map V.int)))
theorem keysI_of {F : Hp} : ∀ {kvs : List (Key × V)} {ts : List (Key × T)} {ks : List Int}, RepK X.K X.mg F kvs ts → keysI ts = some ks → kvs.map (·.1) = ks.map Sum.inl
  | _, _, _, .nil, e => by cases e; rfl
  | _, _, _, .cons (k := k) h r, e => by
    cases k with
    | inr x => cases e
    | inl i =>
      simp only [keysI, Option.map_eq_some_iff] at e
      obtain ⟨ks, e1, rfl⟩ := e
      simp [keysI_of r e1]
theorem sortI_eq {ys ks : List Int} (h : ys.Perm ks) (p : ys.Pairwise (· ≤ ·)) : ys = sortI ks := by
  refine List.Perm.eq_of_pairwise (le := fun a b : Int => a ≤ b) (fun a b _ _ h1 h2 => Int.le_antisymm h1 h2) p ?_ (h.trans (List.mergeSort_perm _ _).symm)
  have := List.pairwise_mergeSort (le := fun a b : Int => decide (a ≤ b)) (fun a b c h1 h2 => by simp only [decide_eq_true_eq] at *; omega) (fun a b => by simp only [Bool.or_eq_true, decide_eq_true_eq]; omega) ks
  exact this.imp fun h => by simpa using h
theorem ca_sortedK : Ca X rSortK bSortedK := by
  intro F H xs ts Q s rs q
  cases rs with
  | nil => exact q.elim
  | @cons v t vs ts h r =>
    cases r with
    | cons _ _ => cases t <;> exact q.elim
    | nil =>
      cases h with
      | @dK a kvs ts h r =>
        simp only [bSortedK] at q
        split at q
        · rename_i ks e
          split at q
          · rename_i hl
            refine ⟨_, _, ks, rfl, h, keysI_of r e, hl, fun ys p hy hp hn => ?_⟩
            rw [sortI_eq hy hp]
            exact q.made s hn (.lst upd_same (reps_ints _))
          · exact q.elim
        · exact q.elim
      | _ => exact q.elim
abbrev bSortedA := orN bSorted bSortedK
theorem cr_sortedA {k : Nat} (hr : Room k X.A) (hc : X.calm = true) : CallR X (.builtin "sorted") (fun xs H Q => rSortedD X.K xs H Q ∨ rSortK xs H Q) := (cr_sortedD hr).or (call_sortedDI hc)
theorem ca_sortedA : Ca X (fun xs H Q => rSortedD X.K xs H Q ∨ rSortK xs H Q) bSortedA := ca_sorted.or ca_sortedK
end
end FX
end

section
set_option Elab.async false
set_option linter.all false
set_option maxRecDepth 100000
set_option maxHeartbeats 4000000
namespace FX
open PySem PySem.Spec PyProof.Rows L2
/-! ### self.f = [] and behind it: for x in ..: self.f.extend(e) -/
section
variable {K : PySem.W.Frag} {mg : Str → Option Value} {au : Au} {ρ : FX.Env} {σ : L2.St} {F F' H H' : Hp}
theorem Xt.updT {lam : Prop} {A A' : Addr → Prop} {D : Addr} {o' : HO} (x : Xt lam A F H A' F' H') (h : H D = none ∨ A D) : Xt lam A F H A' F' (upd H' D o') where
  ff := x.ff
  hh := fun b o h1 h2 h3 => by
    rw [upd_ne (fun z => by
      rcases h with h | h
      · rw [z, h] at h1; cases h1
      · exact h3 (by rw [z]; exact h))]
    exact x.hh b o h1 h2 h3
  nn := fun b hb => by
    by_cases z : b = D
    · subst z; rw [upd_same] at hb; cases hb
    · rw [upd_ne z] at hb; exact x.nn b hb
  fn := x.fn
  ow := x.ow
  tp := fun b vs hb => by
    by_cases z : b = D
    · subst z; exact h.elim (fun h => .inl (.inl h)) .inr
    · rw [upd_ne z] at hb; exact x.tp b vs hb
/-- a slot is forgotten -/
theorem SRel.drop (S : SRel K mg au ρ σ F H) (i : Nat) : SRel K mg au (ρ.set i .un) σ F H ∧ (∀ b, OwnA (ρ.set i .un) σ b → OwnA ρ σ b) ∧ ∀ k t a, ρ[i]? = some (.own k t) → σ[i]? = some (some (.ref a)) → ¬ OwnA (ρ.set i .un) σ a := by
  have g : ∀ {j : Nat} {x : Sl}, (ρ.set i .un)[j]? = some x → x = .un ∨ (j ≠ i ∧ ρ[j]? = some x) := by
    intro j x h
    rcases set_get h with ⟨_, e⟩ | ⟨ne, h⟩
    · exact .inl e
    · exact .inr ⟨ne, h⟩
  refine ⟨⟨S.sub, S.nw, S.tabs, by rw [List.length_set]; exact S.len, fun {j t} h => ?_, fun {j k t} h => ?_, fun h1 h2 e1 e2 => ?_, S.nt⟩, fun b ⟨j, k, t, h1, h2⟩ => ?_, fun k t a h1 h2 ⟨j, k', t', h3, h4⟩ => ?_⟩
  · rcases g h with e | ⟨_, e⟩
    · cases e
    · exact S.fz e
  · rcases g h with e | ⟨_, e⟩
    · cases e
    · exact S.ow e
  · rcases g h1 with e | ⟨_, a1⟩
    · cases e
    · rcases g h2 with e | ⟨_, a2⟩
      · cases e
      · exact S.ds a1 a2 e1 e2
  · rcases g h1 with e | ⟨_, a1⟩
    · cases e
    · exact ⟨j, k, t, a1, h2⟩
  · rcases g h3 with e | ⟨ne, a1⟩
    · cases e
    · exact ne (S.ds a1 h1 h4 h2)
/-- and known again -/
theorem SRel.regain (S : SRel K mg au ρ σ F H) {p : Addr} {t : T} {id : Option Nat} {i : Nat} (e : σ[i]? = some (some (.ref p))) (n : F p = none) (o : OwnAt K mg F H p t) (da : OwnId au id p) (no : ¬ OwnA ρ σ p) :
    SRel K mg au (ρ.set i (.own id t)) σ F H ∧ ∀ b, OwnA (ρ.set i (.own id t)) σ b → OwnA ρ σ b ∨ b = p := by
  have ow : ∀ {j : Nat} {k : Option Nat} {t' : T} {a : Addr}, (ρ.set i (.own id t))[j]? = some (.own k t') → σ[j]? = some (some (.ref a)) → (j = i ∧ a = p) ∨ (j ≠ i ∧ ρ[j]? = some (.own k t') ∧ σ[j]? = some (some (.ref a))) := by
    intro j k t' a h1 h2
    rcases set_get h1 with ⟨z, _⟩ | ⟨ne, h1⟩
    · rw [z, e] at h2; cases h2; exact .inl ⟨z, rfl⟩
    · exact .inr ⟨ne, h1, h2⟩
  refine ⟨⟨S.sub, S.nw, S.tabs, by rw [List.length_set]; exact S.len, fun {j t'} hj => ?_, fun {j k t'} hj => ?_, fun h1 h2 e1 e2 => ?_, S.nt⟩, fun b ⟨j, k, t', h1, h2⟩ => ?_⟩
  · rcases set_get hj with ⟨q, z⟩ | ⟨ne, hj⟩
    · cases z
    · exact S.fz hj
  · rcases set_get hj with ⟨q, z⟩ | ⟨ne, hj⟩
    · cases z
      exact ⟨p, by rw [q]; exact e, n, o, da⟩
    · exact S.ow hj
  · rcases ow h1 e1 with ⟨a1, b1⟩ | ⟨a1, b1, c1⟩
    · rcases ow h2 e2 with ⟨a2, b2⟩ | ⟨a2, b2, c2⟩
      · rw [a1, a2]
      · exact absurd ⟨_, _, _, b2, by rw [c2, b1]⟩ no
    · rcases ow h2 e2 with ⟨a2, b2⟩ | ⟨a2, b2, c2⟩
      · exact absurd ⟨_, _, _, b1, by rw [c1, b2]⟩ no
      · exact S.ds b1 b2 c1 c2
  · rcases ow h1 h2 with ⟨_, b1⟩ | ⟨_, b1, c1⟩
    · exact .inr b1
    · exact .inl ⟨_, _, _, b1, c1⟩
end
def extL (b : T → FX.Env → Option FX.Env) (fa : FX.Env → R (List Vl)) : List T → List T → FX.Env → R (List T)
  | [], acc, ρ => .ok acc ρ
  | t :: ts, acc, ρ => match b t ρ with
    | none => .stuck
    | some ρ1 => match fa ρ1 with
      | .ok vs ρ2 => match escs vs ρ2 with
        | some ([.lst us], ρ3) => if acc.length + us.length ≤ 1000000 then extL b fa ts (acc ++ us) ρ3 else .stuck
        | _ => .stuck
      | .err e ρ2 => .err e ρ2
      | .stuck => .stuck
def gExt (c f : Str) (i : Nat) (fi : FX.Env → R (List T)) (b : T → FX.Env → Option FX.Env) (fa : FX.Env → R (List Vl)) : FX.Env → O := fun ρ => match ownT ρ i with
  | some (id, .ins c' fs) => if c' = c ∧ fs.length < 1000 then (fi (ρ.set i .un)).o fun ts ρ1 => (extL b fa ts [] ρ1).o fun acc ρ2 => .nx (ρ2.set i (.own id (.ins c' (putFT f (.lst acc) fs)))) else .stuck
  | _ => .stuck
theorem putF_look {f : Str} {y : V} : ∀ {vs : List (Str × V)}, (putF f y vs).lookup f = some y
  | [] => by simp [putF, List.lookup]
  | (g, x) :: r => by
    simp only [putF]
    split
    · rename_i h; simp [List.lookup, h]
    · rename_i h
      have h' : (f == g) = false := by simpa using fun z => h z.symm
      simp only [List.lookup, h']
      exact putF_look
section
variable {X : Cx} {au : Au} {W : WX}
theorem ext_core {c f : Str} {i : Nat} {C : Addr} {ws : List Nat} {fi : FX.Env → R (List T)} {b : T → FX.Env → Option FX.Env} {fa : FX.Env → R (List Vl)} (hi : i ∉ ws) (mC : X.mg c = some (.ref C)) (cl : Cls X.K C) (na : NoAttr X.K C f) {D : Ends} {σ : L2.St} {H : Hp} (q : tS X au W (gExt c f i fi b fa) D σ H) :
    sFld X.K (tVar i) (tF X au W (VE X) (fLst fANil)) f { D with nx := tFor (tF X au W (VW X) fi) (tgR X au ws b) (tDrop (tBM X.K "list" rExtend (tFld X.K (tVar i) f) (tF X au W (VA X) fa))) D } σ H := by
  obtain ⟨F, ρ, S, q⟩ := q
  unfold gExt at q
  split at q
  · rename_i id c' fs eo
    split at q
    · rename_i hc
      obtain ⟨ec, hl⟩ := hc
      subst ec
      have eg := ownT_get eo
      obtain ⟨a, ea, naa, oa, da⟩ := S.ow eg
      refine ⟨F, ρ, S, fun y F1 H1 S1 X1 V1 => ?_⟩
      obtain ⟨Dd, rfl, fD, oD, hD0, nD⟩ := (show VRel X.K X.mg ρ σ F1 H1 H y (.own (.lst [])) from V1)
      obtain ⟨a1, ea1, naa1, oa1, _⟩ := S1.ow eg
      rw [ea] at ea1; cases ea1
      refine ⟨.ref a, ea, ?_⟩
      cases oa1 with
      | @ins _ C' dx fsV _ hc' hH rf =>
        rw [mC] at hc'; cases hc'
        refine ⟨a, C, dx, fsV, rfl, hH, cl, na, by rw [rf.len]; exact hl, ?_⟩
        obtain ⟨Sd, Od, Nd⟩ := S1.drop i
        have noA := Nd id _ a eg ea
        have noD : ¬ OwnA (ρ.set i .un) σ Dd := fun z => nD (Od _ z)
        have hDa : Dd ≠ a := fun z => nD (by rw [z]; exact ⟨_, _, _, eg, ea⟩)
        cases oD with
        | @lst vs0 _ hDl r0 =>
          cases r0
          have ownA : OwnA ρ σ a := ⟨_, _, _, eg, ea⟩
          have S2 := Sd.tmp (o' := .ins C dx (putF f (.ref Dd) fsV)) naa1 noA hH (fun ps z => by cases z) (fun φ z => by cases z)
          have X2 : Xtn au ρ σ F H (ρ.set i .un) σ F1 (upd H1 a (.ins C dx (putF f (.ref Dd) fsV))) := (X1.imp Od).updT (.inr ownA)
          refine ⟨F1, ρ.set i .un, S2, PostS.eval (q.step X2) fun J ts ρ1 F2 H2 e S3 X3 V3 h3 => ?_⟩
          obtain ⟨G, Y, wk, hG, hY⟩ := V3
          have h4 : PostS X au W ρ σ F H ((extL b fa ts [] ρ1).o fun acc ρ2 => .nx (ρ2.set i (.own id (.ins c' (putFT f (.lst acc) fs))))) D := by
            rw [e] at q; exact q
          have keep : ∀ {ρx ρy : FX.Env} {σx : L2.St} {Fx Hx Fy Hy : Hp} {d : Addr} {o : HO}, Xtn au ρx σx Fx Hx ρy σx Fy Hy → Hx d = some o → (∀ ps, o ≠ .tbl ps) → (∀ vs, o ≠ .tup vs) → Fx d = none → ¬ OwnA ρx σx d → Hy d = some o ∧ Fy d = none ∧ ¬ OwnA ρy σx d := by
            intro ρx ρy σx Fx Hx Fy Hy d o Xx hx n1 n2 fx nx
            refine ⟨Xx.hh d o hx (fun _ => n1) nx, ?_, fun z => ?_⟩
            · cases w : Fy d with
              | none => rfl
              | some u =>
                rcases Xx.fn d (by rw [w]; simp) with z | z | z
                · exact absurd fx z
                · exact absurd z (nh_no hx n2)
                · exact absurd z nx
            · rcases Xx.ow d z with z | z
              · exact nx z
              · rw [hx] at z; cases z
          have ha2 : upd H1 a (.ins C dx (putF f (.ref Dd) fsV)) a = some (.ins C dx (putF f (.ref Dd) fsV)) := upd_same
          have hd2 : upd H1 a (.ins C dx (putF f (.ref Dd) fsV)) Dd = some (.lst []) := by rw [upd_ne hDa]; exact hDl
          obtain ⟨k1, k2, k3⟩ := keep X3 ha2 (fun ps z => by cases z) (fun vs z => by cases z) naa1 noA
          obtain ⟨k4, k5, k6⟩ := keep X3 hd2 (fun ps z => by cases z) (fun vs z => by cases z) fD noD
          refine for_it (D := D) (tb := tDrop (tBM X.K "list" rExtend (tFld X.K (tVar i) f) (tF X au W (VA X) fa))) (g := tgR X au ws b) wk (fun n σ' H' => ∃ F' ρ' accV acc, SRel X.K X.mg au ρ' σ' F' H' ∧ Xtn au ρ σ F H ρ' σ' F' H' ∧ Same F2 F' ∧ σ'[i]? = some (some (.ref a)) ∧
              H' a = some (.ins C dx (putF f (.ref Dd) fsV)) ∧ F' a = none ∧ ¬ OwnA ρ' σ' a ∧ H' Dd = some (.lst accV) ∧ F' Dd = none ∧ ¬ OwnA ρ' σ' Dd ∧ Reps X.K X.mg F' accV acc ∧ RepF X.K X.mg F' fsV fs ∧
              PostS X au W ρ σ F H ((extL b fa (ts.drop n) acc ρ').o fun acc ρ2 => .nx (ρ2.set i (.own id (.ins c' (putFT f (.lst acc) fs))))) D)
            ⟨F2, ρ1, [], [], S3, X2.trans X3, .refl _, ea, k1, k2, k3, k4, k5, k6, .nil, rf.mono X3.ff, by simpa using h4⟩ (fun n σ' H' _ ⟨F', ρ', _, _, S', _, s, _⟩ => hG F' H' s S'.sub) ?_ ?_
          · rintro n x σ' H' H3 hn ⟨F', ρ', accV, acc, S', X', s', eσ, j1, j2, j3, j4, j5, j6, rA, rF, h'⟩ y
            have ht : ts[n]? = some ts[n] := by simp [hn]
            obtain ⟨F0, s1, s2, s3, nw, r⟩ := hY n H' x H3 F' ts[n] ht s' S'.sub y
            obtain ⟨F3, Cl⟩ := clean (K := X.K) (mg := X.mg) S'.nt s1 s3 nw
            have S4 := S'.new Cl.s s2 Cl.s3 Cl.nw Cl.nt
            have X4 : Xtn au ρ' σ' F' H' ρ' σ' F3 H3 := Xt.new Cl.s s2 Cl.nw
            obtain ⟨l1, l2, l3⟩ := keep X4 j1 (fun ps z => by cases z) (fun vs z => by cases z) j2 j3
            obtain ⟨l4, l5, l6⟩ := keep X4 j4 (fun ps z => by cases z) (fun vs z => by cases z) j5 j6
            rw [List.drop_eq_getElem_cons hn] at h'
            simp only [extL] at h'
            cases eb : b ts[n] ρ' with
            | none => rw [eb] at h'; exact h'.elim
            | some ρ3 =>
              rw [eb] at h'
              dsimp only at h'
              refine ⟨F3, ρ', ts[n], ρ3, S4, Cl.rep r, eb, fun σ3 S5 o5 kσ lσ => ?_⟩
              have eσ3 : σ3[i]? = some (some (.ref a)) := by rw [kσ i hi]; exact eσ
              have X5 : Xtn au ρ σ F H ρ3 σ3 F3 H3 := (X'.trans X4).imp o5
              refine ⟨.ref a, eσ3, a, C, dx, putF f (.ref Dd) fsV, .ref Dd, rfl, l1, cl, na, putF_look, .inl ⟨rfl, _, .of l4⟩, F3, ρ3, S5, ?_⟩
              cases ee : fa ρ3 with
              | stuck => rw [ee] at h'; exact h'.elim
              | err e' ρ4 => rw [ee] at h'; exact fun cls d F6 H6 S6 X6 E6 => h' cls d σ3 F6 H6 S6 (X5.trans X6) E6
              | ok vs ρ4 =>
                rw [ee] at h'
                intro xs F6 H6 S6 X6 V6
                dsimp only at h'
                split at h'
                · rename_i us ρ5 e5
                  obtain ⟨F7, S7, X7, r7⟩ := escs_ok S6 V6 e5
                  split at h'
                  · rename_i hlen
                    obtain ⟨m1, m2, m3⟩ := keep (X6.trans X7) l1 (fun ps z => by cases z) (fun vs z => by cases z) l2 fun z => l3 (o5 _ z)
                    obtain ⟨m4, m5, m6⟩ := keep (X6.trans X7) l4 (fun ps z => by cases z) (fun vs z => by cases z) l5 fun z => l6 (o5 _ z)
                    cases r7 with
                    | cons ru rn =>
                      cases rn
                      cases ru with
                      | @lst bd zs _ hz rz =>
                        have ss : Same F' F7 := (Cl.s.trans X6.ff).trans X7.ff
                        refine ⟨Dd, bd, accV, zs, rfl, rfl, m4, S7.sub _ _ hz, by rw [rA.length, rz.length, sizeLine_eq]; omega, ?_⟩
                        refine ⟨F7, ρ5, accV ++ zs, acc ++ us, S7.tmp m5 m6 m4 (fun ps z => by cases z) (fun φ z => by cases z), ((X5.trans X6).trans X7).updT (.inl hD0), s'.trans ss, eσ3, ?_, m2, m3, upd_same, m5, m6, (rA.mono ss).append rz, rF.mono ss, h'⟩
                        rw [upd_ne (fun z => hDa z.symm)]; exact m1
                  · exact h'.elim
                · exact h'.elim
          · rintro σ' H' ⟨F', ρ', accV, acc, S', X', s', eσ, j1, j2, j3, j4, j5, j6, rA, rF, h'⟩
            rw [List.drop_length] at h'
            -- the list is still from now on
            have sD : Same F' (upd F' Dd (.lst accV)) := same_upd j5
            have S8 := S'.grow sD (same_upd2 S'.sub j4) (fun z hz => by rw [upd_ne (fun w => j6 (by rw [← w]; exact hz))]; exact (by
              obtain ⟨j, k, t', h1, h2⟩ := hz
              obtain ⟨a', e', n', _⟩ := S'.ow h1
              rw [h2] at e'; cases e'
              exact n')) (nt_upd S'.nt fun _ z => by cases z)
            obtain ⟨S9, O9⟩ := S8.regain (t := .ins c' (putFT f (.lst acc) fs)) (id := id) (i := i) eσ (by rw [upd_ne (fun z => hDa z.symm)]; exact j2) (.ins mC j1 (RepF.put (.lst upd_same (rA.mono sD)) (rF.mono sD))) da j3
            refine h' σ' _ H' S9 ⟨X'.ff.trans sD, X'.hh, X'.nn, fun z hz => ?_, fun z hz => ?_, X'.tp⟩
            · by_cases w : z = Dd
              · rw [w]; exact .inr (.inl (.inl hD0))
              · rw [upd_ne w] at hz; exact X'.fn z hz
            · rcases O9 z hz with w | w
              · exact X'.ow z w
              · rw [w]; exact .inl ownA
    · exact q.elim
  · exact q.elim
theorem rss_ext {c f x : Str} {i : Nat} {ws : List Nat} {tg iter e : Expr} {rest : List Stmt} {fi : FX.Env → R (List T)} {b : T → FX.Env → Option FX.Env} {fe : FX.Env → R Vl} {h : FX.Env → O} {np pos' lp pos np2 p1 p2 p3 p4 pos2 : Pos} (Df : FldC X.K X.mg c f) (hi : RI X au W tg iter fi) (hg : RG X au ws tg b) (he : RE X au W e fe) (hr : RSs X au W rest h) (hp : PassesOwn (model X.prog X.w) X.A X.env X.xe) (hws : i ∉ ws := by decide)
    (hc : X.calm = true := by rfl) (hs : ∀ x, foldedSetIterable iter X.env x = pure x := by intro _; rfl)
    (hN : X.N[i]? = some x := by rfl) (hvis : Vis X.env.scope x := by first | exact Or.inl rfl | exact Or.inr (Or.inl rfl) | exact Or.inr (Or.inr rfl)) (hd : (x == ("__debug__" : Str)) = false := by decide) (hcd : (x == ("__classdict__" : Str)) = false := by decide)
    (hsw : swapsWith (.List [] lp) (some (.Attribute (.Name x np) f pos')) pos.line X.env = pure false := by rfl)
    (hsw2 : swapsWith (.Call (.Attribute (.Attribute (.Name x np2) f p1) "extend" p2) [e] [] p3) none p4.line X.env = pure false := by rfl)
    (hb1 : attributeBase (.Name x np2) f X.env (eval (.Name x np2) X.env) = eval (.Name x np2) X.env := by rfl)
    (hb2 : attributeBase (.Attribute (.Name x np2) f p1) "extend" X.env (eval (.Attribute (.Name x np2) f p1) X.env) = eval (.Attribute (.Name x np2) f p1) X.env := by rfl)
    (hfew : ((backTo p3 (starEach [e] X.env)).all (fun x => !x.1) && (backToKw p3 (keywordEach [] X.env)).all (fun x => x.1.isSome)
      && decide ([e].length + ([] : List Keyword).length + (if ([] : List Keyword).isEmpty then 0 else 1) < 30)) = true := by rfl)
    (hline : (p2.endLine == p3.line) = true := by rfl) (hst : starEach [e] X.env = (false, eval e X.env) :: starEach [] X.env := by rfl) (hpl : (backTo p3 (starEach [] X.env)).any (·.1) = false := by rfl) :
    RSs X au W (.Assign [.Attribute (.Name x np) f pos'] (.List [] lp) pos :: .For tg iter [.Expr (.Call (.Attribute (.Attribute (.Name x np2) f p1) "extend" p2) [e] [] p3) p4] [] pos2 :: rest) (gSeq (gExt c f i fi b (fACons fe fANil)) h) := by
  obtain ⟨C, m, cl, na⟩ := Df
  have p1' := ps_fld (X := X) (f := f) (pos' := pos') (pos := pos) (pe_var (i := i) (pos := np) hN hvis hd hcd) (re_lst (X := X) (au := au) (W := W) (pos := lp) ra_nil).pe hsw
  have p2' := ps_expr (pos := p4) (pe_bm (X := X) PySem.F.plainAttrs_list PySem.F.slot_list_extend PySem.F.type_list_extend mt_extend (pe_fld (f := f) (pos := p1) (pe_var (i := i) (pos := np2) hN hvis hd hcd) hb1) (ra_cons he ra_nil hst).pa hb2 hfew hline hst hpl) hsw2
  refine ⟨PSs.imp (pss_cons p1' (pss_cons (ps_for (pos := pos2) hp hc hi.pi hg.pg (pss_one p2') hs) hr.pss)) fun D σ H ⟨F, ρ, S, q⟩ => ?_⟩
  exact ext_core hws m cl na ⟨F, ρ, S, seq_post q⟩
end
end FX
end

section
set_option Elab.async false
set_option linter.all false
set_option maxRecDepth 100000
set_option maxHeartbeats 4000000
namespace FX
open PySem PySem.Spec PyProof.Rows L2
/-! ### the end where the law's body is to know that nothing of the library stands above it (repr asks that) -/
/-- told are the tables, and the script where the module does not have it -/
def hdH (K : PySem.W.Frag) (a : Addr) (o : Obj) (xs : List V) (ts : List Addr) : Hp := fun b => if b ∈ ts then some (.tbl #[]) else if b = a then (match K.lookup a with | none => some (.frz o (.lst xs)) | some _ => none) else none
theorem hdH_of {K : PySem.W.Frag} {a : Addr} {o : Obj} {xs : List V} {ts : List Addr} {b : Addr} {u : HO} (h : hdH K a o xs ts b = some u) : (b ∈ ts ∧ u = .tbl #[]) ∨ (b = a ∧ b ∉ ts ∧ K.lookup a = none ∧ u = .frz o (.lst xs)) := by
  unfold hdH at h
  split at h
  · rename_i m; cases h; exact .inl ⟨m, rfl⟩
  · rename_i m
    split at h
    · rename_i e
      split at h
      · rename_i k; cases h; exact .inr ⟨e, m, k, rfl⟩
      · cases h
    · cases h
theorem hdH_t {K : PySem.W.Frag} {a : Addr} {o : Obj} {xs : List V} {ts : List Addr} {b : Addr} (h : b ∈ ts) : hdH K a o xs ts b = some (.tbl #[]) := if_pos h
theorem law_callG {P : Program} {w : World} {K : PySem.W.Frag} {mg mb : Str → Option Value} {CX : CXT} {fa a : Addr} {cs : List (Addr × Addr)} {s₁ : Shared} {vs : List Value} {ns : List Int}
    (KX : K.In s₁.heap) (hns : s₁.heap.Ns mainGlobals mg) (hb : s₁.heap.Ns builtinsNs mb) (hbb : ∀ x : Str, x ≠ "__name__" → mb x = bootBuiltins x) (hlim : s₁.heap.NoLimit) (hg : s₁.gens = #[])
    (hT : ∀ p ∈ cs, s₁.heap.get? p.2 = some { cls := .none, data := .fields #[] }) (nT : ∀ p ∈ cs, K.lookup p.2 = none) (C : ∀ p ∈ cs, PySem.W.CodeHd s₁.heap p.1 p.2)
    (hbm : ∃ (bm : Addr) (ob : Obj), mg "__builtins__" = some (.ref bm) ∧ bm ≠ builtinsNs ∧ s₁.heap.get? bm = some ob ∧ ob.cls = .type "module" ∧ ob.dict = some builtinsNs ∧ ob.data = .plain)
    (ha : s₁.heap.get? a = some { cls := .type "list", data := .seq vs.toArray }) (hi : IntsAre vs ns) (hl : ns.length ≤ sizeLine)
    (F : ∀ (base : Heap) (H : Hp), K.In base → base.Ns mainGlobals mg → (∀ p ∈ cs, LamX.TabB base mg p.1 p.2) → Env0 P w K mg base callerA [] s₁ H → (∀ p ∈ cs, H p.2 = some (.tbl #[])) → SqL K H a (ns.map V.int) →
      codeAny (model P w) callerA (.call (.ref fa) ⟨[.ref a], []⟩) (CR CX [] P w H s₁ (fun v _ => v = .bl true) fun _ _ _ => False) s₁)
    (hCX : ∀ H e s', CX [] H s₁ (fun _ _ _ => False) e s' → False) :
    codeAny (model P w) callerA (.call (.ref fa) ⟨[.ref a], []⟩) (fun r s' => r = .ok (.ret (.bool true)) ∧ OldK s₁.heap s'.heap ∧ s'.os = s₁.os ∧ AllBare s'.gens) s₁ := by
  have rv := vals_ints hi
  obtain ⟨oA, eA⟩ : ∃ oA : Obj, oA = { cls := .type "list", data := .seq vs.toArray } := ⟨_, rfl⟩
  obtain ⟨ts, ets⟩ : ∃ ts : List Addr, ts = cs.map (·.2) := ⟨_, rfl⟩
  have tab : ∀ b ∈ ts, ∃ p ∈ cs, p.2 = b := fun b m => by rw [ets] at m; obtain ⟨p, hp, e⟩ := List.mem_map.mp m; exact ⟨p, hp, e⟩
  have mem : ∀ p ∈ cs, p.2 ∈ ts := fun p hp => by rw [ets]; exact List.mem_map.mpr ⟨p, hp, rfl⟩
  have tabO : ∀ b ∈ ts, s₁.heap.get? b = some { cls := .none, data := .fields #[] } := fun b m => by obtain ⟨p, hp, e⟩ := tab b m; rw [← e]; exact hT p hp
  rw [← eA] at ha
  have aT : a ∉ ts := fun m => by
    have q := tabO a m
    rw [ha, eA] at q
    exact nomatch (congrArg Obj.data (Option.some.inj q))
  obtain ⟨H, eH⟩ : ∃ H : Hp, H = hdH K a oA (ns.map V.int) ts := ⟨_, rfl⟩
  have inv : ∀ {b : Addr} {u : HO}, H b = some u → (b ∈ ts ∧ u = .tbl #[]) ∨ (b = a ∧ b ∉ ts ∧ K.lookup a = none ∧ u = .frz oA (.lst (ns.map V.int))) := fun h => by rw [eH] at h; exact hdH_of h
  have off : ∀ {b : Addr} {o : Obj}, s₁.heap.get? b = some o → (∀ q n, o.data ≠ .seq q n) → o.data ≠ .fields #[] → H b = none := fun {b o} e n1 n2 => by
    cases q : H b with
    | none => rfl
    | some u =>
      rcases inv q with ⟨m, _⟩ | ⟨z, _⟩
      · rw [tabO b m] at e; cases e; exact absurd rfl n2
      · rw [z, ha, eA] at e; cases e; exact absurd rfl (n1 _ _)
  have up : ∀ {b : Addr} {o : Obj}, s₁.heap.get? b = some o → (∀ q n, o.data ≠ .seq q n) → o.data ≠ .fields #[] → (hidT s₁.heap H).get? b = some o := fun e n1 n2 => hidT_get e (off e n1 n2)
  have upN : ∀ {b : Addr} {m : Str → Option Value}, s₁.heap.Ns b m → (hidT s₁.heap H).Ns b m := fun ⟨o, es, ep, e, d, r⟩ => ⟨o, es, ep, up e (fun _ _ z => by rw [d] at z; cases z) (fun z => by rw [d] at z; cases z), d, r⟩
  have KB : K.In (hidT s₁.heap H) := fun b o e => hidT_get (KX b o e) (by
    cases q : H b with
    | none => rfl
    | some u =>
      rcases inv q with ⟨m, _⟩ | ⟨z, _, k, _⟩
      · obtain ⟨p, hp, ep⟩ := tab b m
        have := nT p hp
        rw [ep, e] at this
        cases this
      · rw [z, k] at e; cases e)
  have tbs : ∀ p ∈ cs, LamX.TabB (hidT s₁.heap H) mg p.1 p.2 := fun p hp => by
    obtain ⟨oG, es, ep, e, d, _⟩ := hns
    refine ⟨?_, ?_, fun z => ?_⟩
    · obtain ⟨o, us, f1, f2, f3, f4, f5, f6, f7, e1, r1, r2, r3, r4⟩ := C p hp
      exact ⟨o, us, f1, f2, f3, f4, f5, f6, f7, up e1 (fun _ _ z => by rw [r2] at z; cases z) (fun z => by rw [r2] at z; cases z; simp at r3), r1, r2, r3, r4⟩
    · obtain ⟨bm, ob, b1, b2, b3, b4, b5, b6⟩ := hbm
      refine ⟨bm, ob, b1, b2, fun q => ?_, fun q => ?_, up b3 (fun _ _ z => by rw [b6] at z; cases z) (fun z => by rw [b6] at z; cases z), b4, b5, b6⟩
      · rw [q, e] at b3; cases b3; rw [d] at b6; cases b6
      · rw [q, hT p hp] at b3; cases b3; cases b6
    · rw [z, hT p hp] at e; cases e; cases d
  have ok : HOk P w H s₁.heap := fun b u z => by
    rcases inv z with ⟨m, e⟩ | ⟨e, _, _, e2⟩
    · rw [e]; exact tabO b m
    · rw [e, e2]; exact ⟨ha, by rw [List.length_map]; exact hl, vs, _, rv, by rw [ha, eA]⟩
  have sq : SqL K H a (ns.map V.int) := by
    cases k : K.lookup a with
    | none => exact .inl (.inr ⟨oA, by rw [eH]; unfold hdH; rw [if_neg aT, if_pos rfl, k]⟩)
    | some o =>
      have e := KX a o k
      rw [ha] at e
      cases e
      rw [eA] at k
      exact .inr ⟨_, vs.toArray, _, k, rfl, rfl, rfl, by rw [List.size_toArray, hi.length]; exact hl, by simpa using rv⟩
  have md : Mod K mg (hidT s₁.heap H) := by
    refine ⟨KB, upN hns, ⟨mb, upN hb, hbb⟩, ?_⟩
    obtain ⟨mc, l1, l2⟩ := hlim
    exact ⟨mc, upN l1, l2⟩
  have e0 : Env0 P w K mg (hidT s₁.heap H) callerA [] s₁ H := { frames := rfl, mod := md, bs := fun b o e => of_hidT e, bsz := Nat.le_of_eq (hidT_size _ _), funs := trivial, frf := fun b m => (List.not_mem_nil m).elim, hok := ok, bare := .of_eq hg }
  refine codeAny_mono (F _ H KB (upN hns) tbs e0 (fun p hp => by rw [eH]; exact hdH_t (mem p hp)) sq) fun r s' h => ?_
  match r, h with
  | .error e, h => exact (hCX H e s' h).elim
  | .ok .next, h => exact False.elim h
  | .ok .brk, h => exact False.elim h
  | .ok .cont, h => exact False.elim h
  | .ok (.ret u), ⟨v, H', os, bare, un, ok', r', q⟩ =>
    cases (show v = .bl true from q)
    obtain rfl : u = Value.bool true := r'
    have stay : ∀ b o, b ∉ ts → s₁.heap.get? b = some o → s'.heap.get? b = some o := fun b o nb e => by
      cases q : H b with
      | none => exact un.keep b o e q (fun m => List.not_mem_nil m) (fun m => List.not_mem_nil m)
      | some u =>
        rcases inv q with ⟨m, _⟩ | ⟨_, _, _, z⟩
        · exact absurd m nb
        · rw [z] at q
          have e1 := (ok b _ q).1
          have e2 := (ok' b _ (un.frzs b _ _ q)).1
          rw [e] at e1; cases e1
          exact e2
    have grown : ∀ p ∈ cs, ∃ more : Array Value, s'.heap.get? p.2 = some { cls := .none, data := .fields more } := fun p hp => by
      obtain ⟨more, z⟩ := un.tbls p.2 #[] (by rw [eH]; exact hdH_t (mem p hp))
      exact ⟨_, ok' p.2 _ z⟩
    refine ⟨rfl, ⟨fun b o e => ?_, fun b o e => ?_⟩, os, bare⟩
    · by_cases m : b ∈ ts
      · obtain ⟨p, hp, ep⟩ := tab b m
        obtain ⟨more, hm⟩ := grown p hp
        subst ep
        rw [hT p hp] at e
        cases e
        exact .inr (.inl ⟨((C p hp).tab (hT p hp)).isCodeTable, rfl, #[], more, rfl, by rw [Array.empty_append]; exact hm⟩)
      · exact .inl (stay b o m e)
    · by_cases m : b ∈ ts
      · obtain ⟨p, hp, ep⟩ := tab b m
        obtain ⟨more, hm⟩ := grown p hp
        subst ep
        exact ⟨_, hm⟩
      · exact ⟨o, stay b o m e⟩
end FX
end

section
set_option Elab.async false
set_option linter.all false
set_option maxRecDepth 100000
set_option maxHeartbeats 4000000
namespace FX
open PySem PySem.Spec PyProof.Rows L2
/-! ### the law's body, called by nobody of the library -/
/-- the law's run ends with True -/
def GoodEnd (o : O) : Prop := ∃ (v : Vl) (ρ : FX.Env), o = .rt v ρ ∧ (v = .fz (.bl true) ∨ ∃ i : Nat, v = .bor i ∧ ρ[i]? = some (.fz (.bl true)))
theorem lawG_run {P : Program} {w : World} {K : PySem.W.Frag} {mg : Str → Option Value} {base : Heap} {k : Nat} {f a : Addr} {st : Stmt} {dV kV doc pm cdv ct oc : Value} {an od : Option Addr} {osl : Array (Option Value)} {N : List Str} {cs : List (Addr × Addr)} {G : FX.Env → O} {s : Shared} {H : Hp} {ns : List Int}
    (lk : K.lookup f = some ⟨oc, od, .func (PySem.W.fnOf "law" "law" (defArgs st) (defBody st) (defScope st) dV kV doc pm an cdv ct), osl⟩) (hcd : PySem.W.codeIn K cdv "law" = true) (S : FnScope N ["script"] (defScope st)) (hr : Room (k + 1) callerA)
    (hbind : ∀ (s : Shared) (u : Value), BindsTo s (PySem.W.fnOf "law" "law" (defArgs st) (defBody st) (defScope st) dV kV doc pm an cdv ct) ⟨[u], []⟩ [("script", u)])
    (hb : ∀ (s : Shared) (H : Hp) (E : XK) (au : Au), au.tb = tbsOf cs → Room k (callerA.deeper (envOfC "law" (defScope st) s.heap.objs.size f cdv)) → RSs (cxOf (L2.CX P w) P w K mg base N "law" (defScope st) f cdv callerA [] s H E) au (fun cls d _ H => E cls d H) (defBody st) G)
    (hG : GoodEnd (G (startL N.length ns)))
    (e0 : Env0 P w K mg base callerA [] s H) (ht : ∀ p ∈ cs, H p.2 = some (.tbl #[])) (hs : SqL K H a (ns.map V.int)) :
    codeAny (model P w) callerA (.call (.ref f) ⟨[.ref a], []⟩) (CR (L2.CX P w) [] P w H s (fun v _ => v = .bl true) fun _ _ _ => False) s := by
  have KX : K.In s.heap := e0.mod.kin.keeps fun b o e => (e0.bs b o e).1
  have lim : s.heap.NoLimit := e0.mod.nolimit.keeps fun b o e => (e0.bs b o e).1
  have hkind : ∀ y ∈ ([("script", Value.ref a)] : List (Str × Value)), (defScope st).names.lookup y.1 = some .local ∨ ((defScope st).names.lookup y.1 = some .cell ∧ ((cellsFrom (s.heap.objs.size + 1) (defScope st).names []).lookup y.1).isSome = true) := fun y hy => by
    rw [List.mem_singleton.mp hy]
    exact (S.par "script" List.mem_cons_self).elim .inl fun q => .inr ⟨q, PySem.W.cellsFrom_some _ _ _ (.inl q)⟩
  have hb0 := hbind s (.ref a)
  refine codeAny_call_function hr.depth (KX _ _ lk) rfl S.co S.gen rfl (PySem.W.codeRec_of KX hcd) (hb0 _ _ _ _ ?_)
  refine wpAny_newFunctionEnv_cells S.kind hkind fun env he s1 x => ?_
  subst he
  refine ⟨lim.keeps x.toInCall.keep, codeAny_func ?_⟩
  have I : Inv (cxOf (L2.CX P w) P w K mg base N "law" (defScope st) f cdv callerA [] s H fun _ _ _ => False) [] (L2.start N [.ref a]) H s1 := inv_start S hr.hd e0 rfl (.cons rfl .nil) x
  have R := (hb s H (fun _ _ _ => False) ⟨fun _ => 0, fun b => H b = none, tbsOf cs⟩ rfl (hr.deeper _)).pss
  refine wpAny_mono (R.run [] s1 (L2.start N [.ref a]) H { nx := fun _ _ => False, rt := fun v _ => v = .bl true } I ⟨cl H, startL N.length ns, ⟨fun b o h => (cl_of h).1, fun _ h => h, fun p hp => ?_, ?_, fun {i t} hi => ?_, fun {i k t} hi => ?_, fun {i j k k' t t' b} h1 h2 e1 e2 => ?_, fun _ b ps h => (cl_of h).2 ps rfl⟩, ?_⟩) (fun fl s' hs => ?_) fun e s' hs => hs
  · obtain ⟨q, hq, e⟩ := List.mem_map.mp hp
    subst e
    exact LamX.TabS.nil (ht q hq)
  · simp [startL, L2.start]
  · match i, hi with
    | 0, hi => cases hi; exact ⟨.ref a, rfl, .seq (sqL_cl hs) (reps_ints ns)⟩
    | i + 1, hi =>
      have hi : (List.replicate (N.length - 1) Sl.un)[i]? = some (.fz t) := hi
      rw [List.getElem?_replicate] at hi
      split at hi <;> cases hi
  · match i, hi with
    | 0, hi => cases hi
    | i + 1, hi =>
      have hi : (List.replicate (N.length - 1) Sl.un)[i]? = some (.own k t) := hi
      rw [List.getElem?_replicate] at hi
      split at hi <;> cases hi
  · match i, h1 with
    | 0, h1 => cases h1
    | i + 1, h1 =>
      have h1 : (List.replicate (N.length - 1) Sl.un)[i]? = some (.own k t) := h1
      rw [List.getElem?_replicate] at h1
      split at h1 <;> cases h1
  · obtain ⟨v, ρ, e, hv⟩ := hG
    rw [e]
    intro x σ' F' H' S' X' V'
    rcases hv with rfl | ⟨i, rfl, hi⟩
    · cases (show Rep K mg F' x (.bl true) from V')
      rfl
    · obtain ⟨k, t, e1, _⟩ := (show ∃ k t, ρ[i]? = some (.own k t) ∧ σ'[i]? = some (some x) from V')
      rw [hi] at e1; cases e1
  · match fl, hs with
    | .ret u, ⟨v, σ', H', J, rv, q⟩ => exact ⟨v, H', J.os, J.bare, J.base, J.hok, rv, q⟩
    | .next, ⟨_, _, _, q⟩ => exact q.elim
    | .brk, ⟨_, _, _, q⟩ => exact False.elim q
    | .cont, ⟨_, _, _, q⟩ => exact False.elim q
/-- what the head gives for the law -/
def LawAtG (l : PySem.W.OpenLaw) (w : World) (K : PySem.W.Frag) (n : Nat) (mg : Str → Option Value) (fa : Addr) (h : Heap) : Prop :=
  ∃ cs : List (Addr × Addr), (∀ p ∈ cs, h.get? p.2 = some { cls := .none, data := .fields #[] }) ∧ (∀ p ∈ cs, K.lookup p.2 = none) ∧ (∀ p ∈ cs, PySem.W.CodeHd h p.1 p.2) ∧
    ∀ (base : Heap) (s : Shared) (H : Hp) (a : Addr) (ns : List Int), K.In base → base.Ns mainGlobals mg → (∀ p ∈ cs, LamX.TabB base mg p.1 p.2) → Env0 l.prog w K mg base callerA [] s H → (∀ p ∈ cs, H p.2 = some (.tbl #[])) → SqL K H a (ns.map V.int) → ns.length ≤ n → (∀ z ∈ ns, Builtin.Int.intBits z ≤ 1048576) →
      codeAny (model l.prog w) callerA (.call (.ref fa) ⟨[.ref a], []⟩) (CR (L2.CX l.prog w) [] l.prog w H s (fun v _ => v = .bl true) fun _ _ _ => False) s
theorem walk_ofG {l : PySem.W.OpenLaw} {n : Nat} {q : Program} {loose : List Str} {XP : (Str → Option Value) → Heap → Prop} {YP : World → Heap → Prop} {d : DefRec} {K : Params → PySem.W.Frag}
    (hn : l.most = some n) (hn2 : n ≤ sizeLine) (hdf : d.params.defaults = []) (hY : ∀ (w : World) (h : Heap), YP w h → (K w.params).In h)
    (F : ∀ (w : World) (mg : Str → Option Value) (fa : Addr) (h : Heap), YP w h → (K w.params).In h → h.Ns mainGlobals mg → mg d.name = some (.ref fa) → LawAtG l w (K w.params) n mg fa h) :
    PySem.W.WalkO q loose XP YP l.row.toRowW d [] (fun f vs => PySem.call f vs) :=
  Att.attach_callB hn hdf fun w s₀ s₁ mg mb fa o pm cd doc a vs ns G Y ho hd hcd hmg hobj hints hlen hbits hg => by
    obtain ⟨cs, hT, nT, C, R⟩ := F w mg fa _ Y (hY w _ Y) G.T.g hmg
    exact law_callG (hY w _ Y) G.T.g G.T.b G.T.builtins G.T.nolimit hg hT nT C G.T.bmain hobj hints (Nat.le_trans hlen hn2) (fun base H k1 k2 k3 k4 k5 k6 => R base s₁ H a ns k1 k2 k3 k4 k5 k6 hlen hbits) fun H e s' => cx_none
end FX
end

section
set_option Elab.async false
set_option linter.all false
set_option maxRecDepth 100000
set_option maxHeartbeats 4000000
namespace FX
open PySem PySem.Spec PyProof.Rows L2
/-! ### repr -/
mutual
def tD : T → Option PyData
  | .non => some .none
  | .bl b => some (.bool b)
  | .int i => if i.natAbs.log2 < 1920 then some (.int i) else none
  | .str x => some (.str x)
  | .tup ts => (tDs ts).map .tuple
  | .tsq ts => (tDs ts).map .tuple
  | .lst ts => (tDs ts).map .list
  | .seq ts => (tDs ts).map .list
  | .dK _ => none
  | .dT _ => none
  | .ins _ _ => none
  | .fn _ => none
  | .ty _ => none
  | .dN _ => none
def tDs : List T → Option (List PyData)
  | [] => some []
  | t :: ts => match tD t, tDs ts with
    | some d, some ds => some (d :: ds)
    | _, _ => none
end
mutual
theorem tD_ok : ∀ {t : T} {d : PyData}, tD t = some d → d.showable = true ∧ d.hasDict = false
  | .non, d, e => by cases e; exact ⟨rfl, rfl⟩
  | .bl b, d, e => by cases e; exact ⟨rfl, rfl⟩
  | .int i, d, e => by
    simp only [tD] at e
    split at e
    · rename_i h; cases e; exact ⟨by simp [PyData.showable, h], rfl⟩
    · cases e
  | .str x, d, e => by cases e; exact ⟨rfl, rfl⟩
  | .tup ts, d, e => by
    simp only [tD, Option.map_eq_some_iff] at e
    obtain ⟨ds, e, rfl⟩ := e
    exact tDs_ok e
  | .tsq ts, d, e => by
    simp only [tD, Option.map_eq_some_iff] at e
    obtain ⟨ds, e, rfl⟩ := e
    exact tDs_ok e
  | .lst ts, d, e => by
    simp only [tD, Option.map_eq_some_iff] at e
    obtain ⟨ds, e, rfl⟩ := e
    exact tDs_ok e
  | .seq ts, d, e => by
    simp only [tD, Option.map_eq_some_iff] at e
    obtain ⟨ds, e, rfl⟩ := e
    exact tDs_ok e
  | .dK _, d, e => by cases e
  | .dT _, d, e => by cases e
  | .ins _ _, d, e => by cases e
  | .fn _, d, e => by cases e
  | .ty _, d, e => by cases e
  | .dN _, d, e => by cases e
theorem tDs_ok : ∀ {t : List T} {d : List PyData}, tDs t = some d → PyData.showableAll d = true ∧ PyData.hasDictAll d = false
  | [], d, e => by cases e; exact ⟨rfl, rfl⟩
  | t :: ts, d, e => by
    simp only [tDs] at e
    split at e
    · rename_i d0 ds e1 e2
      cases e
      obtain ⟨a1, a2⟩ := tD_ok e1
      obtain ⟨b1, b2⟩ := tDs_ok e2
      exact ⟨by simp [PyData.showableAll, a1, b1], by simp [PyData.hasDictAll, a2, b2]⟩
    · cases e
end
section
variable {X : Cx} {pins : List (Addr × Obj)} {σ : L2.St} {H F : Hp} {s : Shared}
mutual
theorem reads_of (I : Inv X pins σ H s) (sF : Same F H) : ∀ {x : V} {t : T} {d : PyData} {v : Value}, Rep X.K X.mg F x t → RelV x v → tD t = some d → ∃ as, Reads s.heap v d as
  | _, _, d, v, .non, r, e => by cases (show v = .none from r); cases e; exact ⟨_, .none⟩
  | _, _, d, v, .bl b, r, e => by cases (show v = .bool b from r); cases e; exact ⟨_, .bool b⟩
  | _, _, d, v, .int i, r, e => by
    obtain ⟨tk, rfl⟩ := (show ∃ tk, v = .int i tk from r)
    simp only [tD] at e
    split at e
    · cases e; exact ⟨_, .int i tk⟩
    · cases e
  | _, _, d, v, .str x, r, e => by
    obtain ⟨tk, rfl⟩ := (show ∃ tk, v = .str x tk from r)
    cases e; exact ⟨_, .str x tk⟩
  | _, _, d, v, .tup (a := a) (vs := vs) h rs, r, e => by
    cases (show v = .ref a from r)
    simp only [tD, Option.map_eq_some_iff] at e
    obtain ⟨ds, e, rfl⟩ := e
    obtain ⟨_, its, vl, o, g1, g2, n, g3⟩ := I.hok a _ (sF _ _ h)
    obtain ⟨as, R⟩ := reads_all I sF rs vl e
    exact ⟨as, .tuple g1 g2 g3 (by simpa using R)⟩
  | _, _, d, v, .tsq (a := a) (vs := vs) h rs, r, e => by
    cases (show v = .ref a from r)
    simp only [tD, Option.map_eq_some_iff] at e
    obtain ⟨ds, e, rfl⟩ := e
    obtain ⟨its, vl, ⟨o, g1, g2, n, g3⟩, _⟩ := I.tuple (sqT_mono sF h)
    obtain ⟨as, R⟩ := reads_all I sF rs vl e
    exact ⟨as, .tuple g1 g2 g3 (by simpa using R)⟩
  | _, _, d, v, .lst (a := a) (vs := vs) h rs, r, e => by
    cases (show v = .ref a from r)
    simp only [tD, Option.map_eq_some_iff] at e
    obtain ⟨ds, e, rfl⟩ := e
    obtain ⟨_, its, n, vl, g1⟩ := I.hok a _ (sF _ _ h)
    obtain ⟨as, R⟩ := reads_all I sF rs vl e
    exact ⟨a :: as, .list g1 rfl rfl (by simpa using R)⟩
  | _, _, d, v, .seq (a := a) (vs := vs) h rs, r, e => by
    cases (show v = .ref a from r)
    simp only [tD, Option.map_eq_some_iff] at e
    obtain ⟨ds, e, rfl⟩ := e
    obtain ⟨its, vl, ⟨o, n, g1, g2, g3⟩, _⟩ := I.list (sF.seq h)
    obtain ⟨as, R⟩ := reads_all I sF rs vl e
    exact ⟨a :: as, .list g1 g2 g3.2 (by simpa using R)⟩
  | _, _, d, v, .dK _ _, r, e => by cases e
  | _, _, d, v, .dT _ _, r, e => by cases e
  | _, _, d, v, .ins _ _ _, r, e => by cases e
  | _, _, d, v, .fn _, r, e => by cases e
  | _, _, d, v, .ty _, r, e => by cases e
  | _, _, d, v, .dN _ _, r, e => by cases e
theorem reads_all (I : Inv X pins σ H s) (sF : Same F H) : ∀ {x : List V} {t : List T} {d : List PyData} {v : List Value}, Reps X.K X.mg F x t → Vals x v → tDs t = some d → ∃ as, ReadsAll s.heap v d as
  | _, _, d, v, .nil, r, e => by cases e; cases r; exact ⟨_, .nil⟩
  | _, _, d, v, .cons h rs, r, e => by
    simp only [tDs] at e
    split at e
    · rename_i d0 ds e1 e2
      cases e
      cases r with | cons r1 r2 =>
      obtain ⟨as, R⟩ := reads_of I sF h r1 e1
      obtain ⟨bs, R2⟩ := reads_all I sF rs r2 e2
      exact ⟨_, .cons R R2⟩
    · cases e
end
end
def bRepr : List T → Option Nv
  | [t] => match tD t with
    | some d => if d.shown.length ≤ sizeLine ∧ d.depth ≤ 50 then some (.fz (.str d.shown)) else none
    | none => none
  | _ => none
def rRepr (K : PySem.W.Frag) (mg : Str → Option Value) : List V → Hp → VK → Prop := fun xs H Q => ∃ x t d, xs = [x] ∧ Rep K mg H x t ∧ tD t = some d ∧ d.shown.length ≤ sizeLine ∧ d.depth ≤ 50 ∧ Q (.str d.shown) H
section
variable {X : Cx} {au : Au} {W : WX}
theorem call_reprA {k : Nat} (hg : X.A.guards = some []) (hr : Room k X.A) : CallR X (.builtin "repr") (rRepr X.K X.mg) := by
  intro pins s σ H xs us Q I r h
  obtain ⟨x, t, d, rfl, rp, e, hl, hd, q⟩ := h
  obtain ⟨u, rfl, rx⟩ : ∃ u, us = [u] ∧ RelV x u := by
    cases r with
    | cons a b => cases b; exact ⟨_, rfl, a⟩
  obtain ⟨as, R⟩ := reads_of I (.refl _) rp rx e
  obtain ⟨h1, h2⟩ := tD_ok e
  have un := hr.units
  cases R with
  | none => exact PySem.P.repr_of_none ⟨.str _, H, I.tok _, ⟨_, rfl⟩, q⟩
  | bool b => exact PySem.P.repr_of_bool ⟨.str _, H, I.tok _, ⟨_, rfl⟩, q⟩
  | int i tk => exact PySem.P.repr_of_int (by simpa [PyData.showable] using h1) ⟨.str _, H, I.tok _, ⟨_, rfl⟩, q⟩
  | str y tk => exact PySem.P.repr_of_str ⟨.str _, H, I.tok _, ⟨_, rfl⟩, q⟩ hl
  | list g1 g2 g3 g4 => exact repr_of_reads' (.list g1 g2 g3 g4) h1 (PyData.noDict_hsm h2) hg (by omega) (fun _ _ z => z) (fun h' u tk hk => ⟨.str _, H, I.kept hk, ⟨_, rfl⟩, q⟩) hl
  | tuple g1 g2 g3 g4 => exact repr_of_reads' (.tuple g1 g2 g3 g4) h1 (PyData.noDict_hsm h2) hg (by omega) (fun _ _ z => z) (fun h' u tk hk => ⟨.str _, H, I.kept hk, ⟨_, rfl⟩, q⟩) hl
  | dict g1 g2 g3 g4 g5 => cases h2
theorem ca_repr : Ca X (rRepr X.K X.mg) bRepr := by
  intro F H xs ts Q s rs q
  cases rs with
  | nil => exact q.elim
  | @cons v t vs ts h r =>
    cases r with
    | cons h' r' => exact q.elim
    | nil =>
      simp only [bRepr] at q
      split at q
      · rename_i d e
        split at q
        · rename_i hc
          have q' : Q (.str d.shown) H := q _ F H (.refl _) (.refl _) s (fun b hb => .inl hb) (.str _)
          refine ⟨v, t, d, rfl, ?_, e, hc.1, hc.2, q'⟩
          cases h with
          | non => exact .non
          | bl b => exact .bl b
          | int i => exact .int i
          | str x => exact .str x
          | tup h r => exact .tup (s _ _ h) (r.mono s)
          | tsq h r => exact .tsq (sqT_mono s h) (r.mono s)
          | lst h r => exact .lst h (r.mono s)
          | seq h r => exact .seq h (r.mono s)
          | _ => cases e
        · exact q.elim
      · exact q.elim
end
end FX
end

section
set_option Elab.async false
set_option linter.all false
set_option maxRecDepth 100000
set_option maxHeartbeats 4000000
namespace FX
open PySem PySem.Spec PyProof.Rows L2
/-! ### {0: True}; a method that calls itself; several classes asked -/
section
variable {X : Cx} {au : Au} {W : WX}
def fD1 (i : Int) (b : Bool) : FX.Env → R Vl := fun ρ => .ok (.own (.dK [(.inl i, .bl b)])) ρ
theorem re_d1 {i : Int} {b : Bool} {e1 e2 : Expr} {pos : Pos} (h1 : PE X e1 (tC (.int i))) (h2 : PE X e2 (tC (.bl b))) : RE X au W (.Dict [some e1] [e2] pos) (fD1 i b) := by
  refine ⟨PE.imp (pe_disp (trs := [(tC (.int i), tC (.bl b))]) (pps_cons h1 h2 pps_nil) rfl rfl (by simp) (by simp)) fun σ H Q ⟨F, ρ, S, q⟩ p hp => ?_⟩
  refine ⟨upd_same, [(.inl i, .bl b)], rfl, by simp, ?_⟩
  rw [upd_upd]
  exact (res_post (r := some (.own (.dK [(.inl i, .bl b)]))) S q).made S.sub hp (.dK upd_same (.cons (.bl b) .nil))
end
section
variable {P : Program} {w : World} {K : PySem.W.Frag} {mg : Str → Option Value} {base : Heap}
theorem MtC.mono {c m : Str} {ps : List Str} {j k : Nat} {g : List T → Rp} (h : MtC P w K mg base c m ps j g) (l : j ≤ k) : MtC P w K mg base c m ps k g := by
  obtain ⟨C, f, fd, a, b, d, e, g⟩ := h
  exact ⟨C, f, fd, a, b, d.mono l, e, g⟩
theorem refM_of {h : Heap} {x a n : Str} {st : Stmt} {hs : List ExceptHandler} {cs : List (Addr × Str × Str)} {tbl : List (Str × Str)} (D : Fct K x st) (X : K.In h) (G : h.Ns mainGlobals mg)
    (hb : ∀ (kV doc pm : Value) (an : Option Addr) (cdv ct : Value) (us : List Value), us.length = 1 → bindArgs (PySem.W.fnOf x x (defArgs st) (defBody st) (defScope st) .none kV doc pm an cdv ct) ⟨us, []⟩ = pure (([a] : List Str).zip us))
    (R : RHs K mg (defScope st) n hs cs) (e : tbl = cs.map fun q => (q.2.1, q.2.2)) : RefDM K mg x st a n hs tbl := by
  obtain ⟨f, oc, od, kV, doc, pm, an, cdv, ct, osl, a', l, c, k⟩ := D
  have F := fun_mk (st := st) l c k
  exact ⟨f, .none, kV, doc, pm, cdv, ct, oc, an, od, osl, cs, PySem.W.mg_of X G a', k, l, c, Binds.all fun us hl => hb kV doc pm an cdv ct us hl, R, e⟩
/-- of two own exception classes, one above the other or not -/
theorem exm_no {C D : Addr} (a : PySem.W.subIn K (.ref D) (.type "BaseException") = some true) (t : PySem.W.typeIn K (.ref D) = some (.type "type")) {o1 : Value} {o2 : Option Addr} {cd : ClassData} {o3 : Array (Option Value)} (l : K.lookup D = some ⟨o1, o2, .cls cd, o3⟩) (s : PySem.W.subIn K (.ref C) (.ref D) = some false) : PySem.W.exmOne K (.ref C) (.ref D) = some false := by
  unfold PySem.W.exmOne PySem.W.kitCls
  have c : PySem.W.clsIn K D = some cd := by unfold PySem.W.clsIn; rw [l]
  rw [a]
  simp [c, t, s]
end
end FX
end

section
set_option Elab.async false
set_option linter.all false
set_option maxRecDepth 100000
/-! TY: typed programs behind the mirrors; every rule speaks of what comes next -/
namespace TY
open PySem L2 FX
inductive Res (α : Type) where
  | ok (a : α) | er (e : Ex) | no
/-- what an outcome has beside its good ends -/
class OutC (β : Type) where
  er : Ex → β
  no : β
instance {α : Type} : OutC (Res α) := ⟨.er, .no⟩
/-- τ: what follows; σ: the turn of a loop around; β: what the def gives -/
inductive Fl (τ σ β : Type) where
  | nx (s : τ) | bk (s : σ) | ct (s : σ) | rt (b : β) | er (e : Ex) | no
instance {τ σ β : Type} : OutC (Fl τ σ β) := ⟨.er, .no⟩
def bnd {α β : Type} [OutC β] (r : Res α) (k : α → β) : β := match r with
  | .ok a => k a
  | .er e => OutC.er e
  | .no => OutC.no
def bndN {α β : Type} [OutC β] (r : Res α) (k : α → β) : β := match r with
  | .ok a => k a
  | _ => OutC.no
theorem bndN_ok {α β : Type} [OutC β] (a : α) (k : α → β) : bndN (.ok a) k = k a := rfl
def Fl.fb {τ τ' σ β : Type} (r : Fl τ σ β) (k : τ → Fl τ' σ β) : Fl τ' σ β := match r with
  | .nx s => k s
  | .bk s => .bk s
  | .ct s => .ct s
  | .rt b => .rt b
  | .er e => .er e
  | .no => .no
def Fl.res {τ σ β : Type} : Fl τ σ β → Res β
  | .rt b => .ok b
  | .er e => .er e
  | _ => .no
def Res.map {α β : Type} (f : α → β) : Res α → Res β
  | .ok a => .ok (f a)
  | .er e => .er e
  | .no => .no
theorem bnd_ok {α β : Type} [OutC β] (a : α) (k : α → β) : bnd (.ok a) k = k a := rfl
theorem bnd_er {α β : Type} [OutC β] (e : Ex) (k : α → β) : bnd (.er e) k = OutC.er e := rfl
theorem fb_nx {τ τ' σ β : Type} (s : τ) (k : τ → Fl τ' σ β) : (Fl.nx s).fb k = k s := rfl
theorem fb_rt {τ τ' σ β : Type} (b : β) (k : τ → Fl τ' σ β) : (Fl.rt b).fb k = .rt b := rfl
theorem fb_er {τ τ' σ β : Type} (b : Ex) (k : τ → Fl τ' σ β) : (Fl.er b).fb k = .er b := rfl
theorem res_rt {τ σ β : Type} (b : β) : (Fl.rt b : Fl τ σ β).res = .ok b := rfl
theorem res_er {τ σ β : Type} (b : Ex) : (Fl.er b : Fl τ σ β).res = .er b := rfl
theorem out_er_fl {τ σ β : Type} (e : Ex) : (OutC.er e : Fl τ σ β) = .er e := rfl
theorem out_er_res {β : Type} (e : Ex) : (OutC.er e : Res β) = .er e := rfl

/-- a thing that can be changed -/
def tob : T → Bool
  | .lst _ => true
  | .dK _ => true
  | .dT _ => true
  | .ins _ _ => true
  | _ => false
/-- what is known of a slot -/
inductive Sm where
  | any | hold (t : T) | own (k : Option Nat) (t : T)
def SmR : Sm → Sl → Prop
  | .any, _ => True
  | .hold t, s => s = .fz t ∨ (s = .own none t ∧ tob t = true)
  | .own k t, s => s = .own k t
abbrev Ctx := List Sm
inductive EnvR : Ctx → FX.Env → Prop
  | nil : EnvR [] []
  | cons {m : Sm} {s : Sl} {Γ : Ctx} {ρ : FX.Env} (h : SmR m s) (r : EnvR Γ ρ) : EnvR (m :: Γ) (s :: ρ)
theorem EnvR.get {i : Nat} {m : Sm} : ∀ {Γ : Ctx} {ρ : FX.Env} {i : Nat}, EnvR Γ ρ → Γ[i]? = some m → ∃ s, ρ[i]? = some s ∧ SmR m s
  | _, _, 0, .cons h r, e => by cases e; exact ⟨_, rfl, h⟩
  | _, _, i + 1, .cons h r, e => by simpa using EnvR.get (i := i) r (by simpa using e)
theorem EnvR.set {m : Sm} {s : Sl} (hs : SmR m s) : ∀ {Γ : Ctx} {ρ : FX.Env} {i : Nat}, EnvR Γ ρ → EnvR (Γ.set i m) (ρ.set i s)
  | _, _, _, .nil => by simp; exact .nil
  | _, _, 0, .cons h r => .cons hs r
  | _, _, i + 1, .cons h r => .cons h (EnvR.set hs r)
theorem EnvR.len : ∀ {Γ : Ctx} {ρ : FX.Env}, EnvR Γ ρ → ρ.length = Γ.length
  | _, _, .nil => rfl
  | _, _, .cons h r => by simp [r.len]
/-- one slot changed, as before -/
theorem EnvR.put {m : Sm} {s : Sl} (hs : SmR m s) : ∀ {Γ : Ctx} {ρ : FX.Env} {i : Nat}, EnvR Γ ρ → Γ[i]? = some m → EnvR Γ (ρ.set i s)
  | _, _, _, .nil, _ => by simp; exact .nil
  | _, _, 0, .cons h r, e => by cases e; exact .cons hs r
  | _, _, i + 1, .cons h r, e => .cons h (EnvR.put hs r (by simpa using e))
theorem EnvR.start (ts : List T) (n : Nat) : EnvR (ts.map Sm.hold ++ List.replicate n Sm.any) (ts.map Sl.fz ++ List.replicate n Sl.un) := by
  induction ts with
  | nil =>
    induction n with
    | zero => exact .nil
    | succ n ih => exact .cons trivial ih
  | cons t ts ih => exact .cons (.inl rfl) ih
/-- what is held stays held -/
def Mono (Γ Γ' : Ctx) : Prop := ∀ (i : Nat) (t : T), Γ[i]? = some (Sm.hold t) → Γ'[i]? = some (Sm.hold t)
theorem Mono.refl (Γ : Ctx) : Mono Γ Γ := fun _ _ h => h
theorem Mono.trans {Γ Γ1 Γ2 : Ctx} (a : Mono Γ Γ1) (b : Mono Γ1 Γ2) : Mono Γ Γ2 := fun i t h => b i t (a i t h)
theorem Mono.own {Γ : Ctx} {i : Nat} {k : Option Nat} {t u : T} (h : Γ[i]? = some (.own k t)) : Mono Γ (Γ.set i (.own k u)) := fun j v e => by
  rw [List.getElem?_set]
  split
  · rename_i z; subst z; rw [h] at e; cases e
  · exact e
/-- a value's kind: new; the object of an owning slot; any other -/
inductive Kd where
  | o | s | e
def Kd.ns : Kd → Prop
  | .s => False
  | _ => True
def VR : Kd → Ctx → Vl → T → Prop
  | .o, _, w, t => w = .own t ∧ tob t = true
  | .s, Γ, w, t => ∃ i k, w = .bor i ∧ Γ[i]? = some (.own k t)
  | .e, Γ, w, t => w = .fz t ∨ (w = .own t ∧ tob t = true) ∨ ∃ i, w = .bor i ∧ Γ[i]? = some (.hold t) ∧ tob t = true
/-- held while others are found -/
def VN (Γ : Ctx) (w : Vl) (t : T) : Prop := w = .fz t ∨ ∃ i, w = .bor i ∧ Γ[i]? = some (.hold t) ∧ tob t = true
def VS (Γ : Ctx) (w : Vl) (t : T) : Prop := VN Γ w t ∨ ∃ i k, w = .bor i ∧ Γ[i]? = some (.own k t)
theorem VR.vn {k : Kd} {Γ : Ctx} {w : Vl} {t : T} (h : VR k Γ w t) (hk : k.ns) : VN Γ w.norm t := by
  cases k with
  | o => obtain ⟨rfl, _⟩ := h; exact .inl rfl
  | s => exact hk.elim
  | e =>
    rcases h with rfl | ⟨rfl, _⟩ | ⟨i, rfl, e⟩
    · exact .inl rfl
    · exact .inl rfl
    · exact .inr ⟨i, rfl, e⟩
theorem VR.vs {k : Kd} {Γ : Ctx} {w : Vl} {t : T} (h : VR k Γ w t) : VS Γ w.norm t := by
  cases k with
  | o => exact .inl (h.vn trivial)
  | e => exact .inl (h.vn trivial)
  | s => obtain ⟨i, k, rfl, e⟩ := h; exact .inr ⟨i, k, rfl, e⟩
theorem VN.mono {Γ Γ' : Ctx} {w : Vl} {t : T} (h : VN Γ w t) (m : Mono Γ Γ') : VN Γ' w t := by
  rcases h with rfl | ⟨i, rfl, e, ob⟩
  · exact .inl rfl
  · exact .inr ⟨i, rfl, m i t e, ob⟩
theorem VS.look {Γ : Ctx} {ρ : FX.Env} {w : Vl} {t : T} (E : EnvR Γ ρ) (h : VS Γ w t) : look ρ w = some t := by
  rcases h with (rfl | ⟨i, rfl, e, ob⟩) | ⟨i, k, rfl, e⟩
  · rfl
  · obtain ⟨s, es, hs⟩ := E.get (i := i) e
    rw [Ev.look_bor, es]
    rcases hs with rfl | ⟨rfl, _⟩ <;> rfl
  · obtain ⟨s, es, hs⟩ := E.get (i := i) e
    rw [Ev.look_bor, es]
    cases hs; rfl
theorem VN.look {Γ : Ctx} {ρ : FX.Env} {w : Vl} {t : T} (E : EnvR Γ ρ) (h : VN Γ w t) : look ρ w = some t := VS.look E (.inl h)
theorem VN.esc {Γ : Ctx} {ρ : FX.Env} {w : Vl} {t : T} (E : EnvR Γ ρ) (h : VN Γ w t) : ∃ ρ', esc1 w ρ = some (t, ρ') ∧ EnvR Γ ρ' := by
  rcases h with rfl | ⟨i, rfl, e, ob⟩
  · exact ⟨ρ, rfl, E⟩
  · obtain ⟨s, es, hs⟩ := E.get (i := i) e
    rw [Ev.esc1_bor, es]
    rcases hs with rfl | ⟨rfl, _⟩
    · exact ⟨ρ, rfl, E⟩
    · exact ⟨_, rfl, E.put (m := .hold t) (.inl rfl) e⟩
inductive VNs (Γ : Ctx) : List Vl → List T → Prop
  | nil : VNs Γ [] []
  | cons {w : Vl} {t : T} {ws : List Vl} {ts : List T} (h : VN Γ w t) (r : VNs Γ ws ts) : VNs Γ (w :: ws) (t :: ts)
inductive VSs (Γ : Ctx) : List Vl → List T → Prop
  | nil : VSs Γ [] []
  | cons {w : Vl} {t : T} {ws : List Vl} {ts : List T} (h : VS Γ w t) (r : VSs Γ ws ts) : VSs Γ (w :: ws) (t :: ts)
theorem VNs.escs : ∀ {Γ : Ctx} {ρ : FX.Env} {ws : List Vl} {ts : List T}, EnvR Γ ρ → VNs Γ ws ts → ∃ ρ', escs ws ρ = some (ts, ρ') ∧ EnvR Γ ρ'
  | _, ρ, _, _, E, .nil => ⟨ρ, rfl, E⟩
  | _, ρ, _, _, E, .cons h r => by
    obtain ⟨ρ1, e1, E1⟩ := h.esc E
    obtain ⟨ρ2, e2, E2⟩ := r.escs E1
    exact ⟨ρ2, by rw [Ev.escs_cons, e1]; dsimp only; rw [e2], E2⟩
theorem VSs.looks : ∀ {Γ : Ctx} {ρ : FX.Env} {ws : List Vl} {ts : List T}, EnvR Γ ρ → VSs Γ ws ts → looks ρ ws = some ts
  | _, ρ, _, _, E, .nil => rfl
  | _, ρ, _, _, E, .cons h r => by
    rw [Ev.looks_cons, h.look E, r.looks E]
section
variable {β : Type} [OutC β]
inductive XO (Γ : Ctx) (L : Ctx → Kd → T → β → Prop) : R Vl → β → Prop
  | ok {w : Vl} {ρ : FX.Env} {Γ' : Ctx} {k : Kd} {t : T} {r : β} (E : EnvR Γ' ρ) (M : Mono Γ Γ') (V : VR k Γ' w t) (l : L Γ' k t r) : XO Γ L (.ok w ρ) r
  | er {x : Ex} {ρ : FX.Env} : XO Γ L (.err x ρ) (OutC.er x)
  | no {r : R Vl} : XO Γ L r OutC.no
inductive XTO (Γ : Ctx) (L : Ctx → Bool → β → Prop) : R Bool → β → Prop
  | ok {b : Bool} {ρ : FX.Env} {Γ' : Ctx} {r : β} (E : EnvR Γ' ρ) (M : Mono Γ Γ') (l : L Γ' b r) : XTO Γ L (.ok b ρ) r
  | er {x : Ex} {ρ : FX.Env} : XTO Γ L (.err x ρ) (OutC.er x)
  | no {r : R Bool} : XTO Γ L r OutC.no
inductive XAO (Γ : Ctx) (L : Ctx → List T → β → Prop) : R (List Vl) → β → Prop
  | ok {ws : List Vl} {ρ : FX.Env} {Γ' : Ctx} {ts : List T} {r : β} (E : EnvR Γ' ρ) (M : Mono Γ Γ') (V : VNs Γ' ws ts) (l : L Γ' ts r) : XAO Γ L (.ok ws ρ) r
  | er {x : Ex} {ρ : FX.Env} : XAO Γ L (.err x ρ) (OutC.er x)
  | no {r : R (List Vl)} : XAO Γ L r OutC.no
inductive XBO (Γ : Ctx) (L : Ctx → List T → β → Prop) : R (List Vl) → β → Prop
  | ok {ws : List Vl} {ρ : FX.Env} {Γ' : Ctx} {ts : List T} {r : β} (E : EnvR Γ' ρ) (M : Mono Γ Γ') (V : VSs Γ' ws ts) (l : L Γ' ts r) : XBO Γ L (.ok ws ρ) r
  | er {x : Ex} {ρ : FX.Env} : XBO Γ L (.err x ρ) (OutC.er x)
  | no {r : R (List Vl)} : XBO Γ L r OutC.no
inductive XIO (Γ : Ctx) (L : Ctx → List T → β → Prop) : R (List T) → β → Prop
  | ok {ρ : FX.Env} {Γ' : Ctx} {ts : List T} {r : β} (E : EnvR Γ' ρ) (M : Mono Γ Γ') (l : L Γ' ts r) : XIO Γ L (.ok ts ρ) r
  | er {x : Ex} {ρ : FX.Env} : XIO Γ L (.err x ρ) (OutC.er x)
  | no {r : R (List T)} : XIO Γ L r OutC.no
/-- an expression; what is to hold of its value and of what comes next -/
def XE (Γ : Ctx) (f : FX.Env → R Vl) (L : Ctx → Kd → T → β → Prop) (r : β) : Prop := ∀ ρ, EnvR Γ ρ → XO Γ L (f ρ) r
def XT (Γ : Ctx) (f : FX.Env → R Bool) (L : Ctx → Bool → β → Prop) (r : β) : Prop := ∀ ρ, EnvR Γ ρ → XTO Γ L (f ρ) r
/-- arguments that are handed on -/
def XA (Γ : Ctx) (f : FX.Env → R (List Vl)) (L : Ctx → List T → β → Prop) (r : β) : Prop := ∀ ρ, EnvR Γ ρ → XAO Γ L (f ρ) r
/-- arguments that are looked at -/
def XB (Γ : Ctx) (f : FX.Env → R (List Vl)) (L : Ctx → List T → β → Prop) (r : β) : Prop := ∀ ρ, EnvR Γ ρ → XBO Γ L (f ρ) r
/-- what is walked over -/
def XI (Γ : Ctx) (f : FX.Env → R (List T)) (L : Ctx → List T → β → Prop) (r : β) : Prop := ∀ ρ, EnvR Γ ρ → XIO Γ L (f ρ) r
/-- an operation -/
inductive OpL {α : Type} (o : Option α) (L : α → β → Prop) : β → Prop
  | ok {a : α} {r : β} (h : o = some a) (l : L a r) : OpL o L r
  | no : OpL o L OutC.no
def NvL (Γ : Ctx) (L : Ctx → Kd → T → β → Prop) (v : Nv) (r : β) : Prop := match v with
  | .fz t => L Γ .e t r
  | .own t => tob t = true ∧ L Γ .o t r
abbrev OpN (o : Option Nv) (Γ : Ctx) (L : Ctx → Kd → T → β → Prop) (r : β) : Prop := OpL o (NvL Γ L) r
theorem opN_fz {o : Option Nv} {Γ : Ctx} {L : Ctx → Kd → T → β → Prop} {r : β} {t : T} (h : o = some (.fz t)) (l : L Γ .e t r) : OpN o Γ L r := .ok h l
theorem opN_own {o : Option Nv} {Γ : Ctx} {L : Ctx → Kd → T → β → Prop} {r : β} {t : T} (h : o = some (.own t)) (l : L Γ .o t r) (hb : tob t = true := by rfl) : OpN o Γ L r := .ok h ⟨hb, l⟩
theorem of_XO {o : Option Nv} {Γ Γ0 : Ctx} {L : Ctx → Kd → T → β → Prop} {r : β} {ρ : FX.Env} (E : EnvR Γ ρ) (M : Mono Γ0 Γ) (h : OpN o Γ L r) : XO Γ0 L (R.of o ρ) r := by
  cases h with
  | no => exact .no
  | ok h l =>
    rename_i v
    subst h
    cases v with
    | fz t => exact .ok (k := .e) E M (Or.inl rfl) l
    | own t => exact .ok (k := .o) E M ⟨rfl, l.1⟩ l.2
theorem XO.mono {Γ Γ0 : Ctx} {L : Ctx → Kd → T → β → Prop} {r : β} {x : R Vl} (M : Mono Γ0 Γ) (h : XO Γ L x r) : XO Γ0 L x r := by
  cases h with
  | ok E M' V l => exact .ok E (M.trans M') V l
  | er => exact .er
  | no => exact .no
theorem XTO.mono {Γ Γ0 : Ctx} {L : Ctx → Bool → β → Prop} {r : β} {x : R Bool} (M : Mono Γ0 Γ) (h : XTO Γ L x r) : XTO Γ0 L x r := by
  cases h with
  | ok E M' l => exact .ok E (M.trans M') l
  | er => exact .er
  | no => exact .no
/-! ### expressions -/
theorem x_var {Γ : Ctx} {L : Ctx → Kd → T → β → Prop} {r : β} {i : Nat} {t : T} (h : Γ[i]? = some (.hold t)) (l : L Γ .e t r) : XE Γ (fVar i) L r := fun ρ E => by
  obtain ⟨s, es, hs⟩ := E.get (i := i) h
  rw [Ev.ap_var, es]
  rcases hs with rfl | ⟨rfl, ob⟩
  · exact .ok (k := .e) E (.refl _) (Or.inl rfl) l
  · exact .ok (k := .e) E (.refl _) (Or.inr (Or.inr ⟨i, rfl, h, ob⟩)) l
theorem x_own {Γ : Ctx} {L : Ctx → Kd → T → β → Prop} {r : β} {i : Nat} {k : Option Nat} {t : T} (h : Γ[i]? = some (.own k t)) (l : L Γ .s t r) : XE Γ (fVar i) L r := fun ρ E => by
  obtain ⟨s, es, hs⟩ := E.get (i := i) h
  rw [Ev.ap_var, es]
  cases hs
  exact .ok (k := .s) E (.refl _) ⟨i, k, rfl, h⟩ l
theorem x_c {Γ : Ctx} {L : Ctx → Kd → T → β → Prop} {r : β} {t : T} (l : L Γ .e t r) : XE Γ (fC t) L r := fun ρ E => .ok (k := .e) E (.refl _) (Or.inl rfl) l
/-- a text without names -/
theorem x_cl {Γ : Ctx} {L : Ctx → Kd → T → β → Prop} {r : β} {t : T} {f : FX.Env → R Vl} (h : ∀ ρ, f ρ = .ok (.own t) ρ) (l : L Γ .o t r) (hb : tob t = true := by rfl) : XE Γ f L r := fun ρ E => by
  rw [h]; exact .ok (k := .o) E (.refl _) ⟨rfl, hb⟩ l
theorem x_cf {Γ : Ctx} {L : Ctx → Kd → T → β → Prop} {r : β} {t : T} {f : FX.Env → R Vl} (h : ∀ ρ, f ρ = .ok (.fz t) ρ) (l : L Γ .e t r) : XE Γ f L r := fun ρ E => by
  rw [h]; exact .ok (k := .e) E (.refl _) (Or.inl rfl) l
/-- the same tree in other words -/
theorem x_as {Γ : Ctx} {L : Ctx → Kd → T → β → Prop} {r : β} {f : FX.Env → R Vl} (t u : T) (e : t = u) (h : XE Γ f (fun Γ k t' r => t' = t ∧ L Γ k u r) r) : XE Γ f L r := fun ρ E => by
  have h := h ρ E
  generalize f ρ = x at h ⊢
  cases h with
  | er => exact .er
  | no => exact .no
  | ok E1 M V l => obtain ⟨z, l⟩ := l; subst z; subst e; exact .ok E1 M V l
/-- the first value is held while the second is found -/
theorem x_bin {Γ : Ctx} {L : Ctx → Kd → T → β → Prop} {r : β} {op : T → T → Option Nv} {f g : FX.Env → R Vl} (h : XE Γ f (fun Γ1 k t r1 => k.ns ∧ XE Γ1 g (fun Γ2 _ u r2 => OpN (op t u) Γ2 L r2) r1) r) : XE Γ (fBin op f g) L r := fun ρ E => by
  have h := h ρ E
  rw [Ev.ap_bin]
  generalize f ρ = x at h ⊢
  cases h with
  | er => exact .er
  | no => exact .no
  | ok E1 M V l =>
    rename_i w ρ1 Γ1 k t
    obtain ⟨hk, l⟩ := l
    have h2 := l _ E1
    show XO Γ L (R.bind (R.norm (g ρ1)) fun u ρ2 => R.of (look2 ρ2 w.norm u op) ρ2) r
    generalize g ρ1 = y at h2 ⊢
    cases h2 with
    | er => exact .er
    | no => exact .no
    | ok E2 M2 V2 l2 =>
      rename_i u ρ2 Γ2 k2 t2
      have e : look2 ρ2 w.norm u.norm op = op t t2 := by
        rw [Ev.look2_eq, ((V.vn hk).mono M2).look E2, V2.vs.look E2]
      show XO Γ L (R.of (look2 ρ2 w.norm u.norm op) ρ2) r
      rw [e]
      exact of_XO E2 (M.trans M2) l2
theorem x_binS {Γ : Ctx} {L : Ctx → Kd → T → β → Prop} {r : β} {op : T → T → Option Nv} {f g : FX.Env → R Vl} (h : XE Γ f (fun Γ1 k t r1 => XE Γ1 g (fun Γ2 _ u r2 => Γ2 = Γ1 ∧ OpN (op t u) Γ2 L r2) r1) r) : XE Γ (fBin op f g) L r := fun ρ E => by
  have h := h ρ E
  rw [Ev.ap_bin]
  generalize f ρ = x at h ⊢
  cases h with
  | er => exact .er
  | no => exact .no
  | ok E1 M V l =>
    rename_i w ρ1 Γ1 k t
    have h2 := l _ E1
    show XO Γ L (R.bind (R.norm (g ρ1)) fun u ρ2 => R.of (look2 ρ2 w.norm u op) ρ2) r
    generalize g ρ1 = y at h2 ⊢
    cases h2 with
    | er => exact .er
    | no => exact .no
    | ok E2 M2 V2 l2 =>
      rename_i u ρ2 Γ2 k2 t2
      obtain ⟨eg, l2⟩ := l2
      subst eg
      have e : look2 ρ2 w.norm u.norm op = op t t2 := by
        rw [Ev.look2_eq, V.vs.look E2, V2.vs.look E2]
      show XO Γ L (R.of (look2 ρ2 w.norm u.norm op) ρ2) r
      rw [e]
      exact of_XO E2 (M.trans M2) l2
theorem t_cmp {Γ : Ctx} {L : Ctx → Bool → β → Prop} {r : β} {op : T → T → Option Bool} {f g : FX.Env → R Vl} (h : XE Γ f (fun Γ1 k t r1 => k.ns ∧ XE Γ1 g (fun Γ2 _ u r2 => OpL (op t u) (L Γ2) r2) r1) r) : XT Γ (fCmpT op f g) L r := fun ρ E => by
  have h := h ρ E
  rw [Ev.ap_cmp]
  generalize f ρ = x at h ⊢
  cases h with
  | er => exact .er
  | no => exact .no
  | ok E1 M V l =>
    rename_i w ρ1 Γ1 k t
    obtain ⟨hk, l⟩ := l
    have h2 := l _ E1
    show XTO Γ L (R.bind (R.norm (g ρ1)) fun u ρ2 => R.ofB (look2 ρ2 w.norm u op) ρ2) r
    generalize g ρ1 = y at h2 ⊢
    cases h2 with
    | er => exact .er
    | no => exact .no
    | ok E2 M2 V2 l2 =>
      rename_i u ρ2 Γ2 k2 t2
      have e : look2 ρ2 w.norm u.norm op = op t t2 := by
        rw [Ev.look2_eq, ((V.vn hk).mono M2).look E2, V2.vs.look E2]
      show XTO Γ L (R.ofB (look2 ρ2 w.norm u.norm op) ρ2) r
      rw [e]
      cases l2 with
      | no => exact .no
      | ok h l => rw [h]; exact .ok E2 (M.trans M2) l
theorem t_cmpS {Γ : Ctx} {L : Ctx → Bool → β → Prop} {r : β} {op : T → T → Option Bool} {f g : FX.Env → R Vl} (h : XE Γ f (fun Γ1 k t r1 => XE Γ1 g (fun Γ2 _ u r2 => Γ2 = Γ1 ∧ OpL (op t u) (L Γ2) r2) r1) r) : XT Γ (fCmpT op f g) L r := fun ρ E => by
  have h := h ρ E
  rw [Ev.ap_cmp]
  generalize f ρ = x at h ⊢
  cases h with
  | er => exact .er
  | no => exact .no
  | ok E1 M V l =>
    rename_i w ρ1 Γ1 k t
    have h2 := l _ E1
    show XTO Γ L (R.bind (R.norm (g ρ1)) fun u ρ2 => R.ofB (look2 ρ2 w.norm u op) ρ2) r
    generalize g ρ1 = y at h2 ⊢
    cases h2 with
    | er => exact .er
    | no => exact .no
    | ok E2 M2 V2 l2 =>
      rename_i u ρ2 Γ2 k2 t2
      obtain ⟨eg, l2⟩ := l2
      subst eg
      have e : look2 ρ2 w.norm u.norm op = op t t2 := by
        rw [Ev.look2_eq, V.vs.look E2, V2.vs.look E2]
      show XTO Γ L (R.ofB (look2 ρ2 w.norm u.norm op) ρ2) r
      rw [e]
      cases l2 with
      | no => exact .no
      | ok h l => rw [h]; exact .ok E2 (M.trans M2) l
/-- a comparison as a value -/
theorem opN_cm {op : T → T → Option Bool} {t u : T} {Γ : Ctx} {L : Ctx → Kd → T → β → Prop} {r : β} (h : OpL (op t u) (fun b r => L Γ .e (.bl b) r) r) : OpN (gCm op t u) Γ L r := by
  cases h with
  | no => exact .no
  | @ok b r h l => exact OpL.ok (a := Nv.fz (.bl b)) (by rw [Ev.gcm_eq, h]; rfl) (show NvL Γ L (.fz (.bl b)) r from l)
theorem t_tru {Γ : Ctx} {L : Ctx → Bool → β → Prop} {r : β} {f : FX.Env → R Vl} (h : XE Γ f (fun Γ1 _ t r1 => OpL t.tru (L Γ1) r1) r) : XT Γ (fTru f) L r := fun ρ E => by
  have h := h ρ E
  rw [Ev.ap_tru]
  generalize f ρ = x at h ⊢
  cases h with
  | er => exact .er
  | no => exact .no
  | ok E1 M V l =>
    rename_i w ρ1 Γ1 k t
    show XTO Γ L (R.ofB ((look ρ1 w.norm).bind T.tru) ρ1) r
    rw [V.vs.look E1]
    show XTO Γ L (R.ofB t.tru ρ1) r
    cases l with
    | no => exact .no
    | ok h l => rw [h]; exact .ok E1 M l
theorem t_not {Γ : Ctx} {L : Ctx → Bool → β → Prop} {r : β} {f : FX.Env → R Bool} (h : XT Γ f (fun Γ1 b r1 => L Γ1 (!b) r1) r) : XT Γ (fNot f) L r := fun ρ E => by
  have h := h ρ E
  rw [Ev.ap_not]
  generalize f ρ = x at h ⊢
  cases h with
  | er => exact .er
  | no => exact .no
  | ok E1 M l => exact .ok E1 M l
/-- no effect, no risk: b is the answer -/
abbrev XP (Γ : Ctx) (f : FX.Env → R Bool) (b : Bool) : Prop := XT (β := Res Unit) Γ f (fun Γ1 c r => Γ1 = Γ ∧ c = b ∧ r = .ok ()) (.ok ())
abbrev XPv (Γ : Ctx) (f : FX.Env → R Vl) (t : T) : Prop := XE (β := Res Unit) Γ f (fun Γ1 k u r => Γ1 = Γ ∧ k.ns ∧ u = t ∧ r = .ok ()) (.ok ())
theorem XP.run {Γ : Ctx} {f : FX.Env → R Bool} {b : Bool} (h : XP Γ f b) {ρ : FX.Env} (E : EnvR Γ ρ) : ∃ ρ', f ρ = .ok b ρ' ∧ EnvR Γ ρ' := by
  have h := h ρ E
  generalize f ρ = x at h ⊢
  generalize hr : (Res.ok () : Res Unit) = r at h
  cases h with
  | er => cases hr
  | no => cases hr
  | ok E1 M l => obtain ⟨rfl, rfl, _⟩ := l; exact ⟨_, rfl, E1⟩
theorem XPv.run {Γ : Ctx} {f : FX.Env → R Vl} {t : T} (h : XPv Γ f t) {ρ : FX.Env} (E : EnvR Γ ρ) : ∃ k w ρ', f ρ = .ok w ρ' ∧ EnvR Γ ρ' ∧ VR k Γ w t ∧ k.ns := by
  have h := h ρ E
  generalize f ρ = x at h ⊢
  generalize hr : (Res.ok () : Res Unit) = r at h
  cases h with
  | er => cases hr
  | no => cases hr
  | ok E1 M V l => obtain ⟨rfl, k, rfl, _⟩ := l; exact ⟨_, _, _, rfl, E1, V, k⟩
/-- a and b, b without risk -/
theorem t_and {Γ : Ctx} {L : Ctx → Bool → β → Prop} {r : β} {f g : FX.Env → R Bool} (c : Bool) (h : XT Γ f (fun Γ1 b r1 => XP Γ1 g c ∧ L Γ1 (b && c) r1) r) : XT Γ (fAnd f g) L r := fun ρ E => by
  have h := h ρ E
  rw [Ev.ap_and]
  generalize f ρ = x at h ⊢
  cases h with
  | er => exact .er
  | no => exact .no
  | ok E1 M l =>
    rename_i b ρ1 Γ1
    obtain ⟨h2, l⟩ := l
    show XTO _ L (if b = true then g ρ1 else .ok false ρ1) r
    obtain ⟨ρ2, ec, E2⟩ := h2.run E1
    rw [ec]
    cases b with
    | true => exact .ok E2 M l
    | false => exact .ok E1 M l
theorem t_or {Γ : Ctx} {L : Ctx → Bool → β → Prop} {r : β} {f g : FX.Env → R Bool} (c : Bool) (h : XT Γ f (fun Γ1 b r1 => XP Γ1 g c ∧ L Γ1 (b || c) r1) r) : XT Γ (fOr f g) L r := fun ρ E => by
  have h := h ρ E
  rw [Ev.ap_or]
  generalize f ρ = x at h ⊢
  cases h with
  | er => exact .er
  | no => exact .no
  | ok E1 M l =>
    rename_i b ρ1 Γ1
    obtain ⟨h2, l⟩ := l
    show XTO _ L (if b = true then .ok true ρ1 else g ρ1) r
    obtain ⟨ρ2, ec, E2⟩ := h2.run E1
    rw [ec]
    cases b with
    | true => exact .ok E1 M l
    | false => exact .ok E2 M l
theorem XTO.bnd {Γ Γ0 : Ctx} {L : Ctx → Bool → β → Prop} {x : R Bool} {q : Res Bool} {K : Bool → β} (M : Mono Γ0 Γ) (h : XTO Γ (fun Γ2 c r2 => Γ2 = Γ ∧ r2 = .ok c) x q) (hk : ∀ c, L Γ c (K c)) : XTO Γ0 L x (bnd q K) := by
  cases h with
  | er => exact .er
  | no => exact .no
  | ok E2 M2 l => obtain ⟨rfl, rfl⟩ := l; exact .ok E2 M (hk _)
/-- a and b, both ways come together -/
theorem t_andJ {Γ : Ctx} {L : Ctx → Bool → β → Prop} {r : β} {f g : FX.Env → R Bool} (h : XT Γ f (fun Γ1 b r1 => ∃ (q : Res Bool) (K : Bool → β), r1 = bnd (if b = true then q else .ok false) K ∧ XT Γ1 g (fun Γ2 c r2 => Γ2 = Γ1 ∧ r2 = .ok c) q ∧ ∀ c, L Γ1 c (K c)) r) : XT Γ (fAnd f g) L r := fun ρ E => by
  have h := h ρ E
  rw [Ev.ap_and]
  generalize f ρ = x at h ⊢
  cases h with
  | er => exact .er
  | no => exact .no
  | ok E1 M l =>
    rename_i b ρ1 Γ1
    obtain ⟨q, K, rfl, h2, l⟩ := l
    show XTO _ L (if b = true then g ρ1 else .ok false ρ1) _
    cases b with
    | true => exact (h2 _ E1).bnd M l
    | false => exact .ok E1 M (l false)
theorem t_orJ {Γ : Ctx} {L : Ctx → Bool → β → Prop} {r : β} {f g : FX.Env → R Bool} (h : XT Γ f (fun Γ1 b r1 => ∃ (q : Res Bool) (K : Bool → β), r1 = bnd (if b = true then .ok true else q) K ∧ XT Γ1 g (fun Γ2 c r2 => Γ2 = Γ1 ∧ r2 = .ok c) q ∧ ∀ c, L Γ1 c (K c)) r) : XT Γ (fOr f g) L r := fun ρ E => by
  have h := h ρ E
  rw [Ev.ap_or]
  generalize f ρ = x at h ⊢
  cases h with
  | er => exact .er
  | no => exact .no
  | ok E1 M l =>
    rename_i b ρ1 Γ1
    obtain ⟨q, K, rfl, h2, l⟩ := l
    show XTO _ L (if b = true then .ok true ρ1 else g ρ1) _
    cases b with
    | true => exact .ok E1 M (l true)
    | false => exact (h2 _ E1).bnd M l
/-- a test as a value -/
theorem x_v {Γ : Ctx} {L : Ctx → Kd → T → β → Prop} {r : β} {f : FX.Env → R Bool} (h : XT Γ f (fun Γ1 b r1 => L Γ1 .e (.bl b) r1) r) : XE Γ (fV f) L r := fun ρ E => by
  have h := h ρ E
  rw [Ev.ap_v]
  generalize f ρ = x at h ⊢
  cases h with
  | er => exact .er
  | no => exact .no
  | ok E1 M l => exact .ok (k := .e) E1 M (Or.inl rfl) l
theorem VN.flat {Γ : Ctx} {w : Vl} {t : T} (h : VN Γ w t) (hb : tob t = false) : w = .fz t := by
  rcases h with rfl | ⟨i, rfl, e, ob⟩
  · rfl
  · rw [hb] at ob; cases ob
theorem x_notv {Γ : Ctx} {L : Ctx → Kd → T → β → Prop} {r : β} {f : FX.Env → R Vl} (h : XE Γ f (fun Γ1 k t r1 => k.ns ∧ ∃ b : Bool, t = .bl b ∧ L Γ1 .e (.bl (!b)) r1) r) : XE Γ (fNotV f) L r := fun ρ E => by
  have h := h ρ E
  rw [Ev.ap_notv]
  generalize f ρ = x at h ⊢
  cases h with
  | er => exact .er
  | no => exact .no
  | ok E1 M V l =>
    rename_i w ρ1 Γ1 k t
    obtain ⟨hk, b, rfl, l⟩ := l
    show XO Γ L (R.bind (R.ok w.norm ρ1) _) r
    rw [(V.vn hk).flat rfl]
    exact .ok (k := .e) E1 M (Or.inl rfl) l
theorem x_neg {Γ : Ctx} {L : Ctx → Kd → T → β → Prop} {r : β} {f : FX.Env → R Vl} (h : XE Γ f (fun Γ1 k t r1 => k.ns ∧ ∃ i : Int, t = .int i ∧ L Γ1 .e (.int (-i)) r1) r) : XE Γ (fNeg f) L r := fun ρ E => by
  have h := h ρ E
  rw [Ev.ap_neg]
  generalize f ρ = x at h ⊢
  cases h with
  | er => exact .er
  | no => exact .no
  | ok E1 M V l =>
    rename_i w ρ1 Γ1 k t
    obtain ⟨hk, b, rfl, l⟩ := l
    show XO Γ L (R.bind (R.ok w.norm ρ1) _) r
    rw [(V.vn hk).flat rfl]
    exact .ok (k := .e) E1 M (Or.inl rfl) l
/-- v and u, v or u as values, both ways come together -/
theorem x_andv {Γ : Ctx} {L : Ctx → Kd → T → β → Prop} {r : β} {f g : FX.Env → R Vl} (h : XE Γ f (fun Γ1 k t r1 => k.ns ∧ ∃ b : Bool, t = .bl b ∧ ∃ (q : Res Bool) (K : Bool → β), r1 = bnd (if b = true then q else .ok false) K ∧ XE Γ1 g (fun Γ2 k t r2 => Γ2 = Γ1 ∧ k.ns ∧ ∃ c : Bool, t = .bl c ∧ r2 = .ok c) q ∧ ∀ c, L Γ1 .e (.bl c) (K c)) r) : XE Γ (fAndV f g) L r := fun ρ E => by
  have h := h ρ E
  rw [Ev.ap_andv]
  generalize f ρ = x at h ⊢
  cases h with
  | er => exact .er
  | no => exact .no
  | ok E1 M V l =>
    rename_i w ρ1 Γ1 k t
    obtain ⟨hk, b, rfl, q, K, rfl, h2, l⟩ := l
    show XO Γ L (R.bind (R.ok w.norm ρ1) _) _
    rw [(V.vn hk).flat rfl]
    cases b with
    | false => exact .ok (k := .e) E1 M (Or.inl rfl) (l false)
    | true =>
      have h2 := h2 _ E1
      show XO Γ L (g ρ1) (bnd q K)
      generalize g ρ1 = y at h2 ⊢
      cases h2 with
      | er => exact .er
      | no => exact .no
      | ok E2 M2 V2 l2 =>
        obtain ⟨rfl, hk2, c, rfl, rfl⟩ := l2
        rcases V2.vn hk2 with z | ⟨_, _, _, z⟩
        · rename_i w2 _ k2
          exact .ok (k := k2) E2 M V2 (by
            cases k2 with
            | o => obtain ⟨_, z⟩ := V2; cases z
            | s => exact hk2.elim
            | e => exact l c)
        · cases z
theorem x_orv {Γ : Ctx} {L : Ctx → Kd → T → β → Prop} {r : β} {f g : FX.Env → R Vl} (h : XE Γ f (fun Γ1 k t r1 => k.ns ∧ ∃ b : Bool, t = .bl b ∧ ∃ (q : Res Bool) (K : Bool → β), r1 = bnd (if b = true then .ok true else q) K ∧ XE Γ1 g (fun Γ2 k t r2 => Γ2 = Γ1 ∧ k.ns ∧ ∃ c : Bool, t = .bl c ∧ r2 = .ok c) q ∧ ∀ c, L Γ1 .e (.bl c) (K c)) r) : XE Γ (fOrV f g) L r := fun ρ E => by
  have h := h ρ E
  rw [Ev.ap_orv]
  generalize f ρ = x at h ⊢
  cases h with
  | er => exact .er
  | no => exact .no
  | ok E1 M V l =>
    rename_i w ρ1 Γ1 k t
    obtain ⟨hk, b, rfl, q, K, rfl, h2, l⟩ := l
    show XO Γ L (R.bind (R.ok w.norm ρ1) _) _
    rw [(V.vn hk).flat rfl]
    cases b with
    | true => exact .ok (k := .e) E1 M (Or.inl rfl) (l true)
    | false =>
      have h2 := h2 _ E1
      show XO Γ L (g ρ1) (bnd q K)
      generalize g ρ1 = y at h2 ⊢
      cases h2 with
      | er => exact .er
      | no => exact .no
      | ok E2 M2 V2 l2 =>
        obtain ⟨rfl, hk2, c, rfl, rfl⟩ := l2
        rename_i w2 _ k2
        exact .ok (k := k2) E2 M V2 (by
          cases k2 with
          | o => obtain ⟨_, z⟩ := V2; cases z
          | s => exact hk2.elim
          | e => exact l c)
theorem VR.e_of {k : Kd} {Γ : Ctx} {w : Vl} {t : T} (V : VR k Γ w t) (h : k.ns) : VR .e Γ w t := by
  cases k with
  | o => exact Or.inr (Or.inl V)
  | s => exact h.elim
  | e => exact V
/-- a if c else b, both ways come together -/
theorem x_ifJ {α : Type} {Γ : Ctx} {L : Ctx → Kd → T → β → Prop} {r : β} {c : FX.Env → R Bool} {f g : FX.Env → R Vl} (e : α → T) (h : XT Γ c (fun Γ1 b r1 => ∃ (q1 q2 : Res α) (K : α → β), r1 = bnd (if b = true then q1 else q2) K ∧ XE Γ1 f (fun Γ2 k t r2 => Γ2 = Γ1 ∧ k.ns ∧ ∃ a, r2 = .ok a ∧ t = e a) q1 ∧ XE Γ1 g (fun Γ2 k t r2 => Γ2 = Γ1 ∧ k.ns ∧ ∃ a, r2 = .ok a ∧ t = e a) q2 ∧ ∀ a, L Γ1 .e (e a) (K a)) r) : XE Γ (fIf c f g) L r := fun ρ E => by
  have one : ∀ {Γ1 : Ctx} {x : R Vl} {q : Res α} {K : α → β}, Mono Γ Γ1 → XO Γ1 (fun Γ2 k t r2 => Γ2 = Γ1 ∧ k.ns ∧ ∃ a, r2 = .ok a ∧ t = e a) x q → (∀ a, L Γ1 .e (e a) (K a)) → XO Γ L x (bnd q K) := by
    intro Γ1 x q K M h l
    cases h with
    | er => exact .er
    | no => exact .no
    | ok E2 M2 V2 l2 =>
      obtain ⟨rfl, k, a, rfl, rfl⟩ := l2
      exact .ok (k := .e) E2 M (V2.e_of k) (l a)
  have h := h ρ E
  rw [Ev.ap_if]
  generalize c ρ = x at h ⊢
  cases h with
  | er => exact .er
  | no => exact .no
  | ok E1 M l =>
    rename_i b ρ1 Γ1
    obtain ⟨q1, q2, K, rfl, h1, h2, l⟩ := l
    show XO _ L (if b = true then f ρ1 else g ρ1) _
    cases b with
    | true => exact one M (h1 _ E1) l
    | false => exact one M (h2 _ E1) l
/-- a if c else b without risk -/
theorem x_if {α : Type} {Γ : Ctx} {L : Ctx → Kd → T → β → Prop} {r : β} {c : FX.Env → R Bool} {f g : FX.Env → R Vl} (e : α → T) (a1 a2 : α) (h : XT Γ c (fun Γ1 b r1 => XPv Γ1 f (e a1) ∧ XPv Γ1 g (e a2) ∧ L Γ1 .e (e (if b = true then a1 else a2)) r1) r) : XE Γ (fIf c f g) L r := fun ρ E => by
  have h := h ρ E
  rw [Ev.ap_if]
  generalize c ρ = x at h ⊢
  cases h with
  | er => exact .er
  | no => exact .no
  | ok E1 M l =>
    rename_i b ρ1 Γ1
    obtain ⟨h1, h2, l⟩ := l
    show XO _ L (if b = true then f ρ1 else g ρ1) _
    cases b with
    | true =>
      obtain ⟨k, w, ρ', e1, E2, V, hk⟩ := h1.run E1
      rw [if_pos rfl, e1]
      exact .ok (k := .e) E2 M (V.e_of hk) l
    | false =>
      obtain ⟨k, w, ρ', e1, E2, V, hk⟩ := h2.run E1
      rw [if_neg (by decide), e1]
      exact .ok (k := .e) E2 M (V.e_of hk) l
/-! arguments -/
theorem a_nil {Γ : Ctx} {L : Ctx → List T → β → Prop} {r : β} (l : L Γ [] r) : XA Γ fANil L r := fun ρ E => .ok E (.refl _) .nil l
theorem VNs.mono {Γ Γ' : Ctx} (m : Mono Γ Γ') : ∀ {ws : List Vl} {ts : List T}, VNs Γ ws ts → VNs Γ' ws ts
  | _, _, .nil => .nil
  | _, _, .cons h r => .cons (h.mono m) (r.mono m)
theorem a_cons {Γ : Ctx} {L : Ctx → List T → β → Prop} {r : β} {f : FX.Env → R Vl} {g : FX.Env → R (List Vl)} (h : XE Γ f (fun Γ1 k t r1 => k.ns ∧ XA Γ1 g (fun Γ2 ts r2 => L Γ2 (t :: ts) r2) r1) r) : XA Γ (fACons f g) L r := fun ρ E => by
  have h := h ρ E
  rw [Ev.ap_cons]
  generalize f ρ = x at h ⊢
  cases h with
  | er => exact .er
  | no => exact .no
  | ok E1 M V l =>
    rename_i w ρ1 Γ1 k t
    obtain ⟨hk, l⟩ := l
    have h2 := l _ E1
    show XAO Γ L (R.bind (g ρ1) fun vs ρ2 => .ok (w.norm :: vs) ρ2) r
    generalize g ρ1 = y at h2 ⊢
    cases h2 with
    | er => exact .er
    | no => exact .no
    | ok E2 M2 V2 l2 => exact .ok E2 (M.trans M2) (.cons ((V.vn hk).mono M2) V2) l2
theorem b_nil {Γ : Ctx} {L : Ctx → List T → β → Prop} {r : β} (l : L Γ [] r) : XB Γ fANil L r := fun ρ E => .ok E (.refl _) .nil l
/-- looked at only; what follows has no effect -/
theorem b_cons {Γ : Ctx} {L : Ctx → List T → β → Prop} {r : β} {f : FX.Env → R Vl} {g : FX.Env → R (List Vl)} (h : XE Γ f (fun Γ1 k t r1 => XB Γ1 g (fun Γ2 ts r2 => Γ2 = Γ1 ∧ L Γ2 (t :: ts) r2) r1) r) : XB Γ (fACons f g) L r := fun ρ E => by
  have h := h ρ E
  rw [Ev.ap_cons]
  generalize f ρ = x at h ⊢
  cases h with
  | er => exact .er
  | no => exact .no
  | ok E1 M V l =>
    rename_i w ρ1 Γ1 k t
    have h2 := l _ E1
    show XBO Γ L (R.bind (g ρ1) fun vs ρ2 => .ok (w.norm :: vs) ρ2) r
    generalize g ρ1 = y at h2 ⊢
    cases h2 with
    | er => exact .er
    | no => exact .no
    | ok E2 M2 V2 l2 =>
      obtain ⟨rfl, l2⟩ := l2
      exact .ok E2 (M.trans M2) (.cons V.vs V2) l2
theorem x_cb {Γ : Ctx} {L : Ctx → Kd → T → β → Prop} {r : β} {b : List T → Option Nv} {fa : FX.Env → R (List Vl)} (h : XB Γ fa (fun Γ1 ts r1 => OpN (b ts) Γ1 L r1) r) : XE Γ (fCB b fa) L r := fun ρ E => by
  have h := h ρ E
  rw [Ev.ap_cb]
  generalize fa ρ = x at h ⊢
  cases h with
  | er => exact .er
  | no => exact .no
  | ok E1 M V l =>
    rename_i ws ρ1 Γ1 ts
    show XO Γ L (R.of ((looks ρ1 ws).bind b) ρ1) r
    rw [V.looks E1]
    exact of_XO E1 M l
theorem esc_XO {α : Type} {Γ : Ctx} {L : Ctx → List T → β → Prop} {r : β} {fa : FX.Env → R (List Vl)} {P : R α → β → Prop} {k : List T → FX.Env → R α} {ρ : FX.Env} (E : EnvR Γ ρ) (h : XA Γ fa L r) (p1 : ∀ x ρ, P (.err x ρ) (OutC.er x)) (p2 : ∀ q, P q OutC.no) (hk : ∀ Γ1 ts ρ1 r1, EnvR Γ1 ρ1 → Mono Γ Γ1 → L Γ1 ts r1 → P (k ts ρ1) r1) : P (fEsc fa k ρ) r := by
  have h := h ρ E
  rw [Ev.ap_esc]
  generalize fa ρ = x at h ⊢
  cases h with
  | er => exact p1 _ _
  | no => exact p2 _
  | ok E1 M V l =>
    obtain ⟨ρ2, e, E2⟩ := V.escs E1
    show P (match escs _ _ with | some (ts, ρ2) => k ts ρ2 | none => .stuck) _
    rw [e]
    exact hk _ _ _ _ E2 M l
theorem x_tup {Γ : Ctx} {L : Ctx → Kd → T → β → Prop} {r : β} {fa : FX.Env → R (List Vl)} (h : XA Γ fa (fun Γ1 ts r1 => ts.length ≤ 1000 ∧ L Γ1 .e (.tup ts) r1) r) : XE Γ (fTup fa) L r := fun ρ E => by
  rw [Ev.ap_tup]
  refine esc_XO (P := XO Γ L) E h (fun x ρ => .er) (fun q => .no) fun Γ1 ts ρ1 r1 E1 M l => ?_
  rw [Ev.lim_eq, if_pos l.1]
  exact .ok (k := .e) E1 M (Or.inl rfl) l.2
theorem x_lst {Γ : Ctx} {L : Ctx → Kd → T → β → Prop} {r : β} {fa : FX.Env → R (List Vl)} (h : XA Γ fa (fun Γ1 ts r1 => ts.length ≤ 1000 ∧ L Γ1 .o (.lst ts) r1) r) : XE Γ (fLst fa) L r := fun ρ E => by
  rw [Ev.ap_lst]
  refine esc_XO (P := XO Γ L) E h (fun x ρ => .er) (fun q => .no) fun Γ1 ts ρ1 r1 E1 M l => ?_
  rw [Ev.lim_eq, if_pos l.1]
  exact .ok (k := .o) E1 M ⟨rfl, rfl⟩ l.2
theorem x_dk {Γ : Ctx} {L : Ctx → Kd → T → β → Prop} {r : β} (l : L Γ .o (.dK []) r) : XE Γ fDK L r := fun ρ E => .ok (k := .o) E (.refl _) ⟨rfl, rfl⟩ l
theorem x_dt {Γ : Ctx} {L : Ctx → Kd → T → β → Prop} {r : β} (l : L Γ .o (.dT []) r) : XE Γ fDT L r := fun ρ E => .ok (k := .o) E (.refl _) ⟨rfl, rfl⟩ l
/-- the promise of a def: r is what it gives, in the words e; o: always a new object -/
def PF {α : Type} (m : List T → Rp) (ts : List T) (r : Res α) (o : Bool) (e : α → T) : Prop := match r with
  | .ok a => (o = true → m ts = .ok (.own (e a)) ∧ tob (e a) = true) ∧ ((m ts = .ok (.own (e a)) ∧ tob (e a) = true) ∨ m ts = .ok (.fz (e a)))
  | .er x => m ts = .err x
  | .no => True
def okd (o : Bool) : Kd := if o = true then .o else .e
inductive CL {α : Type} (m : List T → Rp) (ts : List T) (L : Kd → T → β → Prop) : β → Prop
  | mk {q : Res α} {o : Bool} {e : α → T} {K : α → β} (h : PF m ts q o e) (l : ∀ a, L (okd o) (e a) (K a)) : CL m ts L (bnd q K)
theorem x_call {α : Type} {Γ : Ctx} {L : Ctx → Kd → T → β → Prop} {r : β} {m : List T → Rp} {fa : FX.Env → R (List Vl)} (h : XA Γ fa (fun Γ1 ts r1 => CL (α := α) m ts (L Γ1) r1) r) : XE Γ (fCall m fa) L r := fun ρ E => by
  rw [Ev.ap_call]
  refine esc_XO (P := XO Γ L) E h (fun x ρ => .er) (fun q => .no) fun Γ1 ts ρ1 r1 E1 M l => ?_
  cases l with
  | @mk q o e K h l =>
    cases q with
    | no => exact .no
    | er x => rw [show m ts = .err x from h]; exact .er
    | ok a =>
      obtain ⟨h1, h2⟩ := h
      cases o with
      | true => rw [(h1 rfl).1]; exact .ok (k := .o) E1 M ⟨rfl, (h1 rfl).2⟩ (l a)
      | false =>
        rcases h2 with h2 | h2
        · rw [h2.1]; exact .ok (k := .e) E1 M (Or.inr (Or.inl ⟨rfl, h2.2⟩)) (l a)
        · rw [h2]; exact .ok (k := .e) E1 M (Or.inl rfl) (l a)
/-- the promise of a def that changes its first argument -/
def MF {α : Type} (m : T → List T → RpM) (t : T) (ts : List T) (r : Res α) (o : Bool) (e1 e2 : α → T) : Prop := match r with
  | .ok a => (o = true → m t ts = .ok (e1 a) (.own (e2 a)) ∧ tob (e2 a) = true) ∧ ((m t ts = .ok (e1 a) (.own (e2 a)) ∧ tob (e2 a) = true) ∨ m t ts = .ok (e1 a) (.fz (e2 a)))
  | .er x => m t ts = .err x
  | .no => True
inductive CLM {α : Type} (m : T → List T → RpM) (t : T) (ts : List T) (L : T → Kd → T → β → Prop) : β → Prop
  | mk {q : Res α} {o : Bool} {e1 e2 : α → T} {K : α → β} (h : MF m t ts q o e1 e2) (l : ∀ a, L (e1 a) (okd o) (e2 a) (K a)) : CLM m t ts L (bndN q K)
theorem x_callM {α : Type} {Γ : Ctx} {L : Ctx → Kd → T → β → Prop} {r : β} {m : T → List T → RpM} {fa : FX.Env → R (List Vl)} (i : Nat) {k : Option Nat} {t0 : T} (h0 : Γ[i]? = some (.own k t0)) (h : XA Γ fa (fun Γ1 ts r1 => ∃ t, Γ1[i]? = some (.own k t) ∧ CLM (α := α) m t ts (fun t' kd u r2 => L (Γ1.set i (.own k t')) kd u r2) r1) r) : XE Γ (fCallM m (fACons (fVar i) fa)) L r := fun ρ E => by
  obtain ⟨s, es, hs⟩ := E.get (i := i) h0
  cases hs
  have h := h ρ E
  have e0 : fVar i ρ = .ok (.bor i) ρ := by rw [Ev.ap_var, es]
  rw [Ev.ap_callM, Ev.ap_cons, e0, Ev.norm_bor, Ev.bind_ok]
  generalize fa ρ = x at h ⊢
  cases h with
  | er => exact .er
  | no => exact .no
  | ok E1 M V l =>
    rename_i ws ρ1 Γ1 ts
    obtain ⟨t, ht, l⟩ := l
    obtain ⟨ρ2, e, E2⟩ := V.escs E1
    obtain ⟨s, es, hs⟩ := E2.get (i := i) ht
    cases hs
    rw [Ev.bind_ok, Ev.bind_ok]
    dsimp only
    rw [e]
    dsimp only
    rw [Ev.ownT_eq, es]
    dsimp only
    have key : ∀ t', EnvR (Γ1.set i (.own k t')) (ρ2.set i (.own k t')) ∧ Mono Γ (Γ1.set i (.own k t')) := fun t' => ⟨E2.set (m := .own k t') (s := .own k t') rfl, M.trans (.own ht)⟩
    cases l with
    | @mk q o e1 e2 K hm l =>
      cases q with
      | no => exact .no
      | er x => exact .no
      | ok a =>
        obtain ⟨h1, h2⟩ := hm
        cases o with
        | true => rw [(h1 rfl).1]; exact .ok (k := .o) (key _).1 (key _).2 ⟨rfl, (h1 rfl).2⟩ (l a)
        | false =>
          rcases h2 with h2 | h2
          · rw [h2.1]; exact .ok (k := .e) (key _).1 (key _).2 (Or.inr (Or.inl ⟨rfl, h2.2⟩)) (l a)
          · rw [h2]; exact .ok (k := .e) (key _).1 (key _).2 (Or.inl rfl) (l a)
end
end TY
end

section
set_option Elab.async false
set_option linter.all false
set_option maxRecDepth 100000
/-! TY: walks, statements, loops, defs -/
namespace TY
open PySem L2 FX
def rngI (lo hi : Int) : List Int := (List.range (hi - lo).toNat).map fun i => lo + (i : Nat)
def rng (lo hi : Int) : Res (List Int) := if okR lo = true ∧ okR hi = true then .ok (rngI lo hi) else .no
theorem range_map (lo hi : Int) : FX.rangeT lo hi = (rngI lo hi).map T.int := by simp [FX.rangeT, rngI]
def enumP {α : Type} : Int → List α → List (Int × α)
  | _, [] => []
  | k, a :: l => (k, a) :: enumP (k + 1) l
theorem enum_map {α : Type} (e : α → T) : ∀ (l : List α) (k : Nat), enumT k (l.map e) = (enumP k l).map fun p => .tup [.int p.1, e p.2]
  | [], k => rfl
  | a :: l, k => by
    have := enum_map e l (k + 1)
    simp only [List.map_cons, enumT, enumP, this]
    rfl
theorem zip_map {α γ : Type} (e : α → T) (e' : γ → T) : ∀ (l : List α) (m : List γ), zipT (l.map e) (m.map e') = (l.zip m).map fun p => .tup [e p.1, e' p.2]
  | [], m => by simp [zipT]
  | a :: l, [] => by simp [zipT]
  | a :: l, b :: m => by simp [zipT, zip_map e e' l m]
/-- what is said of slots, in weaker words -/
inductive Sub : Ctx → Ctx → Prop
  | nil : Sub [] []
  | k {m : Sm} {Γ Γ' : Ctx} (h : Sub Γ Γ') : Sub (m :: Γ) (m :: Γ')
  | a {m : Sm} {Γ Γ' : Ctx} (h : Sub Γ Γ') : Sub (m :: Γ) (.any :: Γ')
  | w {t : T} {Γ Γ' : Ctx} (h : Sub Γ Γ') (ob : tob t = true := by rfl) : Sub (.own none t :: Γ) (.hold t :: Γ')
theorem Sub.env {Γ Γ' : Ctx} (s : Sub Γ Γ') : ∀ {ρ : FX.Env}, EnvR Γ ρ → EnvR Γ' ρ := by
  induction s with
  | nil => exact fun E => E
  | k h ih => intro ρ E; cases E with | cons a r => exact .cons a (ih r)
  | a h ih => intro ρ E; cases E with | cons a r => exact .cons trivial (ih r)
  | w h ob ih => intro ρ E; cases E with | cons a r => exact .cons (Or.inr ⟨a, ob⟩) (ih r)
section
variable {β : Type} [OutC β]
theorem i_items {Γ : Ctx} {L : Ctx → List T → β → Prop} {r : β} {f : FX.Env → R Vl} (h : XE Γ f (fun Γ1 k t r1 => k.ns ∧ ∃ ts, t.items = some ts ∧ L Γ1 ts r1) r) : XI Γ (fItems f) L r := fun ρ E => by
  have h := h ρ E
  rw [Ev.ap_items]
  generalize f ρ = x at h ⊢
  cases h with
  | er => exact .er
  | no => exact .no
  | ok E1 M V l =>
    rename_i w ρ1 Γ1 k t
    obtain ⟨hk, ts, et, l⟩ := l
    obtain ⟨ρ2, e, E2⟩ := (V.vn hk).esc E1
    show XIO Γ L (match esc1 w.norm ρ1 with | some (t, ρ2) => (match t.items with | some ts => .ok ts ρ2 | none => .stuck) | none => .stuck) r
    rw [e]
    dsimp only
    rw [et]
    exact .ok E2 M l
theorem VNs.flat1 {Γ : Ctx} {ws : List Vl} {t : T} (h : VNs Γ ws [t]) (hb : tob t = false) : ws = [.fz t] := by
  cases h with
  | cons h r => cases r; rw [h.flat hb]
theorem VNs.flat2 {Γ : Ctx} {ws : List Vl} {t u : T} (h : VNs Γ ws [t, u]) (hb : tob t = false) (hb2 : tob u = false) : ws = [.fz t, .fz u] := by
  cases h with
  | cons h r =>
    cases r with
    | cons h2 r => cases r; rw [h.flat hb, h2.flat hb2]
theorem i_range1 {Γ : Ctx} {L : Ctx → List T → β → Prop} {r : β} {fa : FX.Env → R (List Vl)} (h : XA Γ fa (fun Γ1 ts r1 => ∃ (n : Int) (K : List Int → β), ts = [.int n] ∧ r1 = bnd (rng 0 n) K ∧ ∀ l, L Γ1 (l.map T.int) (K l)) r) : XI Γ (fRange1 fa) L r := fun ρ E => by
  have h := h ρ E
  rw [Ev.ap_range1]
  generalize fa ρ = x at h ⊢
  cases h with
  | er => exact .er
  | no => exact .no
  | ok E1 M V l =>
    obtain ⟨n, K, rfl, rfl, l⟩ := l
    have := V.flat1 rfl
    subst this
    show XIO Γ L (if okR n = true then .ok (FX.rangeT 0 n) _ else .stuck) _
    unfold rng
    by_cases ho : okR n = true
    · rw [if_pos ho, if_pos ⟨by decide, ho⟩, range_map]; exact .ok E1 M (l _)
    · rw [if_neg ho, if_neg fun z => ho z.2]; exact .no
theorem i_range2 {Γ : Ctx} {L : Ctx → List T → β → Prop} {r : β} {fa : FX.Env → R (List Vl)} (h : XA Γ fa (fun Γ1 ts r1 => ∃ (m n : Int) (K : List Int → β), ts = [.int m, .int n] ∧ r1 = bnd (rng m n) K ∧ ∀ l, L Γ1 (l.map T.int) (K l)) r) : XI Γ (fRange2 fa) L r := fun ρ E => by
  have h := h ρ E
  rw [Ev.ap_range2]
  generalize fa ρ = x at h ⊢
  cases h with
  | er => exact .er
  | no => exact .no
  | ok E1 M V l =>
    obtain ⟨m, n, K, rfl, rfl, l⟩ := l
    have := V.flat2 rfl rfl
    subst this
    show XIO Γ L (if okR m = true ∧ okR n = true then .ok (FX.rangeT m n) _ else .stuck) _
    unfold rng
    by_cases ho : okR m = true ∧ okR n = true
    · rw [if_pos ho, if_pos ho, range_map]; exact .ok E1 M (l _)
    · rw [if_neg ho, if_neg ho]; exact .no
theorem esc_XIO {Γ : Ctx} {L : Ctx → List T → β → Prop} {L2 : Ctx → List T → β → Prop} {r : β} {fa : FX.Env → R (List Vl)} {k : List T → FX.Env → R (List T)} {ρ : FX.Env} (E : EnvR Γ ρ) (h : XA Γ fa L r) (hk : ∀ Γ1 ts ρ1 r1, EnvR Γ1 ρ1 → Mono Γ Γ1 → L Γ1 ts r1 → XIO Γ L2 (k ts ρ1) r1) : XIO Γ L2 (fEsc fa k ρ) r :=
  esc_XO (P := XIO Γ L2) E h (fun x ρ => .er) (fun q => .no) hk
theorem i_enum {α : Type} {Γ : Ctx} {L : Ctx → List T → β → Prop} {r : β} {fa : FX.Env → R (List Vl)} (h : XA Γ fa (fun Γ1 ts r1 => ∃ (t : T) (l : List α) (e : α → T), ts = [t] ∧ t.items = some (l.map e) ∧ L Γ1 ((enumP 0 l).map fun p => .tup [.int p.1, e p.2]) r1) r) : XI Γ (fEnum fa) L r := fun ρ E => by
  rw [Ev.ap_enum]
  refine esc_XIO E h fun Γ1 ts ρ1 r1 E1 M l => ?_
  obtain ⟨t, l, e, rfl, et, q⟩ := l
  dsimp only
  rw [et]
  dsimp only
  rw [enum_map e l 0]
  exact .ok E1 M q
theorem i_zip {α γ : Type} {Γ : Ctx} {L : Ctx → List T → β → Prop} {r : β} {fa : FX.Env → R (List Vl)} (h : XA Γ fa (fun Γ1 ts r1 => ∃ (t u : T) (l : List α) (m : List γ) (e : α → T) (e' : γ → T), ts = [t, u] ∧ t.items = some (l.map e) ∧ u.items = some (m.map e') ∧ L Γ1 ((l.zip m).map fun p => .tup [e p.1, e' p.2]) r1) r) : XI Γ (fZip fa) L r := fun ρ E => by
  rw [Ev.ap_zip]
  refine esc_XIO E h fun Γ1 ts ρ1 r1 E1 M l => ?_
  obtain ⟨t, u, l, m, e, e', rfl, et, eu, q⟩ := l
  dsimp only
  rw [et, eu]
  dsimp only
  rw [zip_map]
  exact .ok E1 M q
end
/-! ### targets -/
def TG (vs : List Nat) (b : T → FX.Env → Option FX.Env) (t : T) (Γ Γ' : Ctx) : Prop := (∀ ρ, EnvR Γ ρ → ∃ ρ1, b t ρ = some ρ1 ∧ EnvR Γ' ρ1) ∧ (∀ i, i ∉ vs → Γ'[i]? = Γ[i]?) ∧ Γ'.length = Γ.length
def TGs (vs : List Nat) (b : List T → FX.Env → Option FX.Env) (t : List T) (Γ Γ' : Ctx) : Prop := (∀ ρ, EnvR Γ ρ → ∃ ρ1, b t ρ = some ρ1 ∧ EnvR Γ' ρ1) ∧ (∀ i, i ∉ vs → Γ'[i]? = Γ[i]?) ∧ Γ'.length = Γ.length
theorem tg_name {vs : List Nat} {i : Nat} {t : T} {Γ : Ctx} (h : i ∈ vs) : TG vs (bName i) t Γ (Γ.set i (.hold t)) :=
  ⟨fun ρ E => ⟨_, rfl, E.set (m := .hold t) (s := .fz t) (Or.inl rfl)⟩, fun j hj => by
    rw [List.getElem?_set]
    split
    · rename_i z; subst z; exact absurd h hj
    · rfl, by simp⟩
theorem tg_nil {vs : List Nat} {Γ : Ctx} : TGs vs bNil [] Γ Γ := ⟨fun ρ E => ⟨ρ, rfl, E⟩, fun _ _ => rfl, rfl⟩
theorem tg_cons {vs : List Nat} {b : T → FX.Env → Option FX.Env} {c : List T → FX.Env → Option FX.Env} {t : T} {ts : List T} {Γ Γ1 Γ2 : Ctx} (h : TG vs b t Γ Γ1) (h2 : TGs vs c ts Γ1 Γ2) : TGs vs (bCons b c) (t :: ts) Γ Γ2 :=
  ⟨fun ρ E => by
    obtain ⟨ρ1, e1, E1⟩ := h.1 ρ E
    obtain ⟨ρ2, e2, E2⟩ := h2.1 ρ1 E1
    exact ⟨ρ2, by rw [Ev.ap_bcons, e1]; exact e2, E2⟩, fun i hi => (h2.2.1 i hi).trans (h.2.1 i hi), h2.2.2.trans h.2.2⟩
theorem tg_tup {vs : List Nat} {n : Nat} {c : List T → FX.Env → Option FX.Env} {ts : List T} {Γ Γ1 : Ctx} (h : TGs vs c ts Γ Γ1) (hn : ts.length = n := by rfl) : TG vs (bTup n c) (.tup ts) Γ Γ1 :=
  ⟨fun ρ E => by
    obtain ⟨ρ1, e1, E1⟩ := h.1 ρ E
    exact ⟨ρ1, by rw [Ev.ap_btup, if_pos hn]; exact e1, E1⟩, h.2⟩
/-! ### comprehensions -/
def wipeC (Γ : Ctx) : List Nat → Ctx
  | [] => Γ
  | v :: vs => (wipeC Γ vs).set v .any
theorem wipe_env {Γ : Ctx} {ρ : FX.Env} (E : EnvR Γ ρ) : ∀ vs, EnvR (wipeC Γ vs) (wipeE ρ vs)
  | [] => E
  | v :: vs => (wipe_env E vs).set (m := .any) (s := .un) trivial
theorem wipe_off {Γ : Ctx} : ∀ (vs : List Nat) (i : Nat), i ∉ vs → (wipeC Γ vs)[i]? = Γ[i]?
  | [], i, _ => rfl
  | v :: vs, i, h => by
    simp only [List.mem_cons, not_or] at h
    show ((wipeC Γ vs).set v .any)[i]? = _
    rw [List.getElem?_set, if_neg fun z => h.1 z.symm]
    exact wipe_off vs i h.2
theorem wipe_len {Γ : Ctx} : ∀ vs, (wipeC Γ vs).length = Γ.length
  | [] => rfl
  | v :: vs => by show ((wipeC Γ vs).set v .any).length = _; simp [wipe_len vs]
theorem envR_of {Γ : Ctx} {ρ : FX.Env} (hl : ρ.length = Γ.length) (h : ∀ (i : Nat) (m : Sm), Γ[i]? = some m → ∃ s, ρ[i]? = some s ∧ SmR m s) : EnvR Γ ρ := by
  induction Γ generalizing ρ with
  | nil =>
    have : ρ = [] := List.length_eq_zero_iff.mp hl
    subst this; exact .nil
  | cons m Γ ih =>
    cases ρ with
    | nil => simp at hl
    | cons s ρ =>
      refine .cons ?_ (ih (by simpa using hl) fun i m' e => by simpa using h (i + 1) m' (by simpa using e))
      obtain ⟨s', e, hs⟩ := h 0 m rfl
      cases e; exact hs
theorem back_get {ρ : FX.Env} : ∀ (vs : List Nat) (ρ' : FX.Env) (i : Nat), i ∉ vs → (backE ρ vs ρ')[i]? = ρ'[i]?
  | [], ρ', i, _ => rfl
  | v :: vs, ρ', i, h => by
    simp only [List.mem_cons, not_or] at h
    show ((backE ρ vs ρ').set v (ρ[v]?.getD .un))[i]? = _
    rw [List.getElem?_set, if_neg fun z => h.1 z.symm]
    exact back_get vs ρ' i h.2
theorem back_in {ρ : FX.Env} : ∀ (vs : List Nat) (ρ' : FX.Env) (i : Nat) (s : Sl), i ∈ vs → ρ'.length = ρ.length → ρ[i]? = some s → (backE ρ vs ρ')[i]? = some s
  | v :: vs, ρ', i, s, h, hl, e => by
    have hb : ∀ ws, (backE ρ ws ρ').length = ρ'.length := fun ws => by
      induction ws with
      | nil => rfl
      | cons w ws ih => show ((backE ρ ws ρ').set w _).length = _; simp [ih]
    show ((backE ρ vs ρ').set v (ρ[v]?.getD .un))[i]? = _
    rw [List.getElem?_set]
    have hi : i < ρ.length := (List.getElem?_eq_some_iff.mp e).1
    by_cases z : v = i
    · subst z
      rw [if_pos rfl, if_pos (by rw [hb, hl]; exact hi), e]; rfl
    · rw [if_neg z]
      exact back_in vs ρ' i s ((List.mem_cons.mp h).resolve_left fun q => z q.symm) hl e
theorem back_len {ρ : FX.Env} (ρ' : FX.Env) : ∀ vs, (backE ρ vs ρ').length = ρ'.length
  | [] => rfl
  | w :: ws => by show ((backE ρ ws ρ').set w _).length = _; simp [back_len ρ' ws]
theorem back_env {Γ Γ1 : Ctx} {ρ ρ1 : FX.Env} {vs : List Nat} (E : EnvR Γ ρ) (E1 : EnvR Γ1 ρ1) (hl : Γ1.length = Γ.length) (h : ∀ i, i ∉ vs → Γ1[i]? = Γ[i]?) : EnvR Γ (backE ρ vs ρ1) := by
  have l1 : ρ1.length = ρ.length := by rw [E1.len, E.len, hl]
  refine envR_of (by rw [back_len, l1, E.len]) fun i m e => ?_
  obtain ⟨s, es, hs⟩ := E.get (i := i) e
  by_cases hi : i ∈ vs
  · exact ⟨s, back_in vs ρ1 i s hi l1 es, hs⟩
  · rw [back_get vs ρ1 i hi]
    rw [← h i hi] at e
    exact E1.get (i := i) e
def lcR {α γ : Type} (p : α → Res Bool) (h : α → Res γ) : List α → List γ → Res (List γ)
  | [], acc => .ok acc
  | a :: l, acc => match p a with
    | .ok true => match h a with
      | .ok y => if acc.length ≤ 1000000 then lcR p h l (acc ++ [y]) else .no
      | _ => .no
    | .ok false => lcR p h l acc
    | _ => .no
theorem lcR_ok {α γ : Type} {p : α → Res Bool} {h : α → Res γ} (pp : α → Bool) (hh : α → γ) : ∀ (l : List α) (acc : List γ), (∀ a ∈ l, p a = .ok (pp a) ∧ (pp a = true → h a = .ok (hh a))) → acc.length + l.length ≤ 1000000 → lcR p h l acc = .ok (acc ++ (l.filter pp).map hh)
  | [], acc, _, _ => by simp [lcR]
  | a :: l, acc, hp, hl => by
    have hl' : acc.length + (l.length + 1) ≤ 1000000 := hl
    obtain ⟨h1, h2⟩ := hp a List.mem_cons_self
    have ih := fun acc hl => lcR_ok (h := h) pp hh l acc (fun b hb => hp b (List.mem_cons_of_mem _ hb)) hl
    cases e : pp a with
    | true =>
      rw [e] at h1
      simp only [lcR, h1, h2 e]
      rw [if_pos (by omega), ih _ (by simp; omega)]
      simp [e]
    | false =>
      rw [e] at h1
      simp only [lcR, h1]
      rw [ih _ (by omega)]
      simp [e]
theorem lcR_map {α γ : Type} {p : α → Res Bool} {h : α → Res γ} (hh : α → γ) (l : List α) (hp : ∀ a ∈ l, p a = .ok true ∧ h a = .ok (hh a)) (hl : l.length ≤ 1000000) : lcR p h l [] = .ok (l.map hh) := by
  rw [lcR_ok (fun _ => true) hh l [] (fun a ha => ⟨(hp a ha).1, fun _ => (hp a ha).2⟩) (by simpa using hl)]
  rw [List.nil_append, List.filter_eq_self.mpr (fun _ _ => rfl)]
section
variable {β : Type} [OutC β]
theorem lc_run {α γ : Type} {e : α → T} {e' : γ → T} {vs : List Nat} {b : T → FX.Env → Option FX.Env} {ft : FX.Env → R Bool} {fe : FX.Env → R Vl} {p : α → Res Bool} {h : α → Res γ} {Γ : Ctx} (hb : ∀ a, ∃ Γb, TG vs b (e a) (wipeC Γ vs) Γb ∧ XT Γb ft (fun Γ2 c r2 => Γ2 = Γb ∧ r2 = .ok c) (p a) ∧ XE Γb fe (fun Γ3 k t r3 => Γ3 = Γb ∧ k.ns ∧ ∃ y, r3 = .ok y ∧ t = e' y) (h a)) :
    ∀ (l : List α) (acc : List γ) (ρ : FX.Env), EnvR Γ ρ → ∀ ys, lcR p h l acc = .ok ys → ∃ ρ', lcL vs b ft fe (l.map e) (acc.map e') ρ = .ok (ys.map e') ρ' ∧ EnvR Γ ρ'
  | [], acc, ρ, E, ys, q => by cases q; exact ⟨ρ, rfl, E⟩
  | a :: l, acc, ρ, E, ys, q => by
    obtain ⟨Γb, tg, ht, he⟩ := hb a
    obtain ⟨ρ1, e1, E1⟩ := tg.1 _ (wipe_env E vs)
    have off : ∀ i, i ∉ vs → Γb[i]? = Γ[i]? := fun i hi => (tg.2.1 i hi).trans (wipe_off vs i hi)
    have len : Γb.length = Γ.length := tg.2.2.trans (wipe_len vs)
    have ht := ht ρ1 E1
    simp only [List.map_cons, lcL, e1]
    unfold lcR at q
    generalize hp : p a = pa at q ht
    generalize ft ρ1 = x at ht ⊢
    cases ht with
    | er => cases q
    | no => cases q
    | ok E2 M2 l2 =>
      rename_i c ρ2 Γ2
      obtain ⟨rfl, rfl⟩ := l2
      cases c with
      | false =>
        dsimp only at q ⊢
        exact lc_run hb l acc _ (back_env E E2 len off) ys q
      | true =>
        dsimp only at q ⊢
        have he := he ρ2 E2
        generalize h a = ha at q he
        generalize fe ρ2 = x at he ⊢
        cases he with
        | er => cases q
        | no => cases q
        | ok E3 M3 V3 l3 =>
          rename_i w ρ3 Γ3 k t
          obtain ⟨rfl, hk, y, rfl, rfl⟩ := l3
          dsimp only at q
          obtain ⟨ρ4, e4, E4⟩ := (V3.vn hk).esc E3
          split at q
          · rename_i hlen
            obtain ⟨ρ', e5, E5⟩ := lc_run hb l (acc ++ [y]) _ (back_env E E4 len off) ys q
            refine ⟨ρ', ?_, E5⟩
            show (match R.norm (.ok w ρ3) with | .ok v ρ3 => _ | _ => R.stuck) = _
            show (match esc1 w.norm ρ3 with | some (y, ρ4) => _ | none => R.stuck) = _
            rw [e4]
            dsimp only
            rw [if_pos (by simpa using hlen)]
            simpa using e5
          · cases q
theorem x_lc {α γ : Type} {Γ : Ctx} {L : Ctx → Kd → T → β → Prop} {r : β} {vs : List Nat} {fi : FX.Env → R (List T)} {b : T → FX.Env → Option FX.Env} {ft : FX.Env → R Bool} {fe : FX.Env → R Vl} (e : α → T) (e' : γ → T) (h : XI Γ fi (fun Γ1 ts r1 => ∃ (l : List α) (p : α → Res Bool) (h : α → Res γ) (K : List γ → β), ts = l.map e ∧ r1 = bnd (lcR p h l []) K ∧
    (∀ a, ∃ Γb, TG vs b (e a) (wipeC Γ1 vs) Γb ∧ XT Γb ft (fun Γ2 c r2 => Γ2 = Γb ∧ r2 = .ok c) (p a) ∧ XE Γb fe (fun Γ3 k t r3 => Γ3 = Γb ∧ k.ns ∧ ∃ y, r3 = .ok y ∧ t = e' y) (h a)) ∧ ∀ ys, L Γ1 .o (.lst (ys.map e')) (K ys)) r) : XE Γ (fLc vs fi b ft fe) L r := fun ρ E => by
  have h := h ρ E
  rw [Ev.ap_lc]
  generalize fi ρ = x at h ⊢
  cases h with
  | er => exact .er
  | no => exact .no
  | ok E1 M l =>
    rename_i ρ1 Γ1 ts
    obtain ⟨l, p, hh, K, rfl, rfl, hb, hl⟩ := l
    rw [Ev.bind_ok]
    generalize hq : lcR p hh l [] = q
    cases q with
    | no => exact .no
    | er x =>
      exfalso
      have : ∀ (l : List α) (acc : List γ), lcR p hh l acc ≠ .er x := by
        intro l
        induction l with
        | nil => intro acc z; cases z
        | cons a l ih =>
          intro acc z
          unfold lcR at z
          split at z
          · split at z
            · split at z
              · exact ih _ z
              · cases z
            · cases z
          · exact ih _ z
          · cases z
      exact this _ _ hq
    | ok ys =>
      obtain ⟨ρ', e2, E2⟩ := lc_run hb l [] ρ1 E1 ys hq
      have e2 : lcL vs b ft fe (l.map e) [] ρ1 = .ok (ys.map e') ρ' := e2
      rw [e2]
      exact .ok (k := .o) E2 M ⟨rfl, rfl⟩ (hl ys)
end
/-! ### statements -/
structure Zx (σ β : Type) where
  B : σ → Ctx
  ret : Ctx → Bool → T → β → Prop
/-- what a def gives; o: a new object -/
def RV (o : Bool) (v : Vl) (ρ : FX.Env) (t : T) : Prop := match o with
  | true => tob t = true ∧ (v = .own t ∨ ∃ i : Nat, v = .bor i ∧ ρ[i]? = some (Sl.own none t))
  | false => v = .fz t ∨ (v = .own t ∧ tob t = true) ∨ ∃ i : Nat, v = .bor i ∧ (ρ[i]? = some (Sl.fz t) ∨ (ρ[i]? = some (Sl.own none t) ∧ tob t = true))
section
variable {τ σ β : Type}
inductive SO (Z : Zx σ β) (L : Ctx → Fl τ σ β → Prop) : O → Fl τ σ β → Prop
  | nx {ρ : FX.Env} {Γ : Ctx} {r : Fl τ σ β} (E : EnvR Γ ρ) (l : L Γ r) : SO Z L (.nx ρ) r
  | rt {v : Vl} {ρ : FX.Env} {Γ : Ctx} {o : Bool} {t : T} {b : β} (E : EnvR Γ ρ) (V : RV o v ρ t) (l : Z.ret Γ o t b) : SO Z L (.rt v ρ) (.rt b)
  | bk {ρ : FX.Env} {s : σ} (E : EnvR (Z.B s) ρ) : SO Z L (.bk ρ) (.bk s)
  | ct {ρ : FX.Env} {s : σ} (E : EnvR (Z.B s) ρ) : SO Z L (.ct ρ) (.ct s)
  | er {x : Ex} {ρ : FX.Env} : SO Z L (.er x ρ) (.er x)
  | no {q : O} : SO Z L q .no
def SS (Z : Zx σ β) (Γ : Ctx) (g : FX.Env → O) (L : Ctx → Fl τ σ β → Prop) (r : Fl τ σ β) : Prop := ∀ ρ, EnvR Γ ρ → SO Z L (g ρ) r
variable {Z : Zx σ β} {Γ : Ctx} {L : Ctx → Fl τ σ β → Prop} {r : Fl τ σ β}
theorem of_o {f : FX.Env → R Vl} {L1 : Ctx → Kd → T → Fl τ σ β → Prop} {k : Vl → FX.Env → O} {ρ : FX.Env} (h : XE Γ f L1 r) (E : EnvR Γ ρ) (hk : ∀ w ρ1 Γ1 kd t r1, EnvR Γ1 ρ1 → Mono Γ Γ1 → VR kd Γ1 w t → L1 Γ1 kd t r1 → SO Z L (k w ρ1) r1) : SO Z L ((f ρ).o k) r := by
  have h := h ρ E
  generalize f ρ = x at h ⊢
  cases h with
  | er => exact .er
  | no => exact .no
  | ok E1 M V l => exact hk _ _ _ _ _ _ E1 M V l
theorem of_oN {f : FX.Env → R Vl} {L1 : Ctx → Kd → T → Fl τ σ β → Prop} {k : Vl → FX.Env → O} {ρ : FX.Env} (h : XE Γ f L1 r) (E : EnvR Γ ρ) (hk : ∀ w ρ1 Γ1 kd t r1, EnvR Γ1 ρ1 → Mono Γ Γ1 → VR kd Γ1 w t → L1 Γ1 kd t r1 → SO Z L (k w.norm ρ1) r1) : SO Z L ((f ρ).norm.o k) r := by
  have h := h ρ E
  generalize f ρ = x at h ⊢
  cases h with
  | er => exact .er
  | no => exact .no
  | ok E1 M V l => exact hk _ _ _ _ _ _ E1 M V l
theorem s_nil (l : L Γ r) : SS Z Γ FX.gNil L r := fun ρ E => .nx E l
theorem s_seq {g h : FX.Env → O} (q : SS Z Γ g (fun Γ1 r1 => SS Z Γ1 h L r1) r) : SS Z Γ (gSeq g h) L r := fun ρ E => by
  have q := q ρ E
  rw [Ev.ap_seq]
  generalize g ρ = x at q ⊢
  cases q with
  | nx E1 l => exact l _ E1
  | rt E1 V l => exact .rt E1 V l
  | bk E1 => exact .bk E1
  | ct E1 => exact .ct E1
  | er => exact .er
  | no => exact .no
theorem s_set {i : Nat} {f : FX.Env → R Vl} (h : XE Γ f (fun Γ1 k t r1 => k.ns ∧ L (Γ1.set i (.hold t)) r1) r) : SS Z Γ (gSet i f) L r := fun ρ E => by
  rw [Ev.ap_set]
  refine of_o h E fun w ρ1 Γ1 kd t r1 E1 M V l => ?_
  cases kd with
  | s => exact l.1.elim
  | o =>
    obtain ⟨rfl, ob⟩ := V
    exact .nx (E1.set (m := .hold t) (s := .own none t) (Or.inr ⟨rfl, ob⟩)) l.2
  | e =>
    rcases V with rfl | ⟨rfl, ob⟩ | ⟨j, rfl, e, ob⟩
    · exact .nx (E1.set (m := .hold t) (s := .fz t) (Or.inl rfl)) l.2
    · exact .nx (E1.set (m := .hold t) (s := .own none t) (Or.inr ⟨rfl, ob⟩)) l.2
    · obtain ⟨ρ2, e2, E2⟩ := (show VN Γ1 (.bor j) t from Or.inr ⟨j, rfl, e, ob⟩).esc E1
      rw [Ev.put_bor, e2]
      exact .nx (E2.set (m := .hold t) (s := .fz t) (Or.inl rfl)) l.2
theorem s_setO {i : Nat} {f : FX.Env → R Vl} (h : XE Γ f (fun Γ1 k t r1 => k = .o ∧ L (Γ1.set i (.own none t)) r1) r) : SS Z Γ (gSet i f) L r := fun ρ E => by
  rw [Ev.ap_set]
  refine of_o h E fun w ρ1 Γ1 kd t r1 E1 M V l => ?_
  obtain ⟨rfl, l⟩ := l
  obtain ⟨rfl, ob⟩ := V
  exact .nx (E1.set (m := .own none t) (s := .own none t) rfl) l
theorem s_ret {f : FX.Env → R Vl} (h : XE Γ f (fun Γ1 k t r1 => ∃ b o, r1 = .rt b ∧ (k = .o ∨ (k = .e ∧ o = false)) ∧ Z.ret Γ1 o t b) r) : SS Z Γ (gRet f) L r := fun ρ E => by
  rw [Ev.ap_ret]
  refine of_o h E fun w ρ1 Γ1 kd t r1 E1 M V l => ?_
  obtain ⟨b, o, rfl, hk, l⟩ := l
  rcases hk with rfl | ⟨rfl, rfl⟩
  · obtain ⟨rfl, ob⟩ := V
    refine .rt E1 ?_ l
    cases o with
    | true => exact ⟨ob, Or.inl rfl⟩
    | false => exact Or.inr (Or.inl ⟨rfl, ob⟩)
  · refine .rt E1 ?_ l
    rcases V with rfl | ⟨rfl, ob⟩ | ⟨j, rfl, e, ob⟩
    · exact Or.inl rfl
    · exact Or.inr (Or.inl ⟨rfl, ob⟩)
    · obtain ⟨s, es, hs⟩ := E1.get (i := j) e
      refine Or.inr (Or.inr ⟨j, rfl, ?_⟩)
      rcases hs with rfl | ⟨rfl, _⟩
      · exact Or.inl es
      · exact Or.inr ⟨es, ob⟩
/-- return x, x an own object -/
theorem s_retO {i : Nat} {t : T} {b : β} (h : Γ[i]? = some (.own none t)) (ob : tob t = true) (l : Z.ret Γ true t b) : SS Z Γ (gRet (fVar i)) L (.rt b) := fun ρ E => by
  obtain ⟨s, es, hs⟩ := E.get (i := i) h
  cases hs
  rw [Ev.ap_ret, Ev.ap_var, es]
  exact .rt (o := true) E ⟨ob, Or.inr ⟨i, rfl, es⟩⟩ l
theorem s_retN {b : β} (l : Z.ret Γ false .non b) : SS Z Γ gRetN L (.rt b) := fun ρ E => .rt (o := false) E (Or.inl rfl) l
theorem s_bk {s : σ} (h : Sub Γ (Z.B s)) : SS Z Γ .bk L (.bk s) := fun ρ E => .bk (h.env E)
theorem s_ct {s : σ} (h : Sub Γ (Z.B s)) : SS Z Γ .ct L (.ct s) := fun ρ E => .ct (h.env E)
theorem s_drop {f : FX.Env → R Vl} (h : XE Γ f (fun Γ1 _ _ r1 => L Γ1 r1) r) : SS Z Γ (gDrop f) L r := fun ρ E => by
  rw [Ev.ap_drop]
  exact of_o h E fun w ρ1 Γ1 kd t r1 E1 M V l => .nx E1 l
theorem s_asg {vs : List Nat} {b : T → FX.Env → Option FX.Env} {f : FX.Env → R Vl} (h : XE Γ f (fun Γ1 k t r1 => k.ns ∧ ∃ Γ2, TG vs b t Γ1 Γ2 ∧ L Γ2 r1) r) : SS Z Γ (gAsg b f) L r := fun ρ E => by
  rw [Ev.ap_asg]
  refine of_oN h E fun w ρ1 Γ1 kd t r1 E1 M V l => ?_
  obtain ⟨hk, Γ2, tg, l⟩ := l
  obtain ⟨ρ2, e2, E2⟩ := (V.vn hk).esc E1
  obtain ⟨ρ3, e3, E3⟩ := tg.1 ρ2 E2
  rw [e2]
  dsimp only
  rw [e3]
  exact .nx E3 l
theorem s_par {i j : Nat} {fa : FX.Env → R (List Vl)} (h : XA Γ fa (fun Γ1 ts r1 => ∃ t u, ts = [t, u] ∧ L ((Γ1.set i (.hold t)).set j (.hold u)) r1) r) : SS Z Γ (gPar i j fa) L r := fun ρ E => by
  have h := h ρ E
  unfold gPar
  generalize fa ρ = x at h ⊢
  cases h with
  | er => exact .er
  | no => exact .no
  | ok E1 M V l =>
    rename_i ws ρ1 Γ1 ts
    obtain ⟨t, u, rfl, l⟩ := l
    obtain ⟨ρ2, e, E2⟩ := V.escs E1
    show SO Z L (match escs ws ρ1 with | some ([t, u], ρ2) => .nx ((ρ2.set i (.fz t)).set j (.fz u)) | _ => .stuck) r
    rw [e]
    exact .nx ((E2.set (m := .hold t) (s := .fz t) (Or.inl rfl)).set (m := .hold u) (s := .fz u) (Or.inl rfl)) l
theorem s_aug {i : Nat} {g : T → T → Option Nv} {f : FX.Env → R Vl} {t : T} (h0 : Γ[i]? = some (.hold t)) (hb : tob t = false) (h : XE Γ f (fun Γ1 _ u r1 => OpN (g t u) Γ1 (fun Γ2 k v r2 => L (Γ2.set i (.hold v)) r2) r1) r) : SS Z Γ (gAug i g f) L r := fun ρ E => by
  obtain ⟨s, es, hs⟩ := E.get (i := i) h0
  rcases hs with rfl | ⟨rfl, ob⟩
  · rw [Ev.ap_aug, es]
    refine of_oN h E fun w ρ1 Γ1 kd u r1 E1 M V l => ?_
    rw [V.vs.look E1]
    show SO Z L (match g t u with | some w => put1 i w.vl ρ1 | none => .stuck) r1
    cases l with
    | no => exact .no
    | @ok a _ e l =>
      rw [e]
      cases a with
      | fz v => exact .nx (E1.set (m := .hold v) (s := .fz v) (Or.inl rfl)) l
      | own v => exact .nx (E1.set (m := .hold v) (s := .own none v) (Or.inr ⟨rfl, l.1⟩)) l.2
  · rw [hb] at ob; cases ob
theorem s_if {c : FX.Env → R Bool} {A B : FX.Env → O} (h : XT Γ c (fun Γ1 b r1 => ∃ q1 q2 : Fl τ σ β, r1 = (if b = true then q1 else q2) ∧ SS Z Γ1 A L q1 ∧ SS Z Γ1 B L q2) r) : SS Z Γ (gIf c A B) L r := fun ρ E => by
  have h := h ρ E
  rw [Ev.ap_gif]
  generalize c ρ = x at h ⊢
  cases h with
  | er => exact .er
  | no => exact .no
  | ok E1 M l =>
    rename_i b ρ1 Γ1
    obtain ⟨q1, q2, rfl, h1, h2⟩ := l
    show SO Z L (if b = true then A ρ1 else B ρ1) _
    cases b with
    | true => exact h1 _ E1
    | false => exact h2 _ E1
theorem SO.fb {τ' : Type} {x : O} {q : Fl τ' σ β} {K : τ' → Fl τ σ β} {J : τ' → Ctx} (h : SO Z (fun Γ' r' => ∃ s, r' = .nx s ∧ Sub Γ' (J s)) x q) (hk : ∀ s, L (J s) (K s)) : SO Z L x (q.fb K) := by
  cases h with
  | nx E1 l => obtain ⟨s, rfl, sb⟩ := l; exact .nx (sb.env E1) (hk s)
  | rt E1 V l => exact .rt E1 V l
  | bk E1 => exact .bk E1
  | ct E1 => exact .ct E1
  | er => exact .er
  | no => exact .no
/-- both ways come together -/
theorem s_ifJ {τ' : Type} {c : FX.Env → R Bool} {A B : FX.Env → O} (J : τ' → Ctx) (h : XT Γ c (fun Γ1 b r1 => ∃ (q1 q2 : Fl τ' σ β) (K : τ' → Fl τ σ β), r1 = (if b = true then q1 else q2).fb K ∧ SS Z Γ1 A (fun Γ' r' => ∃ s, r' = .nx s ∧ Sub Γ' (J s)) q1 ∧ SS Z Γ1 B (fun Γ' r' => ∃ s, r' = .nx s ∧ Sub Γ' (J s)) q2 ∧ ∀ s, L (J s) (K s)) r) : SS Z Γ (gIf c A B) L r := fun ρ E => by
  have h := h ρ E
  rw [Ev.ap_gif]
  generalize c ρ = x at h ⊢
  cases h with
  | er => exact .er
  | no => exact .no
  | ok E1 M l =>
    rename_i b ρ1 Γ1
    obtain ⟨q1, q2, K, rfl, h1, h2, hk⟩ := l
    show SO Z L (if b = true then A ρ1 else B ρ1) _
    cases b with
    | true => exact (h1 _ E1).fb hk
    | false => exact (h2 _ E1).fb hk
def forF {α σ' : Type} (f : α → σ' → Fl σ' σ' β) : List α → σ' → Fl σ' σ β
  | [], s => .nx s
  | a :: l, s => match f a s with
    | .nx s => forF f l s
    | .ct s => forF f l s
    | .bk s => .nx s
    | .rt b => .rt b
    | .er e => .er e
    | .no => .no
theorem for_run {α σ' : Type} {e : α → T} {b : T → FX.Env → Option FX.Env} {g : FX.Env → O} {f : α → σ' → Fl σ' σ' β} {J : σ' → Ctx} {vs : List Nat} (hb : ∀ a s, ∃ Γb, TG vs b (e a) (J s) Γb ∧ SS (Zx.mk J Z.ret) Γb g (fun Γ' r' => ∃ s', r' = .nx s' ∧ Sub Γ' (J s')) (f a s)) {K : σ' → Fl τ σ β} (hk : ∀ s, L (J s) (K s)) :
    ∀ (l : List α) (s : σ') (ρ : FX.Env), EnvR (J s) ρ → SO Z L (forL b g (l.map e) ρ) ((forF f l s).fb K)
  | [], s, ρ, E => .nx E (hk s)
  | a :: l, s, ρ, E => by
    obtain ⟨Γb, tg, h⟩ := hb a s
    obtain ⟨ρ1, e1, E1⟩ := tg.1 ρ E
    have h := h ρ1 E1
    simp only [List.map_cons, forL, e1, forF]
    generalize g ρ1 = x at h ⊢
    generalize f a s = q at h ⊢
    cases h with
    | nx E2 l2 => obtain ⟨s', rfl, sb⟩ := l2; exact for_run hb hk l s' _ (sb.env E2)
    | rt E2 V l2 => exact .rt E2 V l2
    | bk E2 => exact .nx E2 (hk _)
    | ct E2 => exact for_run hb hk l _ _ E2
    | er => exact .er
    | no => exact .no
theorem s_for {α σ' : Type} {fi : FX.Env → R (List T)} {b : T → FX.Env → Option FX.Env} {g : FX.Env → O} (vs : List Nat) (e : α → T) (J : σ' → Ctx) (h : XI Γ fi (fun Γ1 ts r1 => ∃ (l : List α) (f : α → σ' → Fl σ' σ' β) (s0 : σ') (K : σ' → Fl τ σ β), ts = l.map e ∧ r1 = (forF f l s0).fb K ∧ Sub Γ1 (J s0) ∧
    (∀ a s, ∃ Γb, TG vs b (e a) (J s) Γb ∧ SS (Zx.mk J Z.ret) Γb g (fun Γ' r' => ∃ s', r' = .nx s' ∧ Sub Γ' (J s')) (f a s)) ∧ ∀ s, L (J s) (K s)) r) : SS Z Γ (gFor fi b g) L r := fun ρ E => by
  have h := h ρ E
  rw [Ev.ap_for]
  generalize fi ρ = x at h ⊢
  cases h with
  | er => exact .er
  | no => exact .no
  | ok E1 M l =>
    obtain ⟨l, f, s0, K, rfl, rfl, sb, hb, hk⟩ := l
    exact for_run hb hk l s0 _ (sb.env E1)
def whF {σ' : Type} (c : σ' → Res Bool) (f : σ' → Fl σ' σ' β) : Nat → σ' → Fl σ' σ β
  | 0, _ => .no
  | n + 1, s => match c s with
    | .ok true => match f s with
      | .nx s => whF c f n s
      | .ct s => whF c f n s
      | .bk s => .nx s
      | .rt b => .rt b
      | .er e => .er e
      | .no => .no
    | .ok false => .nx s
    | .er e => .er e
    | .no => .no
theorem wh_run {σ' : Type} {c : FX.Env → R Bool} {g : FX.Env → O} {cc : σ' → Res Bool} {f : σ' → Fl σ' σ' β} {J : σ' → Ctx} (hc : ∀ s, XT (J s) c (fun Γ1 b r1 => Γ1 = J s ∧ r1 = .ok b) (cc s)) (hb : ∀ s, SS (Zx.mk J Z.ret) (J s) g (fun Γ' r' => ∃ s', r' = .nx s' ∧ Sub Γ' (J s')) (f s)) {K : σ' → Fl τ σ β} (hk : ∀ s, L (J s) (K s)) :
    ∀ (n : Nat) (s : σ') (ρ : FX.Env), EnvR (J s) ρ → SO Z L (whL c g n ρ) ((whF cc f n s).fb K)
  | 0, s, ρ, E => .no
  | n + 1, s, ρ, E => by
    have h := hc s ρ E
    simp only [whL, whF]
    generalize c ρ = x at h ⊢
    generalize cc s = q at h ⊢
    cases h with
    | er => exact .er
    | no => exact .no
    | ok E1 M l =>
      rename_i b ρ1 Γ1
      obtain ⟨rfl, rfl⟩ := l
      cases b with
      | false => exact .nx E1 (hk s)
      | true =>
        have h2 := hb s ρ1 E1
        dsimp only [R.o]
        rw [if_pos rfl]
        generalize g ρ1 = y at h2 ⊢
        generalize f s = q2 at h2 ⊢
        cases h2 with
        | nx E2 l2 => obtain ⟨s', rfl, sb⟩ := l2; exact wh_run hc hb hk n s' _ (sb.env E2)
        | rt E2 V l2 => exact .rt E2 V l2
        | bk E2 => exact .nx E2 (hk _)
        | ct E2 => exact wh_run hc hb hk n _ _ E2
        | er => exact .er
        | no => exact .no
theorem s_while {σ' : Type} {n : Nat} {c : FX.Env → R Bool} {g : FX.Env → O} {cc : σ' → Res Bool} {f : σ' → Fl σ' σ' β} (J : σ' → Ctx) {s0 : σ'} {K : σ' → Fl τ σ β} (sb : Sub Γ (J s0)) (hc : ∀ s, XT (J s) c (fun Γ1 b r1 => Γ1 = J s ∧ r1 = .ok b) (cc s)) (hb : ∀ s, SS (Zx.mk J Z.ret) (J s) g (fun Γ' r' => ∃ s', r' = .nx s' ∧ Sub Γ' (J s')) (f s)) (hk : ∀ s, L (J s) (K s)) : SS Z Γ (gWhile n c g) L ((whF cc f n s0).fb K) := fun ρ E => wh_run hc hb hk n s0 ρ (sb.env E)
theorem s_store {st : T → T → T → Option T} {i : Nat} {fv fk : FX.Env → R Vl} (h : XE Γ fv (fun Γ1 k1 t r1 => k1.ns ∧ (∃ kk c, Γ1[i]? = some (.own kk c)) ∧ XE Γ1 fk (fun Γ2 k2 kt r2 => k2.ns ∧ ∃ kk c, Γ2[i]? = some (.own kk c) ∧ OpL (st c kt t) (fun c' r3 => L (Γ2.set i (.own kk c')) r3) r2) r1) r) : SS Z Γ (gStore st i fv fk) L r := fun ρ E => by
  rw [Ev.ap_store]
  refine of_oN h E fun w ρ1 Γ1 kd t r1 E1 M V l => ?_
  obtain ⟨hk, ⟨kk, c, hc⟩, l⟩ := l
  obtain ⟨s, es, hs⟩ := E1.get (i := i) hc
  cases hs
  rw [Ev.ownT_eq, es]
  dsimp only
  refine of_oN l E1 fun u ρ2 Γ2 kd2 kt r2 E2 M2 V2 l => ?_
  obtain ⟨hk2, kk, c, hc, l⟩ := l
  obtain ⟨ρ3, e3, E3⟩ := (VNs.cons ((V.vn hk).mono M2) (.cons (V2.vn hk2) .nil)).escs E2
  obtain ⟨s, es, hs⟩ := E3.get (i := i) hc
  cases hs
  rw [e3]
  dsimp only
  rw [Ev.ownT_eq, es]
  dsimp only
  cases l with
  | no => exact .no
  | ok e l =>
    rw [e]
    exact .nx (E3.set (m := .own kk _) (s := .own kk _) rfl) l
theorem s_raise {c : Str} {fa : FX.Env → R (List Vl)} (h : XA Γ fa (fun Γ1 ts r1 => ∃ t, ts = [t] ∧ r1 = .er ⟨c, [("value", t)]⟩) r) : SS Z Γ (gRaise c fa) L r := fun ρ E => by
  have h := h ρ E
  rw [Ev.ap_raise]
  generalize fa ρ = x at h ⊢
  cases h with
  | er => exact .er
  | no => exact .no
  | ok E1 M V l =>
    rename_i ws ρ1 Γ1 ts
    obtain ⟨t, rfl, rfl⟩ := l
    obtain ⟨ρ2, e, E2⟩ := V.escs E1
    show SO Z L (match escs ws ρ1 with | some ([t], ρ2) => .er ⟨c, [("value", t)]⟩ ρ2 | _ => .stuck) _
    rw [e]
    exact .er
/-- from here on an own object is only held -/
theorem s_weak {g : FX.Env → O} (i : Nat) {t : T} (h : Γ[i]? = some (.own none t)) (ob : tob t = true) (q : SS Z (Γ.set i (.hold t)) g L r) : SS Z Γ g L r := fun ρ E => by
  refine q ρ ?_
  obtain ⟨s, es, hs⟩ := E.get (i := i) h
  cases hs
  have := E.set (i := i) (m := .hold t) (s := .own none t) (Or.inr ⟨rfl, ob⟩)
  have e : ρ.set i (.own none t) = ρ := by
    apply List.ext_getElem?
    intro j
    rw [List.getElem?_set]
    split
    · rename_i z; subst z
      split
      · exact es.symm
      · rename_i z; rw [List.getElem?_eq_none (by omega)]
    · rfl
  rw [e] at this
  exact this
theorem s_sub {g : FX.Env → O} {Γ' : Ctx} (h : Sub Γ Γ') (q : SS Z Γ' g L r) : SS Z Γ g L r := fun ρ E => q ρ (h.env E)
end
section
variable {β : Type} [OutC β]
/-- x.append(e), x.pop(i) and the like -/
theorem x_mut {Γ : Ctx} {L : Ctx → Kd → T → β → Prop} {r : β} {p : T → Bool} {i : Nat} {m : T → List T → Option (T × T)} {fa : FX.Env → R (List Vl)} {kk : Option Nat} {t0 : T} (h0 : Γ[i]? = some (.own kk t0)) (hp : p t0 = true) (h : XA Γ fa (fun Γ1 ts r1 => ∃ t, Γ1[i]? = some (.own kk t) ∧ OpL (m t ts) (fun q r2 => L (Γ1.set i (.own kk q.1)) .e q.2 r2) r1) r) : XE Γ (gd p i (fMut i m fa)) L r := fun ρ E => by
  obtain ⟨s, es, hs⟩ := E.get (i := i) h0
  cases hs
  rw [Ev.ap_gd, Ev.ownT_eq, es]
  dsimp only
  rw [if_pos hp, Ev.ap_mut, Ev.ownT_eq, es]
  dsimp only
  refine esc_XO (P := XO Γ L) E h (fun x ρ => .er) (fun q => .no) fun Γ1 ts ρ1 r1 E1 M l => ?_
  obtain ⟨t, ht, l⟩ := l
  obtain ⟨s, es, hs⟩ := E1.get (i := i) ht
  cases hs
  rw [Ev.ownT_eq, es]
  dsimp only
  cases l with
  | no => exact .no
  | @ok a _ e l =>
    rw [e]
    exact .ok (k := .e) (E1.set (m := .own kk a.1) (s := .own kk a.1) rfl) (M.trans (.own ht)) (Or.inl rfl) l
end
/-! ### defs -/
def Zp {β : Type} (o : Bool) (e : β → T) : Zx Unit β := ⟨fun _ => [], fun _ o' t b => t = e b ∧ (o = true → o' = true)⟩
theorem endP_rv {o : Bool} {v : Vl} {ρ : FX.Env} {t : T} (h : RV o v ρ t) : (o = true → endP (.rt v ρ) = .ok (.own t) ∧ tob t = true) ∧ ((endP (.rt v ρ) = .ok (.own t) ∧ tob t = true) ∨ endP (.rt v ρ) = .ok (.fz t)) := by
  cases o with
  | true =>
    obtain ⟨ob, h⟩ := h
    have : endP (.rt v ρ) = .ok (.own t) := by
      rcases h with rfl | ⟨i, rfl, e⟩
      · rfl
      · rw [Ev.end_bor, e]
    exact ⟨fun _ => ⟨this, ob⟩, Or.inl ⟨this, ob⟩⟩
  | false =>
    refine ⟨fun z => (by cases z), ?_⟩
    rcases h with rfl | ⟨rfl, ob⟩ | ⟨i, rfl, e | ⟨e, ob⟩⟩
    · exact Or.inr rfl
    · exact Or.inl ⟨rfl, ob⟩
    · exact Or.inr (by rw [Ev.end_bor, e])
    · exact Or.inl ⟨by rw [Ev.end_bor, e], ob⟩
theorem pf_def {β : Type} {n N : Nat} {G : FX.Env → O} {ts : List T} {o : Bool} {e : β → T} {r : Fl Unit Unit β} (hn : ts.length = n) (h : SS (Zp o e) (ts.map Sm.hold ++ List.replicate (N - n) Sm.any) G (fun Γ r => ∃ b, r = .rt b ∧ e b = .non ∧ o = false) r) : PF (mkP n N G) ts r.res o e := by
  have h := h (startP N n ts) (EnvR.start ts (N - n))
  unfold mkP
  unfold PF
  simp only [hn, if_true]
  generalize G (startP N n ts) = x at h ⊢
  cases h with
  | nx E l => obtain ⟨b, rfl, eb, rfl⟩ := l; exact ⟨fun z => (by cases z), Or.inr (by rw [eb]; rfl)⟩
  | rt E V l =>
    obtain ⟨rfl, ho⟩ := l
    have := endP_rv V
    exact ⟨fun z => this.1 (ho z), this.2⟩
  | bk E => trivial
  | ct E => trivial
  | er => exact rfl
  | no => trivial
def Zm {β : Type} (o : Bool) (e1 e2 : β → T) : Zx Unit β := ⟨fun _ => [], fun Γ o' t b => Γ[(0 : Nat)]? = some (.own (some 0) (e1 b)) ∧ t = e2 b ∧ (o = true → o' = true)⟩
theorem mf_def {β : Type} {n N : Nat} {G : FX.Env → O} {t : T} {ts : List T} {o : Bool} {e1 e2 : β → T} {r : Fl Unit Unit β} (hn : ts.length = n) (h : SS (Zm o e1 e2) (Sm.own (some 0) t :: (ts.map Sm.hold ++ List.replicate (N - 1 - n) Sm.any)) G (fun Γ r => ∃ b, r = .rt b ∧ Γ[(0 : Nat)]? = some (.own (some 0) (e1 b)) ∧ e2 b = .non ∧ o = false) r) : MF (mkM n N G) t ts r.res o e1 e2 := by
  have h := h (startM N n t ts) (.cons rfl (EnvR.start ts (N - 1 - n)))
  unfold mkM MF
  simp only [hn, if_true]
  generalize G (startM N n t ts) = x at h ⊢
  have own : ∀ {Γ : Ctx} {ρ : FX.Env} {u : T}, EnvR Γ ρ → Γ[(0 : Nat)]? = some (.own (some 0) u) → own0 ρ = some u := fun {Γ ρ u} E e => by
    obtain ⟨s, es, hs⟩ := E.get (i := 0) e
    cases hs
    show (match ρ[(0 : Nat)]? with | some (.own (some 0) t) => some t | _ => none) = some u
    rw [es]; rfl
  cases h with
  | nx E l =>
    obtain ⟨b, rfl, e0, eb, rfl⟩ := l
    refine ⟨fun z => (by cases z), Or.inr ?_⟩
    simp only [endM, own E e0, eb]
  | rt E V l =>
    rename_i v ρ Γ o' u b
    obtain ⟨e0, rfl, ho⟩ := l
    have e0 := own E e0
    cases o' with
    | true =>
      obtain ⟨ob, V⟩ := V
      have : endM (.rt v ρ) = .ok (e1 b) (.own (e2 b)) := by
        rcases V with rfl | ⟨i, rfl, e⟩
        · simp only [endM, e0]
        · simp only [endM, e0, e]
      exact ⟨fun _ => ⟨this, ob⟩, Or.inl ⟨this, ob⟩⟩
    | false =>
      refine ⟨fun z => absurd (ho z) (by decide), ?_⟩
      rcases V with rfl | ⟨rfl, ob⟩ | ⟨i, rfl, e | ⟨e, ob⟩⟩
      · exact Or.inr (by simp only [endM, e0])
      · exact Or.inl ⟨by simp only [endM, e0], ob⟩
      · exact Or.inr (by simp only [endM, e0, e])
      · exact Or.inl ⟨by simp only [endM, e0, e], ob⟩
  | bk E => trivial
  | ct E => trivial
  | er => exact rfl
  | no => trivial
end TY
end

section
set_option Elab.async false
set_option linter.all false
set_option maxRecDepth 100000
/-! TY: operations on typed data -/
namespace TY
open PySem L2 FX
/-! ### data in words: e, and what the machine reads -/
structure Dt {α : Type} (e : α → T) where
  d : α → PyData
  n : Nat
  toD : ∀ a, (e a).toD = some (d a)
  cD : ∀ a, (e a).cD = some (d a)
  ofD : ∀ a, ofD (d a) = e a
  lay : ∀ a, PyData.canLay0 (d a) = true
  dep : ∀ a, PyData.depth (d a) ≤ n
  inj : ∀ a b, PyData.eqv (d a) (d b) = true → a = b
  rfl' : ∀ a, PyData.eqv (d a) (d a) = true
/-- ordered data -/
structure Od {α : Type} {e : α → T} (D : Dt e) (lt : α → α → Bool) : Prop where
  alk : ∀ a b, PySem.W.alike (D.d a) (D.d b) = true
  nn : ∀ a, isNone (D.d a) = false
  lt : ∀ a b, PySem.W.dataLt (D.d a) (D.d b) = lt a b
def dtI : Dt T.int where
  d := .int
  n := 0
  toD := fun _ => rfl
  cD := fun _ => rfl
  ofD := fun _ => rfl
  lay := fun _ => rfl
  dep := fun _ => Nat.le_refl _
  inj := fun a b h => by simpa [PyData.eqv] using h
  rfl' := fun a => by simp [PyData.eqv]
def dtB : Dt T.bl where
  d := .bool
  n := 0
  toD := fun _ => rfl
  cD := fun _ => rfl
  ofD := fun _ => rfl
  lay := fun _ => rfl
  dep := fun _ => Nat.le_refl _
  inj := fun a b h => by cases a <;> cases b <;> simp [PyData.eqv] at h ⊢
  rfl' := fun a => by cases a <;> simp [PyData.eqv]
theorem odI : Od dtI fun a b => decide (a < b) where
  alk := fun a b => by simp [dtI, PySem.W.alike]
  nn := fun a => rfl
  lt := fun a b => PySem.W.dataLt_int a b
section
variable {α : Type} {e : α → T}
theorem toDs_map (D : Dt e) : ∀ l : List α, toDs (l.map e) = some (l.map D.d)
  | [] => rfl
  | a :: l => by simp [toDs, D.toD, toDs_map D l]
theorem cDs_map (D : Dt e) : ∀ l : List α, cDs (l.map e) = some (l.map D.d)
  | [] => rfl
  | a :: l => by simp [cDs, D.cD, cDs_map D l]
theorem ofDs_map (D : Dt e) : ∀ l : List α, ofDs (l.map D.d) = l.map e
  | [] => rfl
  | a :: l => by simp [ofDs, D.ofD, ofDs_map D l]
theorem lay_map (D : Dt e) : ∀ l : List α, PyData.canLayAll0 (l.map D.d) = true
  | [] => rfl
  | a :: l => by simp [PyData.canLayAll0, D.lay, lay_map D l]
theorem dep_map (D : Dt e) : ∀ l : List α, PyData.depthAll (l.map D.d) ≤ D.n
  | [] => by simp [PyData.depthAll]
  | a :: l => by
    have := dep_map D l
    have := D.dep a
    simp [PyData.depthAll]; omega
theorem eqv_map (D : Dt e) : ∀ l m : List α, PyData.eqvAll (l.map D.d) (m.map D.d) = true → l = m
  | [], [], _ => rfl
  | [], b :: m, h => by simp [PyData.eqvAll] at h
  | a :: l, [], h => by simp [PyData.eqvAll] at h
  | a :: l, b :: m, h => by
    simp only [List.map_cons, PyData.eqvAll, Bool.and_eq_true] at h
    rw [D.inj _ _ h.1, eqv_map D l m h.2]
theorem eqv_refl (D : Dt e) : ∀ l : List α, PyData.eqvAll (l.map D.d) (l.map D.d) = true
  | [] => rfl
  | a :: l => by simp [PyData.eqvAll, D.rfl', eqv_refl D l]
def dtS (D : Dt e) : Dt (fun l : List α => T.tup (l.map e)) where
  d := fun l => .tuple (l.map D.d)
  n := D.n + 1
  toD := fun l => by simp [T.toD, toDs_map D]
  cD := fun l => by simp [T.cD, cDs_map D]
  ofD := fun l => by simp [ofD, ofDs_map D]
  lay := fun l => by simp [PyData.canLay0, lay_map D]
  dep := fun l => by have := dep_map D l; simp [PyData.depth]; omega
  inj := fun a b h => by simp only [PyData.eqv] at h; exact eqv_map D a b h
  rfl' := fun a => by simp only [PyData.eqv]; exact eqv_refl D a
def dtL (D : Dt e) : Dt (fun l : List α => T.lst (l.map e)) where
  d := fun l => .list (l.map D.d)
  n := D.n + 1
  toD := fun l => by simp [T.toD, toDs_map D]
  cD := fun l => by simp [T.cD, cDs_map D]
  ofD := fun l => by simp [ofD, ofDs_map D]
  lay := fun l => by simp [PyData.canLay0, lay_map D]
  dep := fun l => by have := dep_map D l; simp [PyData.depth]; omega
  inj := fun a b h => by simp only [PyData.eqv] at h; exact eqv_map D a b h
  rfl' := fun a => by simp only [PyData.eqv]; exact eqv_refl D a
/-- heterogeneous rows: the parts one behind another -/
structure Dts {α : Type} (es : α → List T) where
  d : α → List PyData
  n : Nat
  toD : ∀ a, toDs (es a) = some (d a)
  cD : ∀ a, cDs (es a) = some (d a)
  ofD : ∀ a, ofDs (d a) = es a
  lay : ∀ a, PyData.canLayAll0 (d a) = true
  dep : ∀ a, PyData.depthAll (d a) ≤ n
  inj : ∀ a b, PyData.eqvAll (d a) (d b) = true → a = b
  rfl' : ∀ a, PyData.eqvAll (d a) (d a) = true
def dts1 (D : Dt e) : Dts (fun a : α => [e a]) where
  d := fun a => [D.d a]
  n := D.n
  toD := fun a => by simp [toDs, D.toD]
  cD := fun a => by simp [cDs, D.cD]
  ofD := fun a => by simp [ofDs, D.ofD]
  lay := fun a => by simp [PyData.canLayAll0, D.lay]
  dep := fun a => by have := D.dep a; simp [PyData.depthAll]; omega
  inj := fun a b h => by simp only [PyData.eqvAll, Bool.and_eq_true] at h; exact D.inj _ _ h.1
  rfl' := fun a => by simp [PyData.eqvAll, D.rfl']
def dtsC {γ : Type} {es : γ → List T} (D : Dt e) (E : Dts es) : Dts (fun p : α × γ => e p.1 :: es p.2) where
  d := fun p => D.d p.1 :: E.d p.2
  n := max D.n E.n
  toD := fun a => by simp [toDs, D.toD, E.toD]
  cD := fun a => by simp [cDs, D.cD, E.cD]
  ofD := fun a => by simp [ofDs, D.ofD, E.ofD]
  lay := fun a => by simp [PyData.canLayAll0, D.lay, E.lay]
  dep := fun a => by have := D.dep a.1; have := E.dep a.2; simp [PyData.depthAll]; omega
  inj := fun a b h => by
    simp only [PyData.eqvAll, Bool.and_eq_true] at h
    exact Prod.ext (D.inj _ _ h.1) (E.inj _ _ h.2)
  rfl' := fun a => by simp [PyData.eqvAll, D.rfl', E.rfl']
def dtT {es : α → List T} (E : Dts es) : Dt (fun a => T.tup (es a)) where
  d := fun a => .tuple (E.d a)
  n := E.n + 1
  toD := fun l => by simp [T.toD, E.toD]
  cD := fun l => by simp [T.cD, E.cD]
  ofD := fun l => by simp [ofD, E.ofD]
  lay := fun l => by simp [PyData.canLay0, E.lay]
  dep := fun l => by have := E.dep l; simp [PyData.depth]; omega
  inj := fun a b h => by simp only [PyData.eqv] at h; exact E.inj a b h
  rfl' := fun a => by simp only [PyData.eqv]; exact E.rfl' a
variable {β : Type} [OutC β] {Γ : Ctx} {r : β}
theorem shaped_of (D : Dt e) (h : D.n ≤ 60) (a : α) : SeqAt.shaped (D.d a) = true := by
  have := D.dep a
  simp [SeqAt.shaped, D.lay]; omega
theorem cEq_dt (D : Dt e) [DecidableEq α] (h : D.n ≤ 60) (a b : α) : cEq (e a) (e b) = some (decide (a = b)) := by
  unfold cEq
  rw [D.toD, D.toD]
  dsimp only
  rw [if_pos ⟨shaped_of D h a, shaped_of D h b⟩]
  congr 1
  by_cases z : a = b
  · subst z; simp [D.rfl']
  · rw [decide_eq_false z]
    cases q : PyData.eqv (D.d a) (D.d b) with
    | false => rfl
    | true => exact absurd (D.inj a b q) z
theorem op_eq {L : Bool → β → Prop} [DecidableEq α] (D : Dt e) (a b : α) (l : L (decide (a = b)) r) (h : D.n ≤ 60 := by exact Nat.le_of_ble_eq_true rfl) : OpL (cEq (e a) (e b)) L r := .ok (cEq_dt D h a b) l
theorem op_ne {L : Bool → β → Prop} [DecidableEq α] (D : Dt e) (a b : α) (l : L (!decide (a = b)) r) (h : D.n ≤ 60 := by exact Nat.le_of_ble_eq_true rfl) : OpL (cNe (e a) (e b)) L r := .ok (by unfold cNe; rw [cEq_dt D h]; rfl) l
theorem cLt_dt (D : Dt e) {lt : α → α → Bool} (O : Od D lt) (h : D.n ≤ 60) (a b : α) : cLtD (e a) (e b) = some (lt a b) := by
  unfold cLtD
  rw [D.toD, D.toD]
  dsimp only
  have := D.dep a
  rw [if_pos ⟨O.alk a b, O.nn a, by omega⟩, O.lt]
theorem op_cmp {L : Bool → β → Prop} {p : Int → Int → Bool} {a b : Int} (l : L (p a b) r) : OpL (cI p (.int a) (.int b)) L r := .ok rfl l
theorem op_lt {L : Bool → β → Prop} {a b : Int} (l : L (decide (a < b)) r) : OpL (cLt (.int a) (.int b)) L r := .ok rfl l
theorem op_isN_T {L : Bool → β → Prop} (l : L true r) : OpL (cIsN .non .non) L r := .ok rfl l
/-! ### ints -/
variable {LN : Ctx → Kd → T → β → Prop}
theorem op_add {a b : Int} (l : LN Γ .e (.int (a + b)) r) : OpN (aAdd (.int a) (.int b)) Γ LN r := opN_fz rfl l
theorem op_sub {a b : Int} (l : LN Γ .e (.int (a - b)) r) : OpN (aSub (.int a) (.int b)) Γ LN r := opN_fz rfl l
theorem op_augA {a b : Int} (l : LN Γ .e (.int (a + b)) r) : OpN (gA (.int a) (.int b)) Γ LN r := opN_fz rfl l
def mulR (a b : Int) : Res Int := if CMul a b then .ok (a * b) else .no
def divR (a b : Int) : Res Int := if CDiv a b then .ok (a / b) else .no
def modR (a b : Int) : Res Int := if 0 < b then .ok (a % b) else .no
def powR (a b : Int) : Res Int := if CPow a b then .ok (a ^ b.toNat) else .no
theorem mulR_ok {a b : Int} (h : (-(2 ^ 64) < a ∧ a < 2 ^ 64) ∨ (-(2 ^ 64) < b ∧ b < 2 ^ 64)) : mulR a b = .ok (a * b) := if_pos h
theorem divR_ok {a b : Int} (h : 0 < b) (h2 : b < 1073741824) : divR a b = .ok (a / b) := if_pos ⟨h, h2⟩
theorem modR_ok {a b : Int} (h : 0 < b) : modR a b = .ok (a % b) := if_pos h
theorem op_mul {a b : Int} {K : Int → β} (l : ∀ x, LN Γ .e (.int x) (K x)) : OpN (aMul (.int a) (.int b)) Γ LN (bnd (mulR a b) K) := by
  unfold mulR
  by_cases h : CMul a b
  · rw [if_pos h]; exact opN_fz (if_pos h) (l _)
  · rw [if_neg h]; exact .no
theorem op_div {a b : Int} {K : Int → β} (l : ∀ x, LN Γ .e (.int x) (K x)) : OpN (aDiv (.int a) (.int b)) Γ LN (bnd (divR a b) K) := by
  unfold divR
  by_cases h : CDiv a b
  · rw [if_pos h]; exact opN_fz (if_pos h) (l _)
  · rw [if_neg h]; exact .no
theorem op_mod {a b : Int} {K : Int → β} (l : ∀ x, LN Γ .e (.int x) (K x)) : OpN (aMod (.int a) (.int b)) Γ LN (bnd (modR a b) K) := by
  unfold modR
  by_cases h : 0 < b
  · rw [if_pos h]; exact opN_fz (if_pos h) (l _)
  · rw [if_neg h]; exact .no
theorem op_pow {a b : Int} {K : Int → β} (l : ∀ x, LN Γ .e (.int x) (K x)) : OpN (aPow (.int a) (.int b)) Γ LN (bnd (powR a b) K) := by
  unfold powR
  by_cases h : CPow a b
  · rw [if_pos h]; exact opN_fz (if_pos h) (l _)
  · rw [if_neg h]; exact .no
theorem op_int {a : Int} (l : LN Γ .e (.int a) r) : OpN (bInt [.int a]) Γ LN r := opN_fz rfl l
theorem op_abs {a : Int} (l : LN Γ .e (.int (if a < 0 then -a else a)) r) : OpN (bAbs [.int a]) Γ LN r := opN_fz rfl l
theorem op_min2 {a b : Int} (l : LN Γ .e (.int (if b < a then b else a)) r) : OpN (bMin [.int a, .int b]) Γ LN r := opN_fz rfl l
theorem op_max2 {a b : Int} (l : LN Γ .e (.int (if b > a then b else a)) r) : OpN (bMax [.int a, .int b]) Γ LN r := opN_fz rfl l
/-! ### lists and tuples -/
def sizeR {α : Type} (n : Nat) (a : α) : Res α := if n ≤ sizeLine then .ok a else .no
theorem sizeR_ok {α : Type} {n : Nat} {a : α} (h : n ≤ 16777216) : sizeR n a = .ok a := if_pos h
theorem op_cat_l {a b : List α} {K : List α → β} (l : ∀ x, LN Γ .o (.lst (x.map e)) (K x)) : OpN (aAdd (.lst (a.map e)) (.lst (b.map e))) Γ LN (bnd (sizeR (a.length + b.length) (a ++ b)) K) := by
  unfold sizeR
  by_cases h : a.length + b.length ≤ sizeLine
  · rw [if_pos h]; exact opN_own (t := .lst ((a ++ b).map e)) (by rw [List.map_append]; exact if_pos (by simpa using h)) (l _)
  · rw [if_neg h]; exact .no
theorem op_cat_t {a b : List α} {K : List α → β} (l : ∀ x, LN Γ .e (.tup (x.map e)) (K x)) : OpN (aAdd (.tup (a.map e)) (.tup (b.map e))) Γ LN (bnd (sizeR (a.length + b.length) (a ++ b)) K) := by
  unfold sizeR
  by_cases h : a.length + b.length ≤ sizeLine
  · rw [if_pos h]; exact opN_fz (t := .tup ((a ++ b).map e)) (by rw [List.map_append]; exact if_pos (by simpa using h)) (l _)
  · rw [if_neg h]; exact .no
def ixR {α : Type} (xs : List α) (i : Int) : Res α := match atI xs i with
  | some a => .ok a
  | none => .no
theorem atI_map (xs : List α) (i : Int) : atI (xs.map e) i = (atI xs i).map e := by
  unfold atI
  rw [List.length_map]
  cases ixN xs.length i with
  | none => rfl
  | some j => simp
theorem ixS {xs : List α} {i : Int} {K : α → β} (l : ∀ x, LN Γ .e (e x) (K x)) : OpN ((atI (xs.map e) i).map Nv.fz) Γ LN (bnd (ixR xs i) K) := by
  rw [atI_map]
  unfold ixR
  cases atI xs i with
  | none => exact .no
  | some a => exact opN_fz rfl (l a)
theorem op_ix_l {xs : List α} {i : Int} {K : α → β} (l : ∀ x, LN Γ .e (e x) (K x)) : OpN (aIx (.lst (xs.map e)) (.int i)) Γ LN (bnd (ixR xs i) K) := ixS l
theorem op_ix_t {xs : List α} {i : Int} {K : α → β} (l : ∀ x, LN Γ .e (e x) (K x)) : OpN (aIx (.tup (xs.map e)) (.int i)) Γ LN (bnd (ixR xs i) K) := ixS l
theorem op_ix_q {xs : List α} {i : Int} {K : α → β} (l : ∀ x, LN Γ .e (e x) (K x)) : OpN (aIx (.seq (xs.map e)) (.int i)) Γ LN (bnd (ixR xs i) K) := ixS l
/-- the n-th of so many things -/
theorem op_ix_n {ts : List T} {n : Nat} {t : T} (h : ts[n]? = some t) (l : LN Γ .e t r) : OpN (aIx (.tup ts) (.int (n : Int))) Γ LN r := by
  refine opN_fz ?_ l
  show (atI ts (n : Int)).map Nv.fz = _
  have : atI ts (n : Int) = ts[n]? := by
    unfold atI ixN
    by_cases h : n < ts.length
    · simp [h]
    · simp [h]
  rw [this, h]; rfl
theorem op_ix_nl {ts : List T} {n : Nat} {t : T} (h : ts[n]? = some t) (l : LN Γ .e t r) : OpN (aIx (.lst ts) (.int (n : Int))) Γ LN r := by
  refine opN_fz ?_ l
  show (atI ts (n : Int)).map Nv.fz = _
  have : atI ts (n : Int) = ts[n]? := by
    unfold atI ixN
    by_cases h : n < ts.length
    · simp [h]
    · simp [h]
  rw [this, h]; rfl
def cutL {α : Type} (xs : List α) (lo hi : Option Int) : List α := (xs.drop (HT.sIx xs.length 0 lo)).take (HT.sIx xs.length xs.length hi - HT.sIx xs.length 0 lo)
theorem cut_map (xs : List α) (lo hi : Option Int) : cutT (xs.map e) lo hi = (cutL xs lo hi).map e := by
  unfold cutT cutL
  rw [List.length_map, List.map_take, List.map_drop]
theorem op_cut_l {xs : List α} {lo hi : Option Int} (l : LN Γ .o (.lst ((cutL xs lo hi).map e)) r) : OpN (aCut (.lst (xs.map e)) lo hi) Γ LN r := opN_own (by rw [← cut_map]; rfl) l
theorem op_cut_t {xs : List α} {lo hi : Option Int} (l : LN Γ .e (.tup ((cutL xs lo hi).map e)) r) : OpN (aCut (.tup (xs.map e)) lo hi) Γ LN r := opN_fz (by rw [← cut_map]; rfl) l
theorem op_rev_l {xs : List α} (l : LN Γ .o (.lst (xs.reverse.map e)) r) : OpN (aRev (.lst (xs.map e))) Γ LN r := opN_own (by rw [List.map_reverse]; rfl) l
theorem op_rev_t {xs : List α} (l : LN Γ .e (.tup (xs.reverse.map e)) r) : OpN (aRev (.tup (xs.map e))) Γ LN r := opN_fz (by rw [List.map_reverse]; rfl) l
theorem op_len_l {xs : List α} (l : LN Γ .e (.int xs.length) r) : OpN (bLen [.lst (xs.map e)]) Γ LN r := opN_fz (by show some (Nv.fz (.int (xs.map e).length)) = _; rw [List.length_map]) l
theorem op_len_t {xs : List α} (l : LN Γ .e (.int xs.length) r) : OpN (bLen [.tup (xs.map e)]) Γ LN r := opN_fz (by show some (Nv.fz (.int (xs.map e).length)) = _; rw [List.length_map]) l
theorem op_len_q {xs : List α} (l : LN Γ .e (.int xs.length) r) : OpN (bLen [.seq (xs.map e)]) Γ LN r := opN_fz (by show some (Nv.fz (.int (xs.map e).length)) = _; rw [List.length_map]) l
theorem op_tuple_l {xs : List α} (l : LN Γ .e (.tup (xs.map e)) r) : OpN (bTuple [.lst (xs.map e)]) Γ LN r := opN_fz rfl l
theorem op_tuple_t {xs : List α} (l : LN Γ .e (.tup (xs.map e)) r) : OpN (bTuple [.tup (xs.map e)]) Γ LN r := opN_fz rfl l
theorem op_list_l {xs : List α} (l : LN Γ .o (.lst (xs.map e)) r) : OpN (bList [.lst (xs.map e)]) Γ LN r := opN_own rfl l
theorem op_list_t {xs : List α} (l : LN Γ .o (.lst (xs.map e)) r) : OpN (bList [.tup (xs.map e)]) Γ LN r := opN_own rfl l
theorem allBl_map : ∀ bs : List Bool, allBl (bs.map T.bl) = some bs
  | [] => rfl
  | b :: bs => by simp [allBl, allBl_map bs]
theorem allInt_map : ∀ bs : List Int, allInt (bs.map T.int) = some bs
  | [] => rfl
  | b :: bs => by simp [allInt, allInt_map bs]
theorem op_all {bs : List Bool} (l : LN Γ .e (.bl (bs.all id)) r) : OpN (bAll [.lst (bs.map T.bl)]) Γ LN r := opN_fz (by show (allBl _).map _ = _; rw [allBl_map]; rfl) l
theorem op_any {bs : List Bool} (l : LN Γ .e (.bl (bs.any id)) r) : OpN (bAny [.lst (bs.map T.bl)]) Γ LN r := opN_fz (by show (allBl _).map _ = _; rw [allBl_map]; rfl) l
theorem op_sum {bs : List Int} (l : LN Γ .e (.int bs.sum) r) : OpN (bSum [.lst (bs.map T.int)]) Γ LN r := opN_fz (by show (allInt _).map _ = _; rw [allInt_map]; rfl) l
/-- the first least one -/
def minF {α : Type} (lt : α → α → Bool) (a : α) (l : List α) : α := l.foldl (fun m x => if lt x m = true then x else m) a
def maxF {α : Type} (lt : α → α → Bool) (a : α) (l : List α) : α := l.foldl (fun m x => if lt m x = true then x else m) a
def minR {α : Type} (lt : α → α → Bool) : List α → Res α
  | [] => .no
  | a :: l => .ok (minF lt a l)
def maxR {α : Type} (lt : α → α → Bool) : List α → Res α
  | [] => .no
  | a :: l => .ok (maxF lt a l)
theorem okOrd_map {D : Dt e} {lt : α → α → Bool} (O : Od D lt) (h : D.n ≤ 50) (l : List α) : okOrd (l.map D.d) = true := by
  have := dep_map D l
  simp only [okOrd, Bool.and_eq_true, List.all_eq_true, decide_eq_true_eq]
  refine ⟨⟨fun x hx y hy => ?_, fun x hx => ?_⟩, by omega⟩
  · obtain ⟨a, _, rfl⟩ := List.mem_map.mp hx
    obtain ⟨b, _, rfl⟩ := List.mem_map.mp hy
    exact O.alk a b
  · obtain ⟨a, _, rfl⟩ := List.mem_map.mp hx
    simp [O.nn]
theorem minD_map {D : Dt e} {lt : α → α → Bool} (O : Od D lt) (a : α) (l : List α) : PySem.W.minD (D.d a) (l.map D.d) = D.d (minF lt a l) := by
  unfold PySem.W.minD minF
  induction l generalizing a with
  | nil => rfl
  | cons b l ih =>
    simp only [List.map_cons, List.foldl_cons]
    rw [O.lt]
    by_cases h : lt b a = true
    · rw [if_pos h, if_pos h]; exact ih b
    · rw [if_neg h, if_neg h]; exact ih a
theorem maxD_map {D : Dt e} {lt : α → α → Bool} (O : Od D lt) (a : α) (l : List α) : PySem.W.maxD (D.d a) (l.map D.d) = D.d (maxF lt a l) := by
  unfold PySem.W.maxD maxF
  induction l generalizing a with
  | nil => rfl
  | cons b l ih =>
    simp only [List.map_cons, List.foldl_cons]
    rw [O.lt]
    by_cases h : lt a b = true
    · rw [if_pos h, if_pos h]; exact ih b
    · rw [if_neg h, if_neg h]; exact ih a
theorem op_min {D : Dt e} {lt : α → α → Bool} (O : Od D lt) {xs : List α} {K : α → β} (l : ∀ x, LN Γ .e (e x) (K x)) (h : D.n ≤ 50 := by exact Nat.le_of_ble_eq_true rfl) : OpN (bMin [.lst (xs.map e)]) Γ LN (bnd (minR lt xs) K) := by
  cases xs with
  | nil => exact .no
  | cons a xs =>
    refine opN_fz ?_ (l (minF lt a xs))
    have e1 : ∀ ts : List T, bMin [.lst ts] = (match cDs ts with | some (d :: ds) => if okOrd (d :: ds) = true then some (.fz (ofD (PySem.W.minD d ds))) else none | _ => none) := fun ts => rfl
    have e2 : okOrd (D.d a :: xs.map D.d) = true := okOrd_map O h (a :: xs)
    rw [e1, cDs_map D]
    simp only [List.map_cons]
    rw [if_pos e2, minD_map O, D.ofD]
theorem op_max {D : Dt e} {lt : α → α → Bool} (O : Od D lt) {xs : List α} {K : α → β} (l : ∀ x, LN Γ .e (e x) (K x)) (h : D.n ≤ 50 := by exact Nat.le_of_ble_eq_true rfl) : OpN (bMax [.lst (xs.map e)]) Γ LN (bnd (maxR lt xs) K) := by
  cases xs with
  | nil => exact .no
  | cons a xs =>
    refine opN_fz ?_ (l (maxF lt a xs))
    have e1 : ∀ ts : List T, bMax [.lst ts] = (match cDs ts with | some (d :: ds) => if okOrd (d :: ds) = true then some (.fz (ofD (PySem.W.maxD d ds))) else none | _ => none) := fun ts => rfl
    have e2 : okOrd (D.d a :: xs.map D.d) = true := okOrd_map O h (a :: xs)
    rw [e1, cDs_map D]
    simp only [List.map_cons]
    rw [if_pos e2, maxD_map O, D.ofD]
def srt {α : Type} (lt : α → α → Bool) (l : List α) : List α := l.mergeSort fun a b => !lt b a
theorem srt_map {D : Dt e} {lt : α → α → Bool} (O : Od D lt) (l : List α) : sortD (l.map D.d) = (srt lt l).map D.d := by
  unfold sortD srt
  symm
  refine List.map_mergeSort (fun a _ b _ => ?_)
  show _ = !PySem.W.dataLt (D.d b) (D.d a)
  rw [O.lt]
theorem op_sorted {D : Dt e} {lt : α → α → Bool} (O : Od D lt) (hs : ((∀ a, isTupC (D.d a) = true) ∨ ∀ a, isFlatK (D.d a) = true)) {xs : List α} (l : LN Γ .o (.lst ((srt lt xs).map e)) r) (h : D.n ≤ 50 := by exact Nat.le_of_ble_eq_true rfl) : OpN (bSorted [.lst (xs.map e)]) Γ LN r := by
  refine opN_own ?_ l
  have e1 : ∀ ts : List T, bSorted [.lst ts] = (match cDs ts with | some ds => if okSort ds = true then some (.own (.lst (ofDs (sortD ds)))) else none | _ => none) := fun ts => rfl
  have e2 : okSort (xs.map D.d) = true := by
    unfold okSort
    rw [okOrd_map O h, Bool.true_and, Bool.or_eq_true, List.all_eq_true, List.all_eq_true]
    rcases hs with hs | hs
    · left; intro x hx; obtain ⟨a, _, rfl⟩ := List.mem_map.mp hx; exact hs a
    · right; intro x hx; obtain ⟨a, _, rfl⟩ := List.mem_map.mp hx; exact hs a
  rw [e1, cDs_map D]
  dsimp only
  rw [if_pos e2, srt_map O, ofDs_map D]
theorem op_tru_l {L : Bool → β → Prop} {xs : List α} (l : L (!xs.isEmpty) r) : OpL (T.lst (xs.map e)).tru L r := .ok (by show some (!(xs.map e).isEmpty) = _; simp) l
theorem op_tru_t {L : Bool → β → Prop} {xs : List α} (l : L (!xs.isEmpty) r) : OpL (T.tup (xs.map e)).tru L r := .ok (by show some (!(xs.map e).isEmpty) = _; simp) l
theorem op_tru_b {L : Bool → β → Prop} {b : Bool} (l : L b r) : OpL (T.bl b).tru L r := .ok rfl l
def appR {α : Type} (xs : List α) (x : α) : Res (List α) := if xs.length ≤ 1000000 then .ok (xs ++ [x]) else .no
def extR {α : Type} (xs ys : List α) : Res (List α) := if xs.length + ys.length ≤ 1000000 then .ok (xs ++ ys) else .no
theorem appR_ok {xs : List α} {x : α} (h : xs.length ≤ 1000000) : appR xs x = .ok (xs ++ [x]) := if_pos h
theorem extR_ok {xs ys : List α} (h : xs.length + ys.length ≤ 1000000) : extR xs ys = .ok (xs ++ ys) := if_pos h
theorem op_app {L : T × T → β → Prop} {xs : List α} {x : α} {K : List α → β} (l : ∀ ys, L (.lst (ys.map e), .non) (K ys)) : OpL (mAppend (.lst (xs.map e)) [e x]) L (bnd (appR xs x) K) := by
  unfold appR
  by_cases h : xs.length ≤ 1000000
  · rw [if_pos h]
    refine .ok ?_ (l (xs ++ [x]))
    rw [Ev.app_eq, if_pos (by simpa using h)]
    simp
  · rw [if_neg h]; exact .no
theorem op_ext {L : T × T → β → Prop} {xs ys : List α} {K : List α → β} (l : ∀ ys, L (.lst (ys.map e), .non) (K ys)) : OpL (mExtend (.lst (xs.map e)) [.lst (ys.map e)]) L (bnd (extR xs ys) K) := by
  unfold extR
  by_cases h : xs.length + ys.length ≤ 1000000
  · rw [if_pos h]
    refine .ok ?_ (l (xs ++ ys))
    show (if (xs.map e).length + (ys.map e).length ≤ 1000000 then some (T.lst (xs.map e ++ ys.map e), T.non) else none) = _
    rw [if_pos (by simpa using h)]
    simp
  · rw [if_neg h]; exact .no
def setR {α : Type} (xs : List α) (i : Int) (x : α) : Res (List α) := match ixN xs.length i with
  | some j => .ok (xs.set j x)
  | none => .no
theorem op_setL {L : T → β → Prop} {xs : List α} {i : Int} {x : α} {K : List α → β} (l : ∀ ys, L (.lst (ys.map e)) (K ys)) : OpL (stL (.lst (xs.map e)) (.int i) (e x)) L (bnd (setR xs i x) K) := by
  unfold setR
  have e1 : stL (.lst (xs.map e)) (.int i) (e x) = (ixN xs.length i).map fun j => .lst ((xs.map e).set j (e x)) := by show (ixN (xs.map e).length i).map _ = _; rw [List.length_map]
  cases h : ixN xs.length i with
  | none => exact .no
  | some j => exact .ok (by rw [e1, h]; simp [List.map_set]) (l _)
/-! in -/
theorem cIn_ints (v : Int) (m : List Int) : (cIn (.int v) (.lst (m.map T.int)) = some (decide (v ∈ m)) ∧ cNotIn (.int v) (.lst (m.map T.int)) = some (!decide (v ∈ m))) ∧ cIn (.int v) (.tup (m.map T.int)) = some (decide (v ∈ m)) ∧ cNotIn (.int v) (.tup (m.map T.int)) = some (!decide (v ∈ m)) := by
  have f : ∀ m : List Int, fls (m.map T.int) = some (m.map V.int) := fun m => by
    induction m with
    | nil => rfl
    | cons i m ih => simp [fls, T.fl, ih]
  have g : ∀ m : List Int, inV (.int v) (m.map V.int) = decide (v ∈ m) := fun m => by
    induction m with
    | nil => rfl
    | cons i m ih =>
      unfold inV at ih ⊢
      simp only [List.map_cons, List.any_cons, ih]
      by_cases h : i = v
      · subst h; simp [eqV]
      · have h' : ¬ v = i := fun z => h z.symm
        simp [eqV, h, h']
  have e : ∀ n (u : T), u.items = some (m.map T.int) → cInF n (.int v) u = some (if n then !decide (v ∈ m) else decide (v ∈ m)) := fun n u hu => by
    unfold cInF
    rw [hu]
    show (match fls (m.map T.int) with | some xs => some (if n = true then !inV (.int v) xs else inV (.int v) xs) | none => none) = _
    rw [f]
    dsimp only
    rw [g]
  have k : ∀ (g g' : T → T → Option Bool) (t u : T) (b : Bool), g t u = some b → orB g g' t u = some b := fun g g' t u b h => by unfold orB; rw [h]
  exact ⟨⟨k _ _ _ _ _ (e false _ rfl), k _ _ _ _ _ (e true _ rfl)⟩, k _ _ _ _ _ (e false _ rfl), k _ _ _ _ _ (e true _ rfl)⟩
theorem op_in_l {L : Bool → β → Prop} {v : Int} {m : List Int} (l : L (decide (v ∈ m)) r) : OpL (cIn (.int v) (.lst (m.map T.int))) L r := .ok (cIn_ints v m).1.1 l
theorem op_nin_l {L : Bool → β → Prop} {v : Int} {m : List Int} (l : L (!decide (v ∈ m)) r) : OpL (cNotIn (.int v) (.lst (m.map T.int))) L r := .ok (cIn_ints v m).1.2 l
theorem op_in_t {L : Bool → β → Prop} {v : Int} {m : List Int} (l : L (decide (v ∈ m)) r) : OpL (cIn (.int v) (.tup (m.map T.int))) L r := .ok (cIn_ints v m).2.1 l
theorem op_nin_t {L : Bool → β → Prop} {v : Int} {m : List Int} (l : L (!decide (v ∈ m)) r) : OpL (cNotIn (.int v) (.tup (m.map T.int))) L r := .ok (cIn_ints v m).2.2 l
/-! ### dicts -/
def dgetA {κ α : Type} [DecidableEq κ] (kvs : List (κ × α)) (k : κ) : Option α := (kvs.find? fun kv => decide (kv.1 = k)).map (·.2)
def dputA {κ α : Type} [DecidableEq κ] (kvs : List (κ × α)) (k : κ) (v : α) : List (κ × α) :=
  if kvs.any fun kv => decide (kv.1 = k) then kvs.map fun kv => if kv.1 = k then (kv.1, v) else kv else kvs ++ [(k, v)]
/-- keys in words -/
structure Ky {κ κ' : Type} [DecidableEq κ] [DecidableEq κ'] (f : κ → κ') : Prop where
  inj : ∀ a b, f a = f b → a = b
theorem valT_map {κ κ' : Type} [DecidableEq κ] [DecidableEq κ'] {f : κ → κ'} (hf : Ky f) (kvs : List (κ × α)) (k : κ) : valT (kvs.map fun p => (f p.1, e p.2)) (f k) = (dgetA kvs k).map e := by
  unfold valT dgetA
  induction kvs with
  | nil => rfl
  | cons p kvs ih =>
    simp only [List.map_cons, List.find?_cons]
    by_cases h : p.1 = k
    · simp [h]
    · have h' : ¬ f p.1 = f k := fun z => h (hf.inj _ _ z)
      simp only [h, h', decide_false]
      exact ih
theorem putT_map {κ κ' : Type} [DecidableEq κ] [DecidableEq κ'] {f : κ → κ'} (hf : Ky f) (kvs : List (κ × α)) (k : κ) (v : α) : putT (kvs.map fun p => (f p.1, e p.2)) (f k) (e v) = (dputA kvs k v).map fun p => (f p.1, e p.2) := by
  unfold putT dputA
  have : ((kvs.map fun p => (f p.1, e p.2)).any fun kv => decide (kv.1 = f k)) = kvs.any fun kv => decide (kv.1 = k) := by
    induction kvs with
    | nil => rfl
    | cons p kvs ih =>
      simp only [List.map_cons, List.any_cons, ih]
      congr 1
      by_cases h : p.1 = k
      · simp [h]
      · have h' : ¬ f p.1 = f k := fun z => h (hf.inj _ _ z)
        simp [h, h']
  rw [this]
  split
  · simp only [List.map_map]
    apply List.map_congr_left
    intro p _
    by_cases h : p.1 = k
    · simp [h]
    · have h' : ¬ f p.1 = f k := fun z => h (hf.inj _ _ z)
      simp [h, h']
  · simp
abbrev kI (i : Int) : Key := .inl i
theorem kyI : Ky kI := ⟨fun a b h => by cases h; rfl⟩
abbrev dI {α : Type} (e : α → T) (kvs : List (Int × α)) : T := .dK (kvs.map fun p => (kI p.1, e p.2))
def getR {κ α : Type} [DecidableEq κ] (kvs : List (κ × α)) (k : κ) : Res α := match dgetA kvs k with
  | some a => .ok a
  | none => .no
def putR {κ α : Type} [DecidableEq κ] (kvs : List (κ × α)) (k : κ) (v : α) : Res (List (κ × α)) := if kvs.length ≤ 1000000 then .ok (dputA kvs k v) else .no
theorem op_dget {kvs : List (Int × α)} {k : Int} {K : α → β} (l : ∀ x, LN Γ .e (e x) (K x)) : OpN (aIx (dI e kvs) (.int k)) Γ LN (bnd (getR kvs k) K) := by
  unfold getR
  have e1 : aIx (dI e kvs) (.int k) = (match some (valT (kvs.map fun p => (kI p.1, e p.2)) (kI k)) with | some (some w) => some (.fz w) | _ => none) := rfl
  rw [valT_map kyI] at e1
  cases h : dgetA kvs k with
  | none => exact .no
  | some a => exact opN_fz (by rw [e1, h]; rfl) (l a)
theorem op_dput {L : T → β → Prop} {kvs : List (Int × α)} {k : Int} {v : α} {K : List (Int × α) → β} (l : ∀ kvs, L (dI e kvs) (K kvs)) : OpL (stD (dI e kvs) (.int k) (e v)) L (bnd (putR kvs k v) K) := by
  unfold putR
  have e1 : stD (dI e kvs) (.int k) (e v) = if (kvs.map fun p => (kI p.1, e p.2)).length ≤ 1000000 then some (.dK (putT (kvs.map fun p => (kI p.1, e p.2)) (kI k) (e v))) else none := rfl
  rw [List.length_map, putT_map kyI] at e1
  by_cases h : kvs.length ≤ 1000000
  · rw [if_pos h]; exact .ok (by rw [e1, if_pos h]) (l _)
  · rw [if_neg h]; exact .no
theorem cInK_dI (neg : Bool) (kvs : List (Int × α)) (k : Int) : cInK neg (.int k) (dI e kvs) = some (if neg then !(dgetA kvs k).isSome else (dgetA kvs k).isSome) := by
  have e1 : cInK neg (.int k) (dI e kvs) = (some (valT (kvs.map fun p => (kI p.1, e p.2)) (kI k))).map fun o => if neg then !o.isSome else o.isSome := rfl
  rw [e1, valT_map kyI]
  cases dgetA kvs k <;> rfl
theorem op_din {L : Bool → β → Prop} {kvs : List (Int × α)} {k : Int} (l : L (dgetA kvs k).isSome r) : OpL (cIn (.int k) (dI e kvs)) L r := .ok (by
  have e0 : cInF false (.int k) (dI e kvs) = none := rfl
  show orB _ _ _ _ = _
  unfold orB
  rw [e0]
  dsimp only
  rw [cInK_dI]; rfl) l
theorem op_dnin {L : Bool → β → Prop} {kvs : List (Int × α)} {k : Int} (l : L (!(dgetA kvs k).isSome) r) : OpL (cNotIn (.int k) (dI e kvs)) L r := .ok (by
  have e0 : cInF true (.int k) (dI e kvs) = none := rfl
  show orB _ _ _ _ = _
  unfold orB
  rw [e0]
  dsimp only
  rw [cInK_dI]; rfl) l
end
/-! slices -/
section
variable {β : Type} [OutC β]
inductive XOO (Γ : Ctx) (L : Ctx → Option Int → β → Prop) : R (Option Int) → β → Prop
  | ok {ρ : FX.Env} {Γ' : Ctx} {o : Option Int} {r : β} (E : EnvR Γ' ρ) (M : Mono Γ Γ') (l : L Γ' o r) : XOO Γ L (.ok o ρ) r
  | er {x : Ex} {ρ : FX.Env} : XOO Γ L (.err x ρ) (OutC.er x)
  | no {r : R (Option Int)} : XOO Γ L r OutC.no
def XN (Γ : Ctx) (f : FX.Env → R (Option Int)) (L : Ctx → Option Int → β → Prop) (r : β) : Prop := ∀ ρ, EnvR Γ ρ → XOO Γ L (f ρ) r
variable {Γ : Ctx} {r : β}
theorem n_none {L : Ctx → Option Int → β → Prop} (l : L Γ none r) : XN Γ fNone L r := fun ρ E => .ok E (.refl _) l
theorem n_some {L : Ctx → Option Int → β → Prop} {f : FX.Env → R Vl} (h : XE Γ f (fun Γ1 k t r1 => k.ns ∧ ∃ i : Int, t = .int i ∧ L Γ1 (some i) r1) r) : XN Γ (fSome f) L r := fun ρ E => by
  have h := h ρ E
  rw [Ev.ap_some]
  generalize f ρ = x at h ⊢
  cases h with
  | er => exact .er
  | no => exact .no
  | ok E1 M V l =>
    rename_i w ρ1 Γ1 k t
    obtain ⟨hk, i, rfl, l⟩ := l
    show XOO Γ L (R.bind (R.ok w.norm ρ1) _) r
    rw [(V.vn hk).flat rfl]
    exact .ok E1 M l
theorem x_cut {L : Ctx → Kd → T → β → Prop} {fa : FX.Env → R Vl} {fl fh : FX.Env → R (Option Int)} (h : XE Γ fa (fun Γ1 _ t r1 => XN Γ1 fl (fun Γ2 lo r2 => Γ2 = Γ1 ∧ XN Γ1 fh (fun Γ3 hi r3 => Γ3 = Γ1 ∧ OpN (aCut t lo hi) Γ1 L r3) r2) r1) r) : XE Γ (fCut fa fl fh) L r := fun ρ E => by
  have h := h ρ E
  rw [Ev.ap_cut]
  generalize fa ρ = x at h ⊢
  cases h with
  | er => exact .er
  | no => exact .no
  | ok E1 M V l =>
    rename_i w ρ1 Γ1 k t
    have h2 := l _ E1
    show XO Γ L (R.bind (fl ρ1) _) r
    generalize fl ρ1 = x at h2 ⊢
    cases h2 with
    | er => exact .er
    | no => exact .no
    | ok E2 M2 l2 =>
      rename_i ρ2 Γ2 lo
      obtain ⟨rfl, l2⟩ := l2
      have h3 := l2 _ E2
      show XO Γ L (R.bind (fh ρ2) _) r
      generalize fh ρ2 = x at h3 ⊢
      cases h3 with
      | er => exact .er
      | no => exact .no
      | ok E3 M3 l3 =>
        rename_i ρ3 Γ3 hi
        obtain ⟨rfl, l3⟩ := l3
        show XO Γ L (R.of ((look ρ3 w.norm).bind fun t => aCut t lo hi) ρ3) r
        rw [V.vs.look E3]
        exact of_XO E3 M l3
theorem x_rev {L : Ctx → Kd → T → β → Prop} {fa : FX.Env → R Vl} (h : XE Γ fa (fun Γ1 _ t r1 => OpN (aRev t) Γ1 L r1) r) : XE Γ (fRev fa) L r := fun ρ E => by
  have h := h ρ E
  rw [Ev.ap_rev]
  generalize fa ρ = x at h ⊢
  cases h with
  | er => exact .er
  | no => exact .no
  | ok E1 M V l =>
    rename_i w ρ1 Γ1 k t
    show XO Γ L (R.of ((look ρ1 w.norm).bind aRev) ρ1) r
    rw [V.vs.look E1]
    exact of_XO E1 M l
end
end TY
end

section
set_option Elab.async false
set_option linter.all false
set_option maxRecDepth 100000
/-! TY: orders of compound data -/
namespace TY
open PySem PySem.W PyProof.Rows L2 FX
theorem Od.irr {α : Type} {e : α → T} {D : Dt e} {lt : α → α → Bool} (O : Od D lt) (a : α) : lt a a = false := by
  rw [← O.lt]
  exact lex_irrefl _
structure Ods {α : Type} {es : α → List T} (E : Dts es) (lt : α → α → Bool) : Prop where
  alk : ∀ a b, alikeAll (E.d a) (E.d b) = true
  lt : ∀ a b, PyProof.Rows.lexLt itemOrd (keyToksAll (E.d a)) (keyToksAll (E.d b)) = lt a b
theorem lex_nil_nil : PyProof.Rows.lexLt itemOrd (keyToksAll []) (keyToksAll []) = false := lex_irrefl _
theorem lex_nil_cons (y : PyData) (ys : List PyData) : PyProof.Rows.lexLt itemOrd (keyToksAll []) (keyToksAll (y :: ys)) = true := by
  rw [toks_all_cons]
  simp only [keyToksAll]
  rw [lex_diff (O := itemOrd) (by simp)]
  rfl
theorem lex_cons_nil (y : PyData) (ys : List PyData) : PyProof.Rows.lexLt itemOrd (keyToksAll (y :: ys)) (keyToksAll []) = false := by
  rw [toks_all_cons]
  simp only [keyToksAll]
  rw [lex_diff (O := itemOrd) (by simp)]
  rfl
section
variable {α γ : Type} {e : α → T} {es : γ → List T}
theorem ods1 {D : Dt e} {lt : α → α → Bool} (O : Od D lt) : Ods (dts1 D) lt where
  alk := fun a b => by simp [dts1, alikeAll, O.alk]
  lt := fun a b => by
    show PyProof.Rows.lexLt itemOrd (keyToksAll (D.d a :: [])) (keyToksAll (D.d b :: [])) = lt a b
    cases h : PyData.eqv (D.d a) (D.d b) with
    | true =>
      rw [dataLt_all_yes (O.alk a b) h, lex_nil_nil]
      rw [D.inj a b h, O.irr]
    | false => rw [dataLt_all_no (O.alk a b) h, O.lt]
/-- first things first -/
def ltC {α γ : Type} [DecidableEq α] (lt1 : α → α → Bool) (lt2 : γ → γ → Bool) (p q : α × γ) : Bool := if p.1 = q.1 then lt2 p.2 q.2 else lt1 p.1 q.1
theorem odsC [DecidableEq α] {D : Dt e} {E : Dts es} {lt1 : α → α → Bool} {lt2 : γ → γ → Bool} (O : Od D lt1) (P : Ods E lt2) : Ods (dtsC D E) (ltC lt1 lt2) where
  alk := fun a b => by simp [dtsC, alikeAll, O.alk, P.alk]
  lt := fun a b => by
    show PyProof.Rows.lexLt itemOrd (keyToksAll (D.d a.1 :: E.d a.2)) (keyToksAll (D.d b.1 :: E.d b.2)) = ltC lt1 lt2 a b
    unfold ltC
    cases h : PyData.eqv (D.d a.1) (D.d b.1) with
    | true => rw [dataLt_all_yes (O.alk _ _) h, P.lt, if_pos (D.inj _ _ h)]
    | false =>
      rw [dataLt_all_no (O.alk _ _) h, O.lt, if_neg]
      intro z
      rw [z, D.rfl'] at h; cases h
theorem odT {D : Dts es} {lt : γ → γ → Bool} (P : Ods D lt) : Od (dtT D) lt where
  alk := fun a b => by simp [dtT, alike, P.alk]
  nn := fun a => rfl
  lt := fun a b => by
    show dataLt (.tuple (D.d a)) (.tuple (D.d b)) = _
    rw [dataLt_tuple, P.lt]
def ltL {α : Type} [DecidableEq α] (lt : α → α → Bool) : List α → List α → Bool
  | [], [] => false
  | [], _ :: _ => true
  | _ :: _, [] => false
  | a :: l, b :: m => if a = b then ltL lt l m else lt a b
theorem ltL_lex [DecidableEq α] {D : Dt e} {lt : α → α → Bool} (O : Od D lt) : ∀ l m : List α, PyProof.Rows.lexLt itemOrd (keyToksAll (l.map D.d)) (keyToksAll (m.map D.d)) = ltL lt l m
  | [], [] => lex_nil_nil
  | [], b :: m => lex_nil_cons _ _
  | a :: l, [] => lex_cons_nil _ _
  | a :: l, b :: m => by
    simp only [List.map_cons, ltL]
    cases h : PyData.eqv (D.d a) (D.d b) with
    | true => rw [dataLt_all_yes (O.alk a b) h, ltL_lex O l m, if_pos (D.inj a b h)]
    | false =>
      rw [dataLt_all_no (O.alk a b) h, O.lt, if_neg]
      intro z
      rw [z, D.rfl'] at h; cases h
theorem alk_map {D : Dt e} {lt : α → α → Bool} (O : Od D lt) : ∀ l m : List α, alikeAll (l.map D.d) (m.map D.d) = true
  | [], [] => rfl
  | [], b :: m => rfl
  | a :: l, [] => rfl
  | a :: l, b :: m => by simp [alikeAll, O.alk, alk_map O l m]
theorem odS [DecidableEq α] {D : Dt e} {lt : α → α → Bool} (O : Od D lt) : Od (dtS D) (ltL lt) where
  alk := fun a b => by simp [dtS, alike, alk_map O]
  nn := fun a => rfl
  lt := fun a b => by
    show dataLt (.tuple (a.map D.d)) (.tuple (b.map D.d)) = _
    rw [dataLt_tuple, ltL_lex O]
theorem odL [DecidableEq α] {D : Dt e} {lt : α → α → Bool} (O : Od D lt) : Od (dtL D) (ltL lt) where
  alk := fun a b => by simp [dtL, alike, alk_map O]
  nn := fun a => rfl
  lt := fun a b => by
    show dataLt (.list (a.map D.d)) (.list (b.map D.d)) = _
    rw [dataLt_list, ltL_lex O]
end
end TY
end

section
set_option Elab.async false
set_option linter.all false
set_option maxRecDepth 100000
/-! TY: instances, encoders, what the printed proofs lean on -/
namespace TY
open PySem L2 FX
abbrev eL {α : Type} (e : α → T) : List α → T := fun l => .lst (l.map e)
abbrev eQ {α : Type} (e : α → T) : List α → T := fun l => .tup (l.map e)
abbrev e2 {α β : Type} (a : α → T) (b : β → T) : α × β → T := fun p => .tup [a p.1, b p.2]
abbrev e3 {α β γ : Type} (a : α → T) (b : β → T) (c : γ → T) : α × β × γ → T := fun p => .tup [a p.1, b p.2.1, c p.2.2]
abbrev e4 {α β γ δ : Type} (a : α → T) (b : β → T) (c : γ → T) (d : δ → T) : α × β × γ × δ → T := fun p => .tup [a p.1, b p.2.1, c p.2.2.1, d p.2.2.2]
abbrev e6 {α β γ δ ε ζ : Type} (a : α → T) (b : β → T) (c : γ → T) (d : δ → T) (f : ε → T) (g : ζ → T) : α × β × γ × δ × ε × ζ → T := fun p => .tup [a p.1, b p.2.1, c p.2.2.1, d p.2.2.2.1, f p.2.2.2.2.1, g p.2.2.2.2.2]
abbrev eU : Unit → T := fun _ => .non
abbrev eO {α : Type} (e : α → T) : Option α → T := fun o => match o with
  | none => .non
  | some a => e a
abbrev eD : T → T := fun t => t
section
variable {β : Type} [OutC β] {Γ : Ctx} {L : Ctx → Kd → T → β → Prop} {r : β}
theorem t_yes {L : Ctx → Bool → β → Prop} (l : L Γ true r) : XT Γ fYes L r := fun ρ E => .ok E (.refl _) l
theorem x_new {c : Str} (l : L Γ .o (.ins c []) r) : XE Γ (fNew c) L r := fun ρ E => .ok (k := .o) E (.refl _) ⟨rfl, rfl⟩ l
theorem x_attr {c f : Str} {fa : FX.Env → R Vl} (h : XE Γ fa (fun Γ1 _ t r1 => ∃ fs u, t = .ins c fs ∧ fs.lookup f = some u ∧ L Γ1 .e u r1) r) : XE Γ (fAttr c f fa) L r := fun ρ E => by
  have h := h ρ E
  unfold fAttr
  generalize fa ρ = x at h ⊢
  cases h with
  | er => exact .er
  | no => exact .no
  | ok E1 M V l =>
    rename_i w ρ1 Γ1 k t
    obtain ⟨fs, u, rfl, e, l⟩ := l
    show XO Γ L (match look ρ1 w.norm with | some (.ins c' fs) => if c' = c then R.of ((fs.lookup f).map .fz) ρ1 else .stuck | _ => .stuck) r
    rw [V.vs.look E1]
    dsimp only
    rw [if_pos rfl, e]
    exact .ok (k := .e) E1 M (Or.inl rfl) l
/-- a method of one of several classes -/
def PFd {α : Type} (tbl : List (Str × (List T → Rp))) (m : Str) (ts : List T) (q : Res α) (o : Bool) (e : α → T) : Prop := ∃ c fs us g, ts = .ins c fs :: us ∧ tbl.lookup c = some g ∧ fs.lookup m = none ∧ PF g ts q o e
inductive CLd {α : Type} (tbl : List (Str × (List T → Rp))) (m : Str) (ts : List T) (L : Kd → T → β → Prop) : β → Prop
  | mk {q : Res α} {o : Bool} {e : α → T} {K : α → β} (h : PFd tbl m ts q o e) (l : ∀ a, L (okd o) (e a) (K a)) : CLd tbl m ts L (bnd q K)
theorem pf_XO {α : Type} {Γ1 : Ctx} {g : List T → Rp} {ts : List T} {q : Res α} {o : Bool} {e : α → T} {K : α → β} {ρ1 : FX.Env} (E1 : EnvR Γ1 ρ1) (M : Mono Γ Γ1) (h : PF g ts q o e) (l : ∀ a, L Γ1 (okd o) (e a) (K a)) : XO Γ L ((g ts).r ρ1) (bnd q K) := by
  cases q with
  | no => exact .no
  | er x => rw [show g ts = .err x from h]; exact .er
  | ok a =>
    obtain ⟨h1, h2⟩ := h
    cases o with
    | true => rw [(h1 rfl).1]; exact .ok (k := .o) E1 M ⟨rfl, (h1 rfl).2⟩ (l a)
    | false =>
      rcases h2 with h2 | h2
      · rw [h2.1]; exact .ok (k := .e) E1 M (Or.inr (Or.inl ⟨rfl, h2.2⟩)) (l a)
      · rw [h2]; exact .ok (k := .e) E1 M (Or.inl rfl) (l a)
theorem x_disp {α : Type} {m : Str} {tbl : List (Str × (List T → Rp))} {fo : FX.Env → R Vl} {fa : FX.Env → R (List Vl)} (h : XE Γ fo (fun Γ1 k t r1 => k.ns ∧ (∃ c fs g, t = .ins c fs ∧ tbl.lookup c = some g ∧ fs.lookup m = none) ∧ XA Γ1 fa (fun Γ2 ts r2 => CLd (α := α) tbl m (t :: ts) (L Γ2) r2) r1) r) : XE Γ (fDisp m tbl fo fa) L r := fun ρ E => by
  have h := h ρ E
  unfold fDisp
  generalize fo ρ = x at h ⊢
  cases h with
  | er => exact .er
  | no => exact .no
  | ok E1 M V l =>
    rename_i w ρ1 Γ1 k t
    obtain ⟨hk, ⟨c0, fs0, g0, rfl, eg0, ef0⟩, l⟩ := l
    show XO Γ L (match look ρ1 w.norm with | some (.ins c' fs) => (match tbl.lookup c' with | some g => if fs.lookup m = none then (fa ρ1).bind fun vs ρ2 => (match escs (w.norm :: vs) ρ2 with | some (t :: ts, ρ3) => (g (t :: ts)).r ρ3 | _ => .stuck) else .stuck | none => .stuck) | _ => .stuck) r
    rw [V.vs.look E1]
    dsimp only
    rw [eg0]
    dsimp only
    rw [if_pos ef0]
    have l := l ρ1 E1
    generalize fa ρ1 = y at l ⊢
    cases l with
    | no => exact .no
    | er => exact .er
    | ok E2 M2 V2 l2 =>
      rename_i ws ρ2 Γ2 ts
      obtain ⟨ρ3, e3, E3⟩ := (VNs.cons ((V.vn hk).mono M2) V2).escs E2
      cases l2 with
      | @mk q o e K hm lk =>
        obtain ⟨c, fs, us, g, e1, eg, ef, hp⟩ := hm
        cases e1
        rw [eg0] at eg; cases eg
        show XO Γ L (match escs (w.norm :: ws) ρ2 with | some (t :: ts, ρ3) => (g0 (t :: ts)).r ρ3 | _ => .stuck) _
        rw [e3]
        exact pf_XO E3 (M.trans M2) hp lk
theorem x_meth {α : Type} {c m : Str} {g : List T → Rp} {fo : FX.Env → R Vl} {fa : FX.Env → R (List Vl)} (h : XE Γ fo (fun Γ1 k t r1 => k.ns ∧ (∃ fs, t = .ins c fs ∧ fs.lookup m = none) ∧ XA Γ1 fa (fun Γ2 ts r2 => CL (α := α) g (t :: ts) (L Γ2) r2) r1) r) : XE Γ (fMeth c m g fo fa) L r := fun ρ E => by
  have h := h ρ E
  unfold fMeth
  generalize fo ρ = x at h ⊢
  cases h with
  | er => exact .er
  | no => exact .no
  | ok E1 M V l =>
    rename_i w ρ1 Γ1 k t
    obtain ⟨hk, ⟨fs0, rfl, ef0⟩, l⟩ := l
    show XO Γ L (match look ρ1 w.norm with | some (.ins c' fs) => if c' = c ∧ fs.lookup m = none then (fa ρ1).bind fun vs ρ2 => (match escs (w.norm :: vs) ρ2 with | some (t :: ts, ρ3) => (g (t :: ts)).r ρ3 | _ => .stuck) else .stuck | _ => .stuck) r
    rw [V.vs.look E1]
    dsimp only
    rw [if_pos ⟨rfl, ef0⟩]
    have l := l ρ1 E1
    generalize fa ρ1 = y at l ⊢
    cases l with
    | no => exact .no
    | er => exact .er
    | ok E2 M2 V2 l2 =>
      rename_i ws ρ2 Γ2 ts
      obtain ⟨ρ3, e3, E3⟩ := (VNs.cons ((V.vn hk).mono M2) V2).escs E2
      cases l2 with
      | @mk q o e K hm lk =>
        show XO Γ L (match escs (w.norm :: ws) ρ2 with | some (t :: ts, ρ3) => (g (t :: ts)).r ρ3 | _ => .stuck) _
        rw [e3]
        exact pf_XO E3 (M.trans M2) hm lk
inductive CLK {α : Type} (g : T → List T → RpM) (c : Str) (ts : List T) (L : T → β → Prop) : β → Prop
  | mk {q : Res α} {e1 : α → T} {K : α → β} (h : MF g (.ins c []) ts q false e1 (fun _ => .non)) (l : ∀ a, L (e1 a) (K a)) : CLK g c ts L (bnd q K)
theorem x_make {α : Type} {c : Str} {g : T → List T → RpM} {dts : List T} {fa : FX.Env → R (List Vl)} (h : XA Γ fa (fun Γ1 ts r1 => CLK (α := α) g c (ts ++ dts) (fun t r2 => tob t = true ∧ L Γ1 .o t r2) r1) r) : XE Γ (fMake c g dts fa) L r := fun ρ E => by
  unfold fMake
  refine esc_XO (P := XO Γ L) E h (fun x ρ => .er) (fun q => .no) fun Γ1 ts ρ1 r1 E1 M l => ?_
  cases l with
  | @mk q e1 K hm l =>
    cases q with
    | no => exact .no
    | er x => rw [show g (.ins c []) (ts ++ dts) = .err x from hm]; exact .er
    | ok a =>
      obtain ⟨_, h2⟩ := hm
      rcases h2 with h2 | h2
      · exact absurd h2.2 (fun z => by cases z)
      · rw [h2]; exact .ok (k := .o) E1 M ⟨rfl, (l a).1⟩ (l a).2
end
section
variable {τ σ β : Type} {Z : Zx σ β} {Γ : Ctx} {L : Ctx → Fl τ σ β → Prop} {r : Fl τ σ β}
/-- x = e, the value gets a name -/
theorem s_setK {α : Type} (e : α → T) {i : Nat} {f : FX.Env → R Vl} (h : XE Γ f (fun Γ1 k t r1 => k.ns ∧ ∃ (a : α) (K : α → Fl τ σ β), t = e a ∧ r1 = bnd (.ok a) K ∧ ∀ x, L (Γ1.set i (.hold (e x))) (K x)) r) : SS Z Γ (gSet i f) L r := by
  refine s_set fun ρ E => ?_
  have h := h ρ E
  generalize f ρ = x at h ⊢
  cases h with
  | er => exact .er
  | no => exact .no
  | ok E1 M V l =>
    obtain ⟨hk, a, K, rfl, rfl, l⟩ := l
    exact .ok E1 M V ⟨hk, l a⟩
theorem s_setF {c f : Str} {i : Nat} {fv : FX.Env → R Vl} (h : XE Γ fv (fun Γ1 k t r1 => k.ns ∧ ∃ kk fs u, Γ1[i]? = some (.own kk (.ins c fs)) ∧ fs.length < 1000 ∧ .ins c (putFT f t fs) = u ∧ L (Γ1.set i (.own kk u)) r1) r) : SS Z Γ (gSetF c f i fv) L r := fun ρ E => by
  unfold gSetF
  refine of_oN h E fun w ρ1 Γ1 kd t r1 E1 M V l => ?_
  obtain ⟨hk, kk, fs, u, hi, hl, rfl, l⟩ := l
  obtain ⟨s, es, hs⟩ := E1.get (i := i) hi
  cases hs
  rw [Ev.ownT_eq, es]
  dsimp only
  obtain ⟨ρ2, e2, E2⟩ := (VNs.cons (V.vn hk) .nil).escs E1
  obtain ⟨s, es, hs⟩ := E2.get (i := i) hi
  cases hs
  rw [e2]
  dsimp only
  rw [Ev.ownT_eq, es]
  dsimp only
  rw [if_pos ⟨rfl, hl⟩]
  exact .nx (E2.set (m := .own kk _) (s := .own kk _) rfl) l
end
/-! range with a step -/
def rngI3 (i j c : Int) : List Int := (List.range (Builtin.Range.rangeSize i j c).toNat).map fun k => i + (k : Nat) * c
def rng3 (i j c : Int) : Res (List Int) := if okR3 i j c = true then .ok (rngI3 i j c) else .no
section
variable {β : Type} [OutC β] {Γ : Ctx} {r : β}
theorem VNs.flat3 {ws : List Vl} {t u v : T} (h : VNs Γ ws [t, u, v]) (hb : tob t = false) (hb2 : tob u = false) (hb3 : tob v = false) : ws = [.fz t, .fz u, .fz v] := by
  cases h with
  | cons h r => rw [h.flat hb, r.flat2 hb2 hb3]
theorem i_range3 {L : Ctx → List T → β → Prop} {fa : FX.Env → R (List Vl)} (h : XA Γ fa (fun Γ1 ts r1 => ∃ (i j c : Int) (K : List Int → β), ts = [.int i, .int j, .int c] ∧ r1 = bnd (rng3 i j c) K ∧ ∀ l, L Γ1 (l.map T.int) (K l)) r) : XI Γ (fRange3 fa) L r := fun ρ E => by
  have h := h ρ E
  unfold fRange3
  generalize fa ρ = x at h ⊢
  cases h with
  | er => exact .er
  | no => exact .no
  | ok E1 M V l =>
    obtain ⟨i, j, c, K, rfl, rfl, l⟩ := l
    have := V.flat3 rfl rfl rfl
    subst this
    show XIO Γ L (if okR3 i j c = true then .ok (range3T i j c) _ else .stuck) _
    unfold rng3
    by_cases ho : okR3 i j c = true
    · rw [if_pos ho, if_pos ho, show range3T i j c = (rngI3 i j c).map T.int by simp [range3T, rngI3]]; exact .ok E1 M (l _)
    · rw [if_neg ho, if_neg ho]; exact .no
/-- a op b op' c of ints -/
theorem t_chain {L : Ctx → Bool → β → Prop} {g g' : T → T → Option Bool} {fa fb fc : FX.Env → R Vl} {z : T} (p q : Bool) (h : XE Γ fa (fun Γ1 k1 t r1 => k1.ns ∧ XE Γ1 fb (fun Γ2 k2 u r2 => k2.ns ∧ g t u = some p ∧ XPv Γ2 fc z ∧ g' u z = some q ∧ L Γ2 (p && q) r2) r1) r) : XT Γ (fChain g g' fa fb fc) L r := fun ρ E => by
  have h := h ρ E
  rw [Ev.ap_chain]
  generalize fa ρ = x at h ⊢
  cases h with
  | er => exact .er
  | no => exact .no
  | ok E1 M V l =>
    rename_i w ρ1 Γ1 k1 t
    obtain ⟨hk, l⟩ := l
    have l := l ρ1 E1
    show XTO Γ L (R.bind (R.norm (fb ρ1)) _) r
    generalize fb ρ1 = y at l ⊢
    cases l with
    | er => exact .er
    | no => exact .no
    | ok E2 M2 V2 l2 =>
      rename_i w2 ρ2 Γ2 k2 u
      obtain ⟨hk2, e1, hz, e2, l⟩ := l2
      show XTO Γ L (match look2 ρ2 w.norm w2.norm g with | some true => (fc ρ2).norm.bind fun z ρ3 => R.ofB (look2 ρ3 w2.norm z g') ρ3 | some false => .ok false ρ2 | none => .stuck) r
      rw [Ev.look2_eq, ((V.vn hk).mono M2).look E2, (V2.vn hk2).look E2]
      dsimp only
      rw [e1]
      cases p with
      | false => exact .ok E2 (M.trans M2) l
      | true =>
        obtain ⟨k3, w3, ρ3, e3, E3, V3, hk3⟩ := hz.run E2
        dsimp only
        rw [e3]
        show XTO Γ L (R.ofB (look2 ρ3 w2.norm w3.norm g') ρ3) r
        rw [Ev.look2_eq, (V2.vn hk2).look E3, (V3.vn hk3).look E3]
        dsimp only
        rw [e2]
        exact .ok E3 (M.trans M2) l
/-- sorted(d) of a dict, its keys -/
theorem xi_keys {L : Ctx → List T → β → Prop} {fa : FX.Env → R (List Vl)} (h : True) : True := trivial
end
end TY
end

section
set_option Elab.async false
set_option linter.all false
set_option maxRecDepth 100000
/-! TY: stars, lists and sorts of dicts, truth of options -/
namespace TY
open PySem L2 FX
section
variable {β : Type} [OutC β] {Γ : Ctx} {r : β}
theorem vfz_all {Γ : Ctx} : ∀ us : List T, VNs Γ (us.map .fz) us
  | [] => .nil
  | u :: us => .cons (Or.inl rfl) (vfz_all us)
theorem VNs.app {Γ : Ctx} : ∀ {ws vs : List Vl} {ts us : List T}, VNs Γ ws ts → VNs Γ vs us → VNs Γ (ws ++ vs) (ts ++ us)
  | _, _, _, _, .nil, h => h
  | _, _, _, _, .cons a r, h => .cons a (r.app h)
theorem a_star {L : Ctx → List T → β → Prop} {f : FX.Env → R Vl} {g : FX.Env → R (List Vl)} (h : XE Γ f (fun Γ1 _ t r1 => ∃ us, t.items = some us ∧ XA Γ1 g (fun Γ2 ts r2 => L Γ2 (us ++ ts) r2) r1) r) : XA Γ (fAStar f g) L r := fun ρ E => by
  have h := h ρ E
  rw [Ev.ap_star]
  generalize f ρ = x at h ⊢
  cases h with
  | er => exact .er
  | no => exact .no
  | ok E1 M V l =>
    rename_i w ρ1 Γ1 k t
    obtain ⟨us, eu, l⟩ := l
    have h2 := l _ E1
    show XAO Γ L (match (look ρ1 w.norm).bind T.items with | some ts => (g ρ1).bind fun vs ρ2 => .ok (ts.map .fz ++ vs) ρ2 | none => .stuck) r
    rw [V.vs.look E1]
    show XAO Γ L (match t.items with | some ts => (g ρ1).bind fun vs ρ2 => .ok (ts.map .fz ++ vs) ρ2 | none => .stuck) r
    rw [eu]
    dsimp only
    generalize g ρ1 = y at h2 ⊢
    cases h2 with
    | er => exact .er
    | no => exact .no
    | ok E2 M2 V2 l2 => exact .ok E2 (M.trans M2) ((vfz_all us).app V2) l2
def limR {α : Type} (l : List α) : Res (List α) := if l.length ≤ 1000 then .ok l else .no
theorem limR_ok {α : Type} {l : List α} (h : l.length ≤ 1000) : limR l = .ok l := if_pos h
theorem x_lstL {α : Type} {L : Ctx → Kd → T → β → Prop} {fa : FX.Env → R (List Vl)} (e : α → T) (h : XA Γ fa (fun Γ1 ts r1 => ∃ (l : List α) (K : List α → β), ts = l.map e ∧ r1 = bnd (limR l) K ∧ ∀ l, L Γ1 .o (.lst (l.map e)) (K l)) r) : XE Γ (fLst fa) L r := fun ρ E => by
  rw [Ev.ap_lst]
  refine esc_XO (P := XO Γ L) E h (fun x ρ => .er) (fun q => .no) fun Γ1 ts ρ1 r1 E1 M l => ?_
  obtain ⟨l, K, rfl, rfl, hl⟩ := l
  rw [Ev.lim_eq]
  unfold limR
  by_cases hn : l.length ≤ 1000
  · rw [if_pos (by simpa using hn), if_pos hn]; exact .ok (k := .o) E1 M ⟨rfl, rfl⟩ (hl l)
  · rw [if_neg (by simpa using hn), if_neg hn]; exact .no
theorem x_tupL {α : Type} {L : Ctx → Kd → T → β → Prop} {fa : FX.Env → R (List Vl)} (e : α → T) (h : XA Γ fa (fun Γ1 ts r1 => ∃ (l : List α) (K : List α → β), ts = l.map e ∧ r1 = bnd (limR l) K ∧ ∀ l, L Γ1 .e (.tup (l.map e)) (K l)) r) : XE Γ (fTup fa) L r := fun ρ E => by
  rw [Ev.ap_tup]
  refine esc_XO (P := XO Γ L) E h (fun x ρ => .er) (fun q => .no) fun Γ1 ts ρ1 r1 E1 M l => ?_
  obtain ⟨l, K, rfl, rfl, hl⟩ := l
  rw [Ev.lim_eq]
  unfold limR
  by_cases hn : l.length ≤ 1000
  · rw [if_pos (by simpa using hn), if_pos hn]; exact .ok (k := .e) E1 M (Or.inl rfl) (hl l)
  · rw [if_neg (by simpa using hn), if_neg hn]; exact .no
variable {α : Type} {e : α → T} {LN : Ctx → Kd → T → β → Prop}
theorem op_listA_l {xs : List α} (l : LN Γ .o (.lst (xs.map e)) r) : OpN (bListA [.lst (xs.map e)]) Γ LN r := opN_own rfl l
theorem op_listA_t {xs : List α} (l : LN Γ .o (.lst (xs.map e)) r) : OpN (bListA [.tup (xs.map e)]) Γ LN r := opN_own rfl l
theorem op_listA_di {kvs : List (Int × α)} (l : LN Γ .o (.lst ((kvs.map (·.1)).map T.int)) r) : OpN (bListA [dI e kvs]) Γ LN r := by
  refine opN_own ?_ l
  show some (Nv.own (.lst ((kvs.map fun p => (kI p.1, e p.2)).map fun p => keyT p.1))) = _
  simp [keyT]
theorem op_sortedA_di {kvs : List (Int × α)} {K : List Int → β} (l : ∀ x, LN Γ .o (.lst (x.map T.int)) (K x)) : OpN (bSortedA [dI e kvs]) Γ LN (bnd (if kvs.length < 64 then .ok (sortI (kvs.map (·.1))) else .no) K) := by
  have hk : ∀ kvs : List (Int × α), keysI (kvs.map fun p => (kI p.1, e p.2)) = some (kvs.map (·.1)) := fun kvs => by
    induction kvs with
    | nil => rfl
    | cons p kvs ih => simp [keysI, ih]
  have e1 : bSortedA [dI e kvs] = (match keysI (kvs.map fun p => (kI p.1, e p.2)) with | some ks => if ks.length < 64 then some (.own (.lst ((sortI ks).map T.int))) else none | none => none) := rfl
  rw [hk] at e1
  dsimp only at e1
  rw [List.length_map] at e1
  by_cases h : kvs.length < 64
  · rw [if_pos h] at e1 ⊢; exact opN_own e1 (l _)
  · rw [if_neg h]; exact .no
theorem op_sortedA_l {D : Dt e} {lt : α → α → Bool} (O : Od D lt) (hs : ((∀ a, isTupC (D.d a) = true) ∨ ∀ a, isFlatK (D.d a) = true)) {xs : List α} (l : LN Γ .o (.lst ((srt lt xs).map e)) r) (h : D.n ≤ 50 := by exact Nat.le_of_ble_eq_true rfl) : OpN (bSortedA [.lst (xs.map e)]) Γ LN r := by
  cases op_sorted (Γ := Γ) (LN := LN) O hs l h with
  | ok h l => exact .ok (by show (match bSorted _ with | some v => some v | none => _) = _; rw [h]) l
  | no => exact .no
theorem op_isN_o {L : Bool → β → Prop} (hn : ∀ a, e a ≠ .non) {o : Option α} (l : L o.isNone r) : OpL (cIsN (eO e o) .non) L r := .ok (by
  cases o with
  | none => rfl
  | some a => show cIsN (e a) .non = some false; have := hn a; cases h : e a <;> first | rfl | exact absurd h this) l
theorem op_notN_o {L : Bool → β → Prop} (hn : ∀ a, e a ≠ .non) {o : Option α} (l : L (!o.isNone) r) : OpL (cNotN (eO e o) .non) L r := .ok (by
  cases o with
  | none => rfl
  | some a => show (cIsN (e a) .non).map _ = some true; have := hn a; cases h : e a <;> first | rfl | exact absurd h this) l
end
end TY
end

section
set_option Elab.async false
set_option linter.all false
set_option maxRecDepth 100000
set_option maxHeartbeats 1000000
namespace TY
open PySem L2 FX
section
variable {β : Type} [OutC β] {Γ : Ctx}
theorem x_d1 {L : Ctx → Kd → T → β → Prop} {r : β} {i : Int} {b : Bool} (l : L Γ .o (dI T.bl [(i, b)]) r) : XE Γ (fD1 i b) L r := fun ρ E => .ok (k := .o) E (.refl _) ⟨rfl, rfl⟩ l
end
/-! a field's list, extended in a loop -/
def extF {α γ : Type} (h : α → Res (List γ)) : List α → List γ → Res (List γ)
  | [], acc => .ok acc
  | a :: l, acc => bnd (h a) fun us => if acc.length + us.length ≤ 1000000 then extF h l (acc ++ us) else .no
def ExtP (x : R (List T)) (J : Ctx) {γ : Type} (e' : γ → T) : Res (List γ) → Prop
  | .ok ys => ∃ ρ', x = .ok (ys.map e') ρ' ∧ EnvR J ρ'
  | .er q => ∃ ρ', x = .err q ρ'
  | .no => True
theorem ext_run {α γ : Type} {ws : List Nat} {b : T → FX.Env → Option FX.Env} {fe : FX.Env → R Vl} {e : α → T} {e' : γ → T} {J : Ctx} {hh : α → Res (List γ)}
    (hb : ∀ a, ∃ Γb, TG ws b (e a) J Γb ∧ Sub Γb J ∧ XE Γb fe (fun Γ3 k t r3 => Γ3 = Γb ∧ k.ns ∧ ∃ y, r3 = .ok y ∧ t = .lst (y.map e')) (hh a)) : ∀ (l : List α) (acc : List γ) (ρ : FX.Env), EnvR J ρ → ExtP (extL b (fACons fe fANil) (l.map e) (acc.map e') ρ) J e' (extF hh l acc)
  | [], acc, ρ, E => ⟨ρ, rfl, E⟩
  | a :: l, acc, ρ, E => by
    obtain ⟨Γb, tg, sb, he⟩ := hb a
    obtain ⟨ρ1, e1, E1⟩ := tg.1 ρ E
    have ha : XA Γb (fACons fe fANil) (fun Γ3 ts r3 => Γ3 = Γb ∧ ∃ y, r3 = .ok y ∧ ts = [.lst (y.map e')]) (hh a) := a_cons (fun ρ E => by
      have := he ρ E
      generalize fe ρ = x at this ⊢
      generalize hh a = q at this ⊢
      cases this with
      | ok E M V l =>
        obtain ⟨z, k, y, q1, q2⟩ := l
        exact .ok E M V ⟨k, a_nil ⟨z, y, q1, by rw [q2]⟩⟩
      | er => exact .er
      | no => exact .no)
    have h2 := ha ρ1 E1
    simp only [List.map_cons, extL, e1]
    unfold extF
    generalize fACons fe fANil ρ1 = x at h2 ⊢
    generalize hh a = q at h2 ⊢
    cases h2 with
    | er => exact ⟨_, rfl⟩
    | no => trivial
    | ok E2 M V z =>
      obtain ⟨rfl, y, rfl, rfl⟩ := z
      obtain ⟨ρ3, e3, E3⟩ := V.escs E2
      simp only [e3, bnd_ok]
      by_cases hc : acc.length + y.length ≤ 1000000
      · rw [if_pos hc, List.length_map, List.length_map, if_pos hc, ← List.map_append]
        exact ext_run hb l (acc ++ y) ρ3 (sb.env E3)
      · rw [if_neg hc]; trivial
section
variable {τ σ β : Type} {Z : Zx σ β} {Γ : Ctx} {L : Ctx → Fl τ σ β → Prop} {r : Fl τ σ β}
theorem s_ext {α γ : Type} (ws : List Nat) (e : α → T) (e' : γ → T) (J : Ctx) {c f : Str} {i : Nat} {kk : Option Nat} {fs : List (Str × T)} {fi : FX.Env → R (List T)} {b : T → FX.Env → Option FX.Env} {fe : FX.Env → R Vl} (hΓ : Γ[i]? = some (.own kk (.ins c fs))) (hl : fs.length < 1000)
    (h : XI (Γ.set i .any) fi (fun Γ1 ts r1 => ∃ (l : List α) (hh : α → Res (List γ)) (K : List γ → Fl τ σ β), ts = l.map e ∧ r1 = bnd (extF hh l []) K ∧ Sub Γ1 J ∧ (∀ a, ∃ Γb, TG ws b (e a) J Γb ∧ Sub Γb J ∧ XE Γb fe (fun Γ3 k t r3 => Γ3 = Γb ∧ k.ns ∧ ∃ y, r3 = .ok y ∧ t = .lst (y.map e')) (hh a)) ∧
      ∀ ys, ∃ u, .ins c (putFT f (.lst (ys.map e')) fs) = u ∧ L (J.set i (.own kk u)) (K ys)) r) : SS Z Γ (gExt c f i fi b (fACons fe fANil)) L r := fun ρ E => by
  obtain ⟨s, es, hs⟩ := E.get (i := i) hΓ
  cases hs
  have h := h (ρ.set i .un) (E.set (m := .any) (s := .un) trivial)
  unfold gExt
  rw [Ev.ownT_eq, es]
  dsimp only
  rw [if_pos ⟨rfl, hl⟩]
  generalize fi (ρ.set i .un) = x at h ⊢
  cases h with
  | er => exact .er
  | no => exact .no
  | ok E1 M q =>
    obtain ⟨l, hh, K, rfl, rfl, sb, hb, hk⟩ := q
    have R := ext_run hb l [] _ (sb.env E1)
    show SO Z L ((extL b (fACons fe fANil) (l.map e) [] _).o _) _
    rw [show ([] : List T) = ([] : List γ).map e' from rfl]
    generalize extL b (fACons fe fANil) (l.map e) (([] : List γ).map e') _ = y at R ⊢
    generalize extF hh l [] = z at R ⊢
    match z, R with
    | .ok ys, ⟨ρ', e1, E2⟩ =>
      subst e1
      obtain ⟨u, eu, lu⟩ := hk ys
      exact .nx (E2.set (m := .own kk u) (s := .own kk (.ins c (putFT f (.lst (ys.map e')) fs))) (by rw [eu]; rfl)) lu
    | .er q, ⟨ρ', e1⟩ => subst e1; exact .er
    | .no, _ => exact .no
end
end TY
end

section
set_option Elab.async false
set_option linter.all false
set_option maxRecDepth 100000
set_option maxHeartbeats 1000000
namespace TY
open PySem PySem.Spec PyProof.Rows L2 FX
/-! the law's helpers -/
def gTaken : FX.Env → O :=
  (gSeq (gIf (fCmpT (cI fun i j => decide (j < i)) (fBin aIx (fVar 0) (fC (.int 3))) (fC (.int 0))) (gSeq (gSet 2 (fBin aMod (fCB bInt (fACons (fBin aIx (fVar 0) (fC (.int 3))) fANil)) (fVar 1)))
  (gSeq (gStore stL 0 (fBin aDiv (fBin aIx (fVar 0) (fC (.int 3))) (fVar 1)) (fC (.int 3)))
  (gRet (fVar 2)))) gNil)
  (gSeq (gStore stL 0 (fBin aAdd (fBin aIx (fVar 0) (fC (.int 1))) (fC (.int 1))) (fC (.int 1)))
  (gSeq (gIf (fCmpT (cI fun i j => decide (j < i)) (fBin aIx (fVar 0) (fC (.int 1))) (fCB bLen (fACons (fBin aIx (fVar 0) (fC (.int 0))) fANil))) (gSeq (gStore stL 0 (fBin aMod (fCB bInt (fACons (fBin aAdd (fBin aMul (fBin aIx (fVar 0) (fC (.int 2))) (fC (.int 48271))) (fC (.int 11))) fANil)) (fC (.int 2147483647))) (fC (.int 2)))
  (gRet (fBin aMod (fCB bInt (fACons (fBin aDiv (fBin aIx (fVar 0) (fC (.int 2))) (fC (.int 7))) fANil)) (fVar 1)))) gNil)
  (gSeq (gSet 3 (fBin aIx (fBin aIx (fVar 0) (fC (.int 0))) (fBin aSub (fBin aIx (fVar 0) (fC (.int 1))) (fC (.int 1)))))
  (gSeq (gStore stL 0 (fBin aMod (fCB bInt (fACons (fBin aAdd (fBin aAdd (fBin aMul (fBin aIx (fVar 0) (fC (.int 2))) (fC (.int 48271))) (fVar 3)) (fC (.int 11))) fANil)) (fC (.int 2147483647))) (fC (.int 2)))
  (gSeq (gIf (fCmpT (cI fun i j => decide (j ≤ i)) (fVar 3) (fBin aPow (fC (.int 10)) (fC (.int 18)))) (gStore stL 0 (fBin aDiv (fVar 3) (fVar 1)) (fC (.int 3))) gNil)
  (gRet (fBin aMod (fCB bInt (fACons (fVar 3) fANil)) (fVar 1)))))))))
def gPick : FX.Env → O :=
  (gRet (fBin aIx (fVar 1) (fCallM (mkM 1 4 gTaken) (fACons (fVar 0) (fACons (fCB bLen (fACons (fVar 1) fANil)) fANil)))))
def gAlike (rec : List T → Rp) : FX.Env → O :=
  (gSeq (gIf (fTru (fCB bIsi (fACons (fVar 1) (fACons (fTup (fACons (fC (.ty "tuple")) (fACons (fC (.ty "list")) fANil))) fANil)))) (gSeq (gIf (fOr (fNot (fTru (fCB bIsi (fACons (fVar 0) (fACons (fTup (fACons (fC (.ty "tuple")) (fACons (fC (.ty "list")) fANil))) fANil))))) (fCmpT cNe (fCB bIsi (fACons (fVar 0) (fACons (fC (.ty "list")) fANil))) (fCB bIsi (fACons (fVar 1) (fACons (fC (.ty "list")) fANil))))) (gRet (fC (.bl false))) gNil)
  (gSeq (gIf (fCmpT cNe (fCB bLen (fACons (fVar 0) fANil)) (fCB bLen (fACons (fVar 1) fANil))) (gRet (fC (.bl false))) gNil)
  (gRet (fBin (gCm cEq) (fLc [2] (fRange1 (fACons (fCB bLen (fACons (fVar 1) fANil)) fANil)) (bName 2) (fNot (fTru (fCall rec (fACons (fBin aIx (fVar 0) (fVar 2)) (fACons (fBin aIx (fVar 1) (fVar 2)) fANil))))) (fVar 2)) (fLst fANil))))) gNil)
  (gSeq (gIf (fTru (fCB bIsi (fACons (fVar 1) (fACons (fC (.ty "dict")) fANil)))) (gSeq (gIf (fOr (fNot (fTru (fCB bIsi (fACons (fVar 0) (fACons (fC (.ty "dict")) fANil))))) (fCmpT cNe (fCB bListA (fACons (fVar 0) fANil)) (fCB bListA (fACons (fVar 1) fANil)))) (gRet (fC (.bl false))) gNil)
  (gRet (fBin (gCm cEq) (fLc [3] (fItems (fVar 1)) (bName 3) (fNot (fTru (fCall rec (fACons (fBin aIx (fVar 0) (fVar 3)) (fACons (fBin aIx (fVar 1) (fVar 3)) fANil))))) (fVar 3)) (fLst fANil)))) gNil)
  (gSeq (gIf (fOr (fCmpT cIsN (fVar 1) (fC .non)) (fTru (fCB bIsi (fACons (fVar 1) (fACons (fC (.ty "str")) fANil))))) (gRet (fAndV (fBin (gCm cEq) (fVar 0) (fVar 1)) (fBin (gCm cEq) (fCB bIsi (fACons (fVar 0) (fACons (fC (.ty "str")) fANil))) (fCB bIsi (fACons (fVar 1) (fACons (fC (.ty "str")) fANil)))))) gNil)
  (gRet (fAndV (fCB bIsi (fACons (fVar 0) (fACons (fC (.ty "int")) fANil))) (fAndV (fBin (gCm cEq) (fCB bIsi (fACons (fVar 0) (fACons (fC (.ty "bool")) fANil))) (fCB bIsi (fACons (fVar 1) (fACons (fC (.ty "bool")) fANil)))) (fBin (gCm cEq) (fVar 0) (fVar 1))))))))
def mAlike : Nat → List T → Rp
  | 0 => fun _ => .stuck
  | n + 1 => mkP 2 4 (gAlike (mAlike n))
abbrev Row := List Int × Int × Int × Int
def eRow (r : Row) : T := .lst [.seq (r.1.map .int), .int r.2.1, .int r.2.2.1, .int r.2.2.2]
def takeV (r : Row) (m : Int) : Row × Int :=
  if 0 < r.2.2.2 then ((r.1, r.2.1, r.2.2.1, r.2.2.2 / m), r.2.2.2 % m)
  else if (r.1.length : Int) < r.2.1 + 1 then ((r.1, r.2.1 + 1, (r.2.2.1 * 48271 + 11) % 2147483647, r.2.2.2), ((r.2.2.1 * 48271 + 11) % 2147483647 / 7) % m)
  else ((r.1, r.2.1 + 1, (r.2.2.1 * 48271 + r.1.getD r.2.1.toNat 0 + 11) % 2147483647, if 1000000000000000000 ≤ r.1.getD r.2.1.toNat 0 then r.1.getD r.2.1.toNat 0 / m else r.2.2.2), r.1.getD r.2.1.toNat 0 % m)
def F_taken (r : Row) (m : Int) : Res (Row × Int) := if 0 < m ∧ m < 1000000 ∧ 0 ≤ r.2.1 then .ok (takeV r m) else .no
theorem taken_val {r : Row} {m : Int} (h0 : 0 ≤ r.2.1) (h1 : 0 < m) (h2 : m < 1000000) : ∃ r' v, F_taken r m = .ok (r', v) ∧ r'.1 = r.1 ∧ 0 ≤ r'.2.1 ∧ 0 ≤ v ∧ v < m := by
  unfold F_taken
  rw [if_pos ⟨h1, h2, h0⟩]
  refine ⟨(takeV r m).1, (takeV r m).2, rfl, ?_, ?_, ?_, ?_⟩ <;> (unfold takeV; split <;> try split) <;> first | rfl | exact Int.emod_nonneg _ (by omega) | exact Int.emod_lt_of_pos _ h1 | (dsimp only; omega)
theorem atI_nat {α : Type} (xs : List α) (k : Nat) : atI xs (k : Int) = xs[k]? := by
  unfold atI ixN
  by_cases h : k < xs.length
  · simp [h]
  · simp [h]
section
variable (ns : List Int) (a s h : Int)
abbrev rowT : T := .lst [.seq (ns.map .int), .int a, .int s, .int h]
theorem row_0 : aIx (rowT ns a s h) (.int 0) = some (.fz (.seq (ns.map .int))) := rfl
theorem row_1 : aIx (rowT ns a s h) (.int 1) = some (.fz (.int a)) := rfl
theorem row_2 : aIx (rowT ns a s h) (.int 2) = some (.fz (.int s)) := rfl
theorem row_3 : aIx (rowT ns a s h) (.int 3) = some (.fz (.int h)) := rfl
theorem rst_1 (x : Int) : stL (rowT ns a s h) (.int 1) (.int x) = some (rowT ns x s h) := rfl
theorem rst_2 (x : Int) : stL (rowT ns a s h) (.int 2) (.int x) = some (rowT ns a x h) := rfl
theorem rst_3 (x : Int) : stL (rowT ns a s h) (.int 3) (.int x) = some (rowT ns a s x) := rfl
end
theorem tmul_int (i : Int) : aMul (.int i) (.int 48271) = some (.fz (.int (i * 48271))) := if_pos (.inr (by decide))
theorem tInt_int (i : Int) : bInt [.int i] = some (.fz (.int i)) := rfl
theorem tmod_int {i j : Int} (h : 0 < j) : aMod (.int i) (.int j) = some (.fz (.int (i % j))) := if_pos h
theorem tdiv_int {i j : Int} (h : 0 < j) (h2 : j < 1000000) : aDiv (.int i) (.int j) = some (.fz (.int (i / j))) := if_pos ⟨h, by omega⟩
theorem tcGe_int (i j : Int) : cI (fun i j => decide (j ≤ i)) (.int i) (.int j) = some (decide (j ≤ i)) := rfl
theorem tadd_int (i j : Int) : aAdd (.int i) (.int j) = some (.fz (.int (i + j))) := rfl
theorem tsub_int (i j : Int) : aSub (.int i) (.int j) = some (.fz (.int (i - j))) := rfl
theorem tpow18 : aPow (.int 10) (.int 18) = some (.fz (.int 1000000000000000000)) := by
  show (if CPow 10 18 then some (Nv.fz (.int ((10 : Int) ^ (18 : Int).toNat))) else none) = _
  rw [if_pos ⟨by decide, by decide, by decide⟩]
  have : ((10 : Int) ^ (18 : Int).toNat) = 1000000000000000000 := by decide
  rw [this]
theorem tLen_seq (l : List T) : bLen [.seq l] = some (.fz (.int l.length)) := rfl
theorem tix_seq {w : List Int} {k : Nat} (h : k < w.length) : aIx (.seq (w.map T.int)) (.int k) = some (.fz (.int (w.getD k 0))) := by
  show (atI (w.map T.int) (k : Int)).map Nv.fz = _
  rw [atI_nat, List.getElem?_map, List.getElem?_eq_getElem h]
  simp [List.getD, h]
theorem mkM1 {N : Nat} {G : FX.Env → O} {t c : T} : mkM 1 N G t [c] = endM (G (.own (some 0) t :: .fz c :: List.replicate (N - 1 - 1) .un)) := rfl
theorem ty_taken (r : Row) (m : Int) : MF (mkM 1 4 gTaken) (eRow r) [T.int m] (F_taken r m) false (fun p => eRow p.1) (fun p => T.int p.2) := by
  obtain ⟨ns, a, s, h⟩ := r
  unfold F_taken
  by_cases hc : 0 < m ∧ m < 1000000 ∧ 0 ≤ a
  · rw [if_pos hc]
    obtain ⟨hm, hm2, ha⟩ := hc
    refine ⟨(fun z => nomatch z), .inr ?_⟩
    show mkM 1 4 gTaken (rowT ns a s h) [.int m] = _
    have es : List.replicate (4 - 1 - 1) Sl.un = [.un, .un] := rfl
    have gt : ∀ i j, cI (fun i j => decide (j < i)) (.int i) (.int j) = some (decide (j < i)) := fun i j => rfl
    have em : ∀ (r : T) (v : Int) (x y z : Sl), endM (.rt (.fz (.int v)) [.own (some 0) r, x, y, z]) = .ok r (.fz (.int v)) := fun r v x y z => rfl
    have m1 : ∀ i : Int, aMod (.int i) (.int 2147483647) = some (.fz (.int (i % 2147483647))) := fun i => tmod_int (by decide)
    have d1 : ∀ i : Int, aDiv (.int i) (.int 7) = some (.fz (.int (i / 7))) := fun i => tdiv_int (by decide) (by decide)
    unfold takeV
    dsimp only
    by_cases h1 : 0 < h
    · rw [if_pos h1]
      rw [mkM1, es]
      unfold gTaken
      simp only [Ev.bind_ok, Ev.bind_err, Ev.map_ok, Ev.map_err, Ev.norm_fz, Ev.norm_own, Ev.norm_bor, Ev.norm_err, Ev.of_fz, Ev.of_own, Ev.ofB_some, Ev.o_ok, Ev.o_err, Ev.after_nx, Ev.after_rt, Ev.after_er, Ev.look_fz, Ev.look_bor, Ev.looks_nil, Ev.looks_cons, Ev.look2_eq, Ev.esc1_fz, Ev.esc1_bor, Ev.escs_nil, Ev.escs_cons, Ev.ap_var, Ev.ap_c, Ev.ap_nil, Ev.ap_cons, Ev.ap_star, Ev.ap_cb, Ev.ap_bin, Ev.ap_cmp, Ev.gcm_eq, Ev.ap_tru, Ev.tru_bl, Ev.ap_and, Ev.ap_or, Ev.ap_not, Ev.ap_andv, Ev.ap_orv, Ev.ap_notv, Ev.ap_if, Ev.ap_esc, Ev.ap_tup, Ev.ap_lst, Ev.lim_eq, Ev.ap_call, Ev.r_fz, Ev.r_own, Ev.r_err, Ev.ap_v, Ev.ap_chain, Ev.ap_neg, Ev.ap_items, Ev.items_tup, Ev.items_lst, Ev.ap_yes, Ev.ap_lc, Ev.ap_dc, Ev.ap_rev, Ev.ap_dk, Ev.ap_dn, Ev.ap_none, Ev.ap_some, Ev.ap_cut, Ev.ap_enum, Ev.ap_zip, Ev.ap_range1, Ev.ap_range2, Ev.ap_callM, Ev.ownT_eq, Ev.ap_gd, Ev.ap_mut, Ev.isL_lst, Ev.app_eq, Ev.ap_seq, Ev.ap_gif, Ev.ap_set, Ev.put_fz, Ev.put_own, Ev.put_bor, Ev.ap_ret, Ev.ap_drop, Ev.ap_gnil, Ev.ap_raise, Ev.ap_for, Ev.ap_aug, Ev.ap_asg, Ev.ap_store, Ev.ap_bname, Ev.ap_bnil, Ev.ap_bcons, Ev.ap_btup, Ev.end_rt, Ev.end_own, Ev.end_nx, Ev.end_er, Ev.end_bor, Ev.vl_fz, Ev.vl_own, List.getElem?_cons_zero, List.getElem?_cons_succ, Option.bind_some, List.set_cons_zero, List.set_cons_succ, row_3, gt, h1, decide_true, if_true, tInt_int, tmod_int hm, tdiv_int hm hm2, rst_3, em]
      rfl
    · rw [if_neg h1]
      by_cases h2 : (ns.length : Int) < a + 1
      · rw [if_pos h2]
        rw [mkM1, es]
        unfold gTaken
        simp only [Ev.bind_ok, Ev.bind_err, Ev.map_ok, Ev.map_err, Ev.norm_fz, Ev.norm_own, Ev.norm_bor, Ev.norm_err, Ev.of_fz, Ev.of_own, Ev.ofB_some, Ev.o_ok, Ev.o_err, Ev.after_nx, Ev.after_rt, Ev.after_er, Ev.look_fz, Ev.look_bor, Ev.looks_nil, Ev.looks_cons, Ev.look2_eq, Ev.esc1_fz, Ev.esc1_bor, Ev.escs_nil, Ev.escs_cons, Ev.ap_var, Ev.ap_c, Ev.ap_nil, Ev.ap_cons, Ev.ap_star, Ev.ap_cb, Ev.ap_bin, Ev.ap_cmp, Ev.gcm_eq, Ev.ap_tru, Ev.tru_bl, Ev.ap_and, Ev.ap_or, Ev.ap_not, Ev.ap_andv, Ev.ap_orv, Ev.ap_notv, Ev.ap_if, Ev.ap_esc, Ev.ap_tup, Ev.ap_lst, Ev.lim_eq, Ev.ap_call, Ev.r_fz, Ev.r_own, Ev.r_err, Ev.ap_v, Ev.ap_chain, Ev.ap_neg, Ev.ap_items, Ev.items_tup, Ev.items_lst, Ev.ap_yes, Ev.ap_lc, Ev.ap_dc, Ev.ap_rev, Ev.ap_dk, Ev.ap_dn, Ev.ap_none, Ev.ap_some, Ev.ap_cut, Ev.ap_enum, Ev.ap_zip, Ev.ap_range1, Ev.ap_range2, Ev.ap_callM, Ev.ownT_eq, Ev.ap_gd, Ev.ap_mut, Ev.isL_lst, Ev.app_eq, Ev.ap_seq, Ev.ap_gif, Ev.ap_set, Ev.put_fz, Ev.put_own, Ev.put_bor, Ev.ap_ret, Ev.ap_drop, Ev.ap_gnil, Ev.ap_raise, Ev.ap_for, Ev.ap_aug, Ev.ap_asg, Ev.ap_store, Ev.ap_bname, Ev.ap_bnil, Ev.ap_bcons, Ev.ap_btup, Ev.end_rt, Ev.end_own, Ev.end_nx, Ev.end_er, Ev.end_bor, Ev.vl_fz, Ev.vl_own, List.getElem?_cons_zero, List.getElem?_cons_succ, Option.bind_some, List.set_cons_zero, List.set_cons_succ, row_0, row_1, row_2, row_3, gt, h1, h2, decide_true, decide_false, Bool.false_eq_true, if_false, if_true, tInt_int, m1, d1, tmod_int hm, rst_1, rst_2, em, tadd_int, tmul_int, tLen_seq, List.length_map]
        rfl
      · rw [if_neg h2]
        obtain ⟨k, rfl⟩ : ∃ k : Nat, a = k := ⟨a.toNat, by omega⟩
        have hk : k < ns.length := by omega
        have ik := tix_seq hk
        have c1 : ((k : Int) + 1) - 1 = (k : Int) := by omega
        rw [Int.toNat_natCast]
        generalize ns.getD k 0 = c at ik ⊢
        rw [mkM1, es]
        unfold gTaken
        by_cases h3 : 1000000000000000000 ≤ c
        · simp only [Ev.bind_ok, Ev.bind_err, Ev.map_ok, Ev.map_err, Ev.norm_fz, Ev.norm_own, Ev.norm_bor, Ev.norm_err, Ev.of_fz, Ev.of_own, Ev.ofB_some, Ev.o_ok, Ev.o_err, Ev.after_nx, Ev.after_rt, Ev.after_er, Ev.look_fz, Ev.look_bor, Ev.looks_nil, Ev.looks_cons, Ev.look2_eq, Ev.esc1_fz, Ev.esc1_bor, Ev.escs_nil, Ev.escs_cons, Ev.ap_var, Ev.ap_c, Ev.ap_nil, Ev.ap_cons, Ev.ap_star, Ev.ap_cb, Ev.ap_bin, Ev.ap_cmp, Ev.gcm_eq, Ev.ap_tru, Ev.tru_bl, Ev.ap_and, Ev.ap_or, Ev.ap_not, Ev.ap_andv, Ev.ap_orv, Ev.ap_notv, Ev.ap_if, Ev.ap_esc, Ev.ap_tup, Ev.ap_lst, Ev.lim_eq, Ev.ap_call, Ev.r_fz, Ev.r_own, Ev.r_err, Ev.ap_v, Ev.ap_chain, Ev.ap_neg, Ev.ap_items, Ev.items_tup, Ev.items_lst, Ev.ap_yes, Ev.ap_lc, Ev.ap_dc, Ev.ap_rev, Ev.ap_dk, Ev.ap_dn, Ev.ap_none, Ev.ap_some, Ev.ap_cut, Ev.ap_enum, Ev.ap_zip, Ev.ap_range1, Ev.ap_range2, Ev.ap_callM, Ev.ownT_eq, Ev.ap_gd, Ev.ap_mut, Ev.isL_lst, Ev.app_eq, Ev.ap_seq, Ev.ap_gif, Ev.ap_set, Ev.put_fz, Ev.put_own, Ev.put_bor, Ev.ap_ret, Ev.ap_drop, Ev.ap_gnil, Ev.ap_raise, Ev.ap_for, Ev.ap_aug, Ev.ap_asg, Ev.ap_store, Ev.ap_bname, Ev.ap_bnil, Ev.ap_bcons, Ev.ap_btup, Ev.end_rt, Ev.end_own, Ev.end_nx, Ev.end_er, Ev.end_bor, Ev.vl_fz, Ev.vl_own, List.getElem?_cons_zero, List.getElem?_cons_succ, Option.bind_some, List.set_cons_zero, List.set_cons_succ, row_0, row_1, row_2, row_3, gt, h1, h2, h3, decide_true, decide_false, Bool.false_eq_true, if_false, if_true, tInt_int, m1, tmod_int hm, tdiv_int hm hm2, rst_1, rst_2, rst_3, em, tadd_int, tsub_int, tmul_int, tLen_seq, List.length_map, c1, ik, tcGe_int, tpow18]
          rfl
        · simp only [Ev.bind_ok, Ev.bind_err, Ev.map_ok, Ev.map_err, Ev.norm_fz, Ev.norm_own, Ev.norm_bor, Ev.norm_err, Ev.of_fz, Ev.of_own, Ev.ofB_some, Ev.o_ok, Ev.o_err, Ev.after_nx, Ev.after_rt, Ev.after_er, Ev.look_fz, Ev.look_bor, Ev.looks_nil, Ev.looks_cons, Ev.look2_eq, Ev.esc1_fz, Ev.esc1_bor, Ev.escs_nil, Ev.escs_cons, Ev.ap_var, Ev.ap_c, Ev.ap_nil, Ev.ap_cons, Ev.ap_star, Ev.ap_cb, Ev.ap_bin, Ev.ap_cmp, Ev.gcm_eq, Ev.ap_tru, Ev.tru_bl, Ev.ap_and, Ev.ap_or, Ev.ap_not, Ev.ap_andv, Ev.ap_orv, Ev.ap_notv, Ev.ap_if, Ev.ap_esc, Ev.ap_tup, Ev.ap_lst, Ev.lim_eq, Ev.ap_call, Ev.r_fz, Ev.r_own, Ev.r_err, Ev.ap_v, Ev.ap_chain, Ev.ap_neg, Ev.ap_items, Ev.items_tup, Ev.items_lst, Ev.ap_yes, Ev.ap_lc, Ev.ap_dc, Ev.ap_rev, Ev.ap_dk, Ev.ap_dn, Ev.ap_none, Ev.ap_some, Ev.ap_cut, Ev.ap_enum, Ev.ap_zip, Ev.ap_range1, Ev.ap_range2, Ev.ap_callM, Ev.ownT_eq, Ev.ap_gd, Ev.ap_mut, Ev.isL_lst, Ev.app_eq, Ev.ap_seq, Ev.ap_gif, Ev.ap_set, Ev.put_fz, Ev.put_own, Ev.put_bor, Ev.ap_ret, Ev.ap_drop, Ev.ap_gnil, Ev.ap_raise, Ev.ap_for, Ev.ap_aug, Ev.ap_asg, Ev.ap_store, Ev.ap_bname, Ev.ap_bnil, Ev.ap_bcons, Ev.ap_btup, Ev.end_rt, Ev.end_own, Ev.end_nx, Ev.end_er, Ev.end_bor, Ev.vl_fz, Ev.vl_own, List.getElem?_cons_zero, List.getElem?_cons_succ, Option.bind_some, List.set_cons_zero, List.set_cons_succ, row_0, row_1, row_2, row_3, gt, h1, h2, h3, decide_true, decide_false, Bool.false_eq_true, if_false, if_true, tInt_int, m1, tmod_int hm, tdiv_int hm hm2, rst_1, rst_2, rst_3, em, tadd_int, tsub_int, tmul_int, tLen_seq, List.length_map, c1, ik, tcGe_int, tpow18]
          rfl
  · rw [if_neg hc]; exact True.intro
/-- from the law's run to what the end asks -/
theorem law_plain {N : Nat} {ns : List Int} {G : FX.Env → O} {r : Fl Unit Unit Bool} (h : SS (Zp false T.bl) (Sm.hold (.seq (ns.map T.int)) :: List.replicate (N - 1) Sm.any) G (fun _ _ => False) r) (hr : r = .rt true) : GoodEnd (G (startL N ns)) := by
  have E : EnvR (Sm.hold (.seq (ns.map T.int)) :: List.replicate (N - 1) Sm.any) (startL N ns) := .cons (.inl rfl) (by
    have := EnvR.start [] (N - 1)
    simpa using this)
  have h := h _ E
  subst hr
  generalize G (startL N ns) = x at h ⊢
  cases h with
  | @rt v ρ Γ o t b E V l =>
    obtain ⟨rfl, _⟩ := (show t = T.bl true ∧ (false = true → o = true) from l)
    cases o with
    | true => exact nomatch V.1
    | false =>
      rcases (show v = .fz (.bl true) ∨ (v = .own (.bl true) ∧ tob (.bl true) = true) ∨ ∃ i : Nat, v = .bor i ∧ (ρ[i]? = some (Sl.fz (.bl true)) ∨ (ρ[i]? = some (Sl.own none (.bl true)) ∧ tob (.bl true) = true)) from V) with z | ⟨_, z⟩ | ⟨i, z, z2 | ⟨_, z2⟩⟩
      · exact ⟨v, ρ, rfl, .inl z⟩
      · cases z
      · exact ⟨v, ρ, rfl, .inr ⟨i, z, z2⟩⟩
      · cases z2
  | nx E l => exact l.elim
end TY
end

section
set_option Elab.async false
set_option linter.all false
set_option maxRecDepth 100000
set_option maxHeartbeats 1000000
namespace TY
open PySem PySem.Spec PyProof.Rows L2 FX
/-! what has no fixed type: the mirror's own words -/
def optR {α : Type} : Option α → Res α
  | some a => .ok a
  | none => .no
def nvR : Option Nv → Res T
  | some (.fz t) => .ok t
  | _ => .no
section
variable {β : Type} [OutC β] {Γ : Ctx} {r : β}
theorem op_emb {α : Type} {L : α → β → Prop} {o : Option α} {K : α → β} (l : ∀ a, L a (K a)) : OpL o L (bnd (optR o) K) := by
  cases o with
  | none => exact .no
  | some a => exact .ok rfl (l a)
def embP (m : List T → Rp) (ts : List T) : Res T := match m ts with
  | .ok (.fz t) => .ok t
  | .err e => .er e
  | _ => .no
theorem t_emb (m : List T → Rp) (ts : List T) : PF m ts (embP m ts) false (fun t => t) := by
  unfold embP
  generalize h : m ts = x
  cases x with
  | ok v => cases v with
    | fz t => exact ⟨(fun z => nomatch z), .inr h⟩
    | own t => exact True.intro
  | err e => exact h
  | stuck => exact True.intro
def embB (m : List T → Rp) (ts : List T) : Res Bool := match m ts with
  | .ok (.fz (.bl b)) => .ok b
  | .err e => .er e
  | _ => .no
theorem t_embB (m : List T → Rp) (ts : List T) : PF m ts (embB m ts) false T.bl := by
  unfold embB
  split
  · rename_i h; exact ⟨(fun z => nomatch z), .inr h⟩
  · rename_i h; exact h
  · exact True.intro
/-! a def that asks and catches, asked for one call -/
def refR (tbl : List (Str × Str)) (w0 : Str) : Res Unit → Res (Str × T)
  | .ok _ => .ok (w0, .non)
  | .er e => match tbl.lookup e.cls with
    | some w1 => match e.fs with
      | [(f, t)] => if f = ("value" : Str) then .ok (w1, t) else .no
      | _ => .no
    | none => .no
  | .no => .no
def ref3 {σ' : Type} (tbl : List (Str × Str)) (w0 : Str) : Res (σ' × Res Unit) → Res (σ' × Str × T)
  | .ok (s, q) => match refR tbl w0 q with
    | .ok p => .ok (s, p)
    | _ => .no
  | _ => .no
def refV (tbl : List (Str × Str)) (w0 : Str) : R Vl → R Vl
  | .ok _ ρ1 => .ok (.fz (.tup [.str w0, .non])) ρ1
  | .err e ρ1 => match tbl.lookup e.cls with
    | some w1 => match e.fs with
      | [(f, t)] => if f = ("value" : Str) then .ok (.fz (.tup [.str w1, t])) ρ1 else .stuck
      | _ => .stuck
    | none => .stuck
  | .stuck => .stuck
theorem ref_eq (tbl : List (Str × Str)) (w0 : Str) (fb : FX.Env → R Vl) (ρ : FX.Env) : fRefM tbl w0 fb ρ = refV tbl w0 (fb ρ) := by
  unfold fRefM refV
  rfl
theorem x_ref {σ' : Type} {L : Ctx → Kd → T → β → Prop} {tbl : List (Str × Str)} {w0 : Str} {m : List T → Rp} {fa : FX.Env → R (List Vl)} {K : σ' × Str × T → β} (Γ' : σ' → Ctx) {qq : Res (σ' × Res Unit)} (h : XA Γ fa (fun Γ1 ts r1 => ∃ s, Γ1 = Γ' s ∧ ∃ (α : Type) (q : Res α) (o : Bool) (e : α → T), PF m ts q o e ∧ r1 = .ok (s, q.map fun _ => ())) qq)
    (hk : ∀ p, L (Γ' p.1) .e (.tup [.str p.2.1, p.2.2]) (K p)) : XE Γ (fRefM tbl w0 (fCall m fa)) L (bnd (ref3 tbl w0 qq) K) := fun ρ E => by
  have h := h ρ E
  rw [ref_eq, Ev.ap_call, Ev.ap_esc]
  generalize fa ρ = x at h ⊢
  cases h with
  | er => exact .no
  | no => exact .no
  | ok E1 M V l =>
    obtain ⟨s, rfl, α, q, o, e, pf, rfl⟩ := l
    obtain ⟨ρ2, e2, E2⟩ := V.escs E1
    rw [Ev.bind_ok, e2]
    show XO Γ L (refV tbl w0 ((m _).r ρ2)) _
    have good : ∀ (w : Str) (t : T), XO Γ L (.ok (.fz (.tup [.str w, t])) ρ2) (bnd (Res.ok (s, w, t)) K) := fun w t => by
      rw [bnd_ok]
      exact .ok (k := .e) E2 M (Or.inl rfl) (hk (s, w, t))
    cases q with
    | no => exact .no
    | ok a =>
      rcases pf.2 with h2 | h2
      · rw [h2.1]; exact good w0 .non
      · rw [h2]; exact good w0 .non
    | er x =>
      rw [show _ = Rp.err x from pf]
      obtain ⟨c, fs⟩ := x
      show XO Γ L (refV tbl w0 (.err ⟨c, fs⟩ ρ2)) (bnd (ref3 tbl w0 (.ok (s, .er ⟨c, fs⟩))) K)
      cases hl : tbl.lookup c with
      | none => simp only [refV, ref3, refR, hl]; exact .no
      | some w1 =>
        match fs with
        | [] => simp only [refV, ref3, refR, hl]; exact .no
        | [(f, t)] =>
          by_cases hf : f = ("value" : Str)
          · simp only [refV, ref3, refR, hl, if_pos hf]; exact good w1 t
          · simp only [refV, ref3, refR, hl, if_neg hf]; exact .no
        | _ :: _ :: _ => simp only [refV, ref3, refR, hl]; exact .no
end
/-! _law_alike on equal data -/
def alB : Nat → T → Bool
  | 0, _ => false
  | n + 1, t => match t with
    | .non => true
    | .bl _ => true
    | .int _ => true
    | .str _ => true
    | .tup ts => decide (ts.length ≤ 1000000) && ts.all (alB n)
    | .lst ts => decide (ts.length ≤ 1000000) && ts.all (alB n)
    | _ => false
end TY
end

section
set_option Elab.async false
set_option linter.all false
set_option maxRecDepth 100000
set_option maxHeartbeats 1000000
namespace TY
open PySem PySem.Spec PyProof.Rows L2 FX
theorem lcL_gen {α : Type} {vs : List Nat} {b : T → FX.Env → Option FX.Env} {ft : FX.Env → R Bool} {fe : FX.Env → R Vl} {ρ : FX.Env} (e : α → T) (p : α → Bool) (h : α → T) : ∀ (l : List α) (acc : List T), (∀ a ∈ l, ∃ ρ1, b (e a) (wipeE ρ vs) = some ρ1 ∧ ft ρ1 = .ok (p a) ρ1 ∧ (p a = true → (fe ρ1).norm = .ok (.fz (h a)) ρ1) ∧ backE ρ vs ρ1 = ρ) → acc.length + l.length ≤ 1000000 → lcL vs b ft fe (l.map e) acc ρ = .ok (acc ++ (l.filter p).map h) ρ
  | [], acc, _, _ => by simp [lcL]
  | t :: ts, acc, H, hl => by
    obtain ⟨ρ1, e1, e2, e3, e4⟩ := H t List.mem_cons_self
    have hl' : acc.length + (ts.length + 1) ≤ 1000000 := hl
    simp only [List.map_cons, lcL, e1, e2]
    cases hp : p t with
    | true =>
      have := lcL_gen e p h ts (acc ++ [h t]) (fun u hu => H u (List.mem_cons_of_mem _ hu)) (by rw [List.length_append]; simp; omega)
      simp only [e3 hp, esc1]
      rw [if_pos (by omega), e4, this]
      simp [hp]
    | false =>
      have := lcL_gen e p h ts acc (fun u hu => H u (List.mem_cons_of_mem _ hu)) (by omega)
      dsimp only
      rw [e4, this]
      simp [hp]

theorem tEq_int (i j : Int) : cEq (.int i) (.int j) = some (decide (i = j)) := cEq_dt dtI (by decide) i j
theorem tNe_int (i j : Int) : cNe (.int i) (.int j) = some (decide (i ≠ j)) := by simp [cNe, tEq_int]
theorem range1_of {f : FX.Env → R (List Vl)} {ρ : FX.Env} {n : Nat} (h : f ρ = .ok [.fz (.int (n : Int))] ρ) (ok : okR (n : Int) = true) : fRange1 f ρ = .ok ((List.range n).map fun i : Nat => T.int i) ρ := by
  have e : FX.rangeT 0 n = (List.range n).map fun i => T.int (i : Nat) := by unfold FX.rangeT; simp
  rw [Ev.ap_range1, h, Ev.bind_ok]
  dsimp only
  rw [if_pos ok, e]
theorem ok_small {n : Nat} (h : n ≤ 1000000) : okR (n : Int) = true := by
  unfold okR
  simp only [Bool.and_eq_true, decide_eq_true_eq]
  omega
theorem lc_of {vs : List Nat} {fi : FX.Env → R (List T)} {b : T → FX.Env → Option FX.Env} {ft : FX.Env → R Bool} {fe : FX.Env → R Vl} {ρ : FX.Env} {ts ys : List T} (h1 : fi ρ = .ok ts ρ) (h2 : lcL vs b ft fe ts [] ρ = .ok ys ρ) : fLc vs fi b ft fe ρ = .ok (.own (.lst ys)) ρ := by
  rw [Ev.ap_lc, h1, Ev.bind_ok, h2]; rfl
theorem mkP2 {N : Nat} {G : FX.Env → O} {c d : T} : mkP 2 N G [c, d] = endP (G (.fz c :: .fz d :: List.replicate (N - 2) .un)) := rfl
theorem alike_int (n : Nat) (i : Int) : mAlike (n + 1) [.int i, .int i] = .ok (.fz (.bl true)) := by
  have es : List.replicate (4 - 2) Sl.un = [.un, .un] := rfl
  have b1 : bIsi [.int i, .tup [.ty "tuple", .ty "list"]] = some (.fz (.bl false)) := rfl
  have b2 : bIsi [.int i, .ty "dict"] = some (.fz (.bl false)) := rfl
  have b3 : bIsi [.int i, .ty "str"] = some (.fz (.bl false)) := rfl
  have b4 : bIsi [.int i, .ty "int"] = some (.fz (.bl true)) := rfl
  have b5 : bIsi [.int i, .ty "bool"] = some (.fz (.bl false)) := rfl
  have n1 : cIsN (.int i) .non = some false := rfl
  have c1 : cEq (.bl false) (.bl false) = some true := rfl
  have c2 : cEq (.int i) (.int i) = some true := by rw [tEq_int]; simp
  show mkP 2 4 (gAlike (mAlike n)) [.int i, .int i] = _
  rw [mkP2, es]
  unfold gAlike
  simp only [Ev.bind_ok, Ev.bind_err, Ev.map_ok, Ev.map_err, Ev.norm_fz, Ev.norm_own, Ev.norm_bor, Ev.norm_err, Ev.of_fz, Ev.of_own, Ev.ofB_some, Ev.o_ok, Ev.o_err, Ev.after_nx, Ev.after_rt, Ev.after_er, Ev.look_fz, Ev.look_bor, Ev.looks_nil, Ev.looks_cons, Ev.look2_eq, Ev.esc1_fz, Ev.esc1_bor, Ev.escs_nil, Ev.escs_cons, Ev.ap_var, Ev.ap_c, Ev.ap_nil, Ev.ap_cons, Ev.ap_star, Ev.ap_cb, Ev.ap_bin, Ev.ap_cmp, Ev.gcm_eq, Ev.ap_tru, Ev.tru_bl, Ev.ap_and, Ev.ap_or, Ev.ap_not, Ev.ap_andv, Ev.ap_orv, Ev.ap_notv, Ev.ap_if, Ev.ap_esc, Ev.ap_tup, Ev.ap_lst, Ev.lim_eq, Ev.ap_call, Ev.r_fz, Ev.r_own, Ev.r_err, Ev.ap_v, Ev.ap_chain, Ev.ap_neg, Ev.ap_items, Ev.items_tup, Ev.items_lst, Ev.ap_yes, Ev.ap_lc, Ev.ap_dc, Ev.ap_rev, Ev.ap_dk, Ev.ap_dn, Ev.ap_none, Ev.ap_some, Ev.ap_cut, Ev.ap_enum, Ev.ap_zip, Ev.ap_range1, Ev.ap_range2, Ev.ap_callM, Ev.ownT_eq, Ev.ap_gd, Ev.ap_mut, Ev.isL_lst, Ev.app_eq, Ev.ap_seq, Ev.ap_gif, Ev.ap_set, Ev.put_fz, Ev.put_own, Ev.put_bor, Ev.ap_ret, Ev.ap_drop, Ev.ap_gnil, Ev.ap_raise, Ev.ap_for, Ev.ap_aug, Ev.ap_asg, Ev.ap_store, Ev.ap_bname, Ev.ap_bnil, Ev.ap_bcons, Ev.ap_btup, Ev.end_rt, Ev.end_own, Ev.end_nx, Ev.end_er, Ev.end_bor, Ev.vl_fz, Ev.vl_own, List.getElem?_cons_zero, List.getElem?_cons_succ, Option.bind_some, List.length_cons, List.length_nil, Nat.reduceAdd, Nat.reduceLeDiff, if_true, if_false, Bool.false_eq_true, b1, b2, b3, b4, b5, n1, c1, c2, Option.map_some]
theorem alike_non (n : Nat) : mAlike (n + 1) [.non, .non] = .ok (.fz (.bl true)) := rfl
theorem alike_bl (n : Nat) (b : Bool) : mAlike (n + 1) [.bl b, .bl b] = .ok (.fz (.bl true)) := by cases b <;> rfl
theorem alike_tup (n : Nat) (ts : List T) (hl : ts.length ≤ 1000000) (h : ∀ t ∈ ts, mAlike n [t, t] = .ok (.fz (.bl true))) : mAlike (n + 1) [.tup ts, .tup ts] = .ok (.fz (.bl true)) := by
  have es : List.replicate (4 - 2) Sl.un = [.un, .un] := rfl
  have b1 : bIsi [.tup ts, .tup [.ty "tuple", .ty "list"]] = some (.fz (.bl true)) := rfl
  have b2 : bIsi [.tup ts, .ty "list"] = some (.fz (.bl false)) := rfl
  have l1 : bLen [.tup ts] = some (.fz (.int ts.length)) := rfl
  have c1 : cNe (.bl false) (.bl false) = some false := rfl
  have c2 : cNe (.int (ts.length : Int)) (.int (ts.length : Int)) = some false := by rw [tNe_int]; simp
  have c3 : cEq (.lst []) (.lst []) = some true := rfl
  have er := range1_of (f := fACons (fCB bLen (fACons (fVar 1) fANil)) fANil) (ρ := [.fz (.tup ts), .fz (.tup ts), .un, .un]) (n := ts.length) (by simp only [Ev.bind_ok, Ev.bind_err, Ev.map_ok, Ev.map_err, Ev.norm_fz, Ev.norm_own, Ev.norm_bor, Ev.norm_err, Ev.of_fz, Ev.of_own, Ev.ofB_some, Ev.o_ok, Ev.o_err, Ev.after_nx, Ev.after_rt, Ev.after_er, Ev.look_fz, Ev.look_bor, Ev.looks_nil, Ev.looks_cons, Ev.look2_eq, Ev.esc1_fz, Ev.esc1_bor, Ev.escs_nil, Ev.escs_cons, Ev.ap_var, Ev.ap_c, Ev.ap_nil, Ev.ap_cons, Ev.ap_star, Ev.ap_cb, Ev.ap_bin, Ev.ap_cmp, Ev.gcm_eq, Ev.ap_tru, Ev.tru_bl, Ev.ap_and, Ev.ap_or, Ev.ap_not, Ev.ap_andv, Ev.ap_orv, Ev.ap_notv, Ev.ap_if, Ev.ap_esc, Ev.ap_tup, Ev.ap_lst, Ev.lim_eq, Ev.ap_call, Ev.r_fz, Ev.r_own, Ev.r_err, Ev.ap_v, Ev.ap_chain, Ev.ap_neg, Ev.ap_items, Ev.items_tup, Ev.items_lst, Ev.ap_yes, Ev.ap_lc, Ev.ap_dc, Ev.ap_rev, Ev.ap_dk, Ev.ap_dn, Ev.ap_none, Ev.ap_some, Ev.ap_cut, Ev.ap_enum, Ev.ap_zip, Ev.ap_range1, Ev.ap_range2, Ev.ap_callM, Ev.ownT_eq, Ev.ap_gd, Ev.ap_mut, Ev.isL_lst, Ev.app_eq, Ev.ap_seq, Ev.ap_gif, Ev.ap_set, Ev.put_fz, Ev.put_own, Ev.put_bor, Ev.ap_ret, Ev.ap_drop, Ev.ap_gnil, Ev.ap_raise, Ev.ap_for, Ev.ap_aug, Ev.ap_asg, Ev.ap_store, Ev.ap_bname, Ev.ap_bnil, Ev.ap_bcons, Ev.ap_btup, Ev.end_rt, Ev.end_own, Ev.end_nx, Ev.end_er, Ev.end_bor, Ev.vl_fz, Ev.vl_own, List.getElem?_cons_zero, List.getElem?_cons_succ, Option.bind_some, l1]) (ok_small hl)
  have e1 := lcL_gen (vs := [2]) (b := bName 2) (ft := fNot (fTru (fCall (mAlike n) (fACons (fBin aIx (fVar 0) (fVar 2)) (fACons (fBin aIx (fVar 1) (fVar 2)) fANil))))) (fe := fVar 2) (ρ := [.fz (.tup ts), .fz (.tup ts), .un, .un]) (fun i : Nat => T.int i) (fun _ => false) (fun i : Nat => T.int i) (List.range ts.length) [] (fun i hi => by
    have hi := List.mem_range.mp hi
    refine ⟨[.fz (.tup ts), .fz (.tup ts), .fz (.int i), .un], rfl, ?_, fun z => (by cases z), rfl⟩
    have ix : aIx (.tup ts) (.int (i : Int)) = some (.fz ts[i]) := by
      show (atI ts (i : Int)).map Nv.fz = _
      rw [TY.atI_nat, List.getElem?_eq_getElem hi]; rfl
    have hr := h ts[i] (List.getElem_mem hi)
    simp only [Ev.bind_ok, Ev.bind_err, Ev.map_ok, Ev.map_err, Ev.norm_fz, Ev.norm_own, Ev.norm_bor, Ev.norm_err, Ev.of_fz, Ev.of_own, Ev.ofB_some, Ev.o_ok, Ev.o_err, Ev.after_nx, Ev.after_rt, Ev.after_er, Ev.look_fz, Ev.look_bor, Ev.looks_nil, Ev.looks_cons, Ev.look2_eq, Ev.esc1_fz, Ev.esc1_bor, Ev.escs_nil, Ev.escs_cons, Ev.ap_var, Ev.ap_c, Ev.ap_nil, Ev.ap_cons, Ev.ap_star, Ev.ap_cb, Ev.ap_bin, Ev.ap_cmp, Ev.gcm_eq, Ev.ap_tru, Ev.tru_bl, Ev.ap_and, Ev.ap_or, Ev.ap_not, Ev.ap_andv, Ev.ap_orv, Ev.ap_notv, Ev.ap_if, Ev.ap_esc, Ev.ap_tup, Ev.ap_lst, Ev.lim_eq, Ev.ap_call, Ev.r_fz, Ev.r_own, Ev.r_err, Ev.ap_v, Ev.ap_chain, Ev.ap_neg, Ev.ap_items, Ev.items_tup, Ev.items_lst, Ev.ap_yes, Ev.ap_lc, Ev.ap_dc, Ev.ap_rev, Ev.ap_dk, Ev.ap_dn, Ev.ap_none, Ev.ap_some, Ev.ap_cut, Ev.ap_enum, Ev.ap_zip, Ev.ap_range1, Ev.ap_range2, Ev.ap_callM, Ev.ownT_eq, Ev.ap_gd, Ev.ap_mut, Ev.isL_lst, Ev.app_eq, Ev.ap_seq, Ev.ap_gif, Ev.ap_set, Ev.put_fz, Ev.put_own, Ev.put_bor, Ev.ap_ret, Ev.ap_drop, Ev.ap_gnil, Ev.ap_raise, Ev.ap_for, Ev.ap_aug, Ev.ap_asg, Ev.ap_store, Ev.ap_bname, Ev.ap_bnil, Ev.ap_bcons, Ev.ap_btup, Ev.end_rt, Ev.end_own, Ev.end_nx, Ev.end_er, Ev.end_bor, Ev.vl_fz, Ev.vl_own, List.getElem?_cons_zero, List.getElem?_cons_succ, Option.bind_some, ix, hr, Bool.not_true]) (by simp only [List.length_nil, List.length_range]; omega)
  have e2 : (List.range ts.length).filter (fun _ => false) = [] := by simp
  rw [e2, List.nil_append, List.map_nil] at e1
  have e3 := lc_of er e1
  show mkP 2 4 (gAlike (mAlike n)) [.tup ts, .tup ts] = _
  rw [mkP2, es]
  unfold gAlike
  simp only [Ev.ap_seq, Ev.ap_gif, Ev.ap_tru, Ev.ap_cb, Ev.ap_cons, Ev.ap_nil, Ev.ap_var, List.getElem?_cons_zero, List.getElem?_cons_succ, Ev.norm_fz, Ev.bind_ok, Ev.ap_tup, Ev.ap_esc, Ev.ap_c, Ev.escs_cons, Ev.escs_nil, Ev.esc1_fz, Ev.lim_eq, List.length_cons, List.length_nil, Nat.reduceAdd, Nat.reduceLeDiff, if_true, Ev.of_fz, Ev.looks_cons, Ev.looks_nil, Ev.look_fz, Option.bind_some, b1, b2, l1, Ev.tru_bl, Ev.ofB_some, Ev.ap_or, Ev.ap_not, Ev.map_ok, Bool.not_true, Bool.false_eq_true, if_false, Ev.ap_cmp, Ev.look2_eq, c1, c2, Ev.o_ok, Ev.ap_gnil, Ev.after_nx, Ev.ap_ret, Ev.ap_bin, e3, Ev.norm_own, Ev.ap_lst, Ev.of_own, Nat.zero_le, Ev.gcm_eq, c3, Option.map_some, Ev.after_rt, Ev.end_rt]

theorem alike_lst (n : Nat) (ts : List T) (hl : ts.length ≤ 1000000) (h : ∀ t ∈ ts, mAlike n [t, t] = .ok (.fz (.bl true))) : mAlike (n + 1) [.lst ts, .lst ts] = .ok (.fz (.bl true)) := by
  have es : List.replicate (4 - 2) Sl.un = [.un, .un] := rfl
  have b1 : bIsi [.lst ts, .tup [.ty "tuple", .ty "list"]] = some (.fz (.bl true)) := rfl
  have b2 : bIsi [.lst ts, .ty "list"] = some (.fz (.bl true)) := rfl
  have l1 : bLen [.lst ts] = some (.fz (.int ts.length)) := rfl
  have c1 : cNe (.bl true) (.bl true) = some false := rfl
  have c2 : cNe (.int (ts.length : Int)) (.int (ts.length : Int)) = some false := by rw [tNe_int]; simp
  have c3 : cEq (.lst []) (.lst []) = some true := rfl
  have er := range1_of (f := fACons (fCB bLen (fACons (fVar 1) fANil)) fANil) (ρ := [.fz (.lst ts), .fz (.lst ts), .un, .un]) (n := ts.length) (by simp only [Ev.bind_ok, Ev.bind_err, Ev.map_ok, Ev.map_err, Ev.norm_fz, Ev.norm_own, Ev.norm_bor, Ev.norm_err, Ev.of_fz, Ev.of_own, Ev.ofB_some, Ev.o_ok, Ev.o_err, Ev.after_nx, Ev.after_rt, Ev.after_er, Ev.look_fz, Ev.look_bor, Ev.looks_nil, Ev.looks_cons, Ev.look2_eq, Ev.esc1_fz, Ev.esc1_bor, Ev.escs_nil, Ev.escs_cons, Ev.ap_var, Ev.ap_c, Ev.ap_nil, Ev.ap_cons, Ev.ap_star, Ev.ap_cb, Ev.ap_bin, Ev.ap_cmp, Ev.gcm_eq, Ev.ap_tru, Ev.tru_bl, Ev.ap_and, Ev.ap_or, Ev.ap_not, Ev.ap_andv, Ev.ap_orv, Ev.ap_notv, Ev.ap_if, Ev.ap_esc, Ev.ap_tup, Ev.ap_lst, Ev.lim_eq, Ev.ap_call, Ev.r_fz, Ev.r_own, Ev.r_err, Ev.ap_v, Ev.ap_chain, Ev.ap_neg, Ev.ap_items, Ev.items_tup, Ev.items_lst, Ev.ap_yes, Ev.ap_lc, Ev.ap_dc, Ev.ap_rev, Ev.ap_dk, Ev.ap_dn, Ev.ap_none, Ev.ap_some, Ev.ap_cut, Ev.ap_enum, Ev.ap_zip, Ev.ap_range1, Ev.ap_range2, Ev.ap_callM, Ev.ownT_eq, Ev.ap_gd, Ev.ap_mut, Ev.isL_lst, Ev.app_eq, Ev.ap_seq, Ev.ap_gif, Ev.ap_set, Ev.put_fz, Ev.put_own, Ev.put_bor, Ev.ap_ret, Ev.ap_drop, Ev.ap_gnil, Ev.ap_raise, Ev.ap_for, Ev.ap_aug, Ev.ap_asg, Ev.ap_store, Ev.ap_bname, Ev.ap_bnil, Ev.ap_bcons, Ev.ap_btup, Ev.end_rt, Ev.end_own, Ev.end_nx, Ev.end_er, Ev.end_bor, Ev.vl_fz, Ev.vl_own, List.getElem?_cons_zero, List.getElem?_cons_succ, Option.bind_some, l1]) (ok_small hl)
  have e1 := lcL_gen (vs := [2]) (b := bName 2) (ft := fNot (fTru (fCall (mAlike n) (fACons (fBin aIx (fVar 0) (fVar 2)) (fACons (fBin aIx (fVar 1) (fVar 2)) fANil))))) (fe := fVar 2) (ρ := [.fz (.lst ts), .fz (.lst ts), .un, .un]) (fun i : Nat => T.int i) (fun _ => false) (fun i : Nat => T.int i) (List.range ts.length) [] (fun i hi => by
    have hi := List.mem_range.mp hi
    refine ⟨[.fz (.lst ts), .fz (.lst ts), .fz (.int i), .un], rfl, ?_, fun z => (by cases z), rfl⟩
    have ix : aIx (.lst ts) (.int (i : Int)) = some (.fz ts[i]) := by
      show (atI ts (i : Int)).map Nv.fz = _
      rw [TY.atI_nat, List.getElem?_eq_getElem hi]; rfl
    have hr := h ts[i] (List.getElem_mem hi)
    simp only [Ev.bind_ok, Ev.bind_err, Ev.map_ok, Ev.map_err, Ev.norm_fz, Ev.norm_own, Ev.norm_bor, Ev.norm_err, Ev.of_fz, Ev.of_own, Ev.ofB_some, Ev.o_ok, Ev.o_err, Ev.after_nx, Ev.after_rt, Ev.after_er, Ev.look_fz, Ev.look_bor, Ev.looks_nil, Ev.looks_cons, Ev.look2_eq, Ev.esc1_fz, Ev.esc1_bor, Ev.escs_nil, Ev.escs_cons, Ev.ap_var, Ev.ap_c, Ev.ap_nil, Ev.ap_cons, Ev.ap_star, Ev.ap_cb, Ev.ap_bin, Ev.ap_cmp, Ev.gcm_eq, Ev.ap_tru, Ev.tru_bl, Ev.ap_and, Ev.ap_or, Ev.ap_not, Ev.ap_andv, Ev.ap_orv, Ev.ap_notv, Ev.ap_if, Ev.ap_esc, Ev.ap_tup, Ev.ap_lst, Ev.lim_eq, Ev.ap_call, Ev.r_fz, Ev.r_own, Ev.r_err, Ev.ap_v, Ev.ap_chain, Ev.ap_neg, Ev.ap_items, Ev.items_tup, Ev.items_lst, Ev.ap_yes, Ev.ap_lc, Ev.ap_dc, Ev.ap_rev, Ev.ap_dk, Ev.ap_dn, Ev.ap_none, Ev.ap_some, Ev.ap_cut, Ev.ap_enum, Ev.ap_zip, Ev.ap_range1, Ev.ap_range2, Ev.ap_callM, Ev.ownT_eq, Ev.ap_gd, Ev.ap_mut, Ev.isL_lst, Ev.app_eq, Ev.ap_seq, Ev.ap_gif, Ev.ap_set, Ev.put_fz, Ev.put_own, Ev.put_bor, Ev.ap_ret, Ev.ap_drop, Ev.ap_gnil, Ev.ap_raise, Ev.ap_for, Ev.ap_aug, Ev.ap_asg, Ev.ap_store, Ev.ap_bname, Ev.ap_bnil, Ev.ap_bcons, Ev.ap_btup, Ev.end_rt, Ev.end_own, Ev.end_nx, Ev.end_er, Ev.end_bor, Ev.vl_fz, Ev.vl_own, List.getElem?_cons_zero, List.getElem?_cons_succ, Option.bind_some, ix, hr, Bool.not_true]) (by simp only [List.length_nil, List.length_range]; omega)
  have e2 : (List.range ts.length).filter (fun _ => false) = [] := by simp
  rw [e2, List.nil_append, List.map_nil] at e1
  have e3 := lc_of er e1
  show mkP 2 4 (gAlike (mAlike n)) [.lst ts, .lst ts] = _
  rw [mkP2, es]
  unfold gAlike
  simp only [Ev.ap_seq, Ev.ap_gif, Ev.ap_tru, Ev.ap_cb, Ev.ap_cons, Ev.ap_nil, Ev.ap_var, List.getElem?_cons_zero, List.getElem?_cons_succ, Ev.norm_fz, Ev.bind_ok, Ev.ap_tup, Ev.ap_esc, Ev.ap_c, Ev.escs_cons, Ev.escs_nil, Ev.esc1_fz, Ev.lim_eq, List.length_cons, List.length_nil, Nat.reduceAdd, Nat.reduceLeDiff, if_true, Ev.of_fz, Ev.looks_cons, Ev.looks_nil, Ev.look_fz, Option.bind_some, b1, b2, l1, Ev.tru_bl, Ev.ofB_some, Ev.ap_or, Ev.ap_not, Ev.map_ok, Bool.not_true, Bool.false_eq_true, if_false, Ev.ap_cmp, Ev.look2_eq, c1, c2, Ev.o_ok, Ev.ap_gnil, Ev.after_nx, Ev.ap_ret, Ev.ap_bin, e3, Ev.norm_own, Ev.ap_lst, Ev.of_own, Nat.zero_le, Ev.gcm_eq, c3, Option.map_some, Ev.after_rt, Ev.end_rt]

/-- without texts -/
def alC : Nat → T → Bool
  | 0, _ => false
  | n + 1, t => match t with
    | .non => true
    | .bl _ => true
    | .int _ => true
    | .tup ts => decide (ts.length ≤ 1000000) && ts.all (alC n)
    | .lst ts => decide (ts.length ≤ 1000000) && ts.all (alC n)
    | _ => false
theorem alike_ok : ∀ (n : Nat) (t : T), alC n t = true → mAlike n [t, t] = .ok (.fz (.bl true))
  | 0, _, h => by cases h
  | n + 1, t, h => by
    cases t with
    | non => exact alike_non n
    | bl b => exact alike_bl n b
    | int i => exact alike_int n i
    | tup ts =>
      simp only [alC, Bool.and_eq_true, decide_eq_true_eq, List.all_eq_true] at h
      exact alike_tup n ts h.1 fun t ht => alike_ok n t (h.2 t ht)
    | lst ts =>
      simp only [alC, Bool.and_eq_true, decide_eq_true_eq, List.all_eq_true] at h
      exact alike_lst n ts h.1 fun t ht => alike_ok n t (h.2 t ht)
    | _ => cases h
end TY
end

section
set_option Elab.async false
set_option linter.all false
set_option maxRecDepth 100000
set_option maxHeartbeats 1000000
namespace TY
open PySem PySem.Spec PyProof.Rows L2 FX
abbrev eSQ {α : Type} (e : α → T) : List α → T := fun l => .seq (l.map e)
def nvO : Option Nv → Res T
  | some (.own t) => if tob t = true then .ok t else .no
  | _ => .no
section
variable {β : Type} [OutC β] {Γ : Ctx} {r : β}
theorem op_embN {L : Ctx → Kd → T → β → Prop} {o : Option Nv} {K : T → β} (l : ∀ t, L Γ .e t (K t)) : OpN o Γ L (bnd (nvR o) K) := by
  unfold nvR
  split
  · exact .ok rfl (l _)
  · exact .no
theorem op_embO {L : Ctx → Kd → T → β → Prop} {o : Option Nv} {K : T → β} (l : ∀ t, L Γ .o t (K t)) : OpN o Γ L (bnd (nvO o) K) := by
  unfold nvO
  split
  · split
    · rename_i h; exact .ok rfl ⟨h, l _⟩
    · exact .no
  · exact .no
theorem x_opt {α : Type} {L : Ctx → Kd → T → β → Prop} {f : FX.Env → R Vl} (e : α → T) (h : XE Γ f (fun Γ1 k t r1 => ∃ (o : Option α) (K : α → β), t = eO e o ∧ r1 = bnd (optR o) K ∧ ∀ a, L Γ1 k (e a) (K a)) r) : XE Γ f L r := fun ρ E => by
  have h := h ρ E
  generalize f ρ = x at h ⊢
  cases h with
  | er => exact .er
  | no => exact .no
  | ok E1 M V l =>
    obtain ⟨o, K, rfl, rfl, l⟩ := l
    cases o with
    | none => exact .no
    | some a => exact .ok E1 M V (l a)
end
def F_pick {α : Type} (r : Row) (xs : List α) : Res (Row × α) := bnd (F_taken r (xs.length : Int)) fun p => bnd (ixR xs p.2) fun x => .ok (p.1, x)
def F_pick_ {α : Type} (r : Row) (xs : List α) : Fl Unit Unit (Row × α) := bndN (F_taken r (xs.length : Int)) fun p => bnd (ixR xs p.2) fun x => .rt (p.1, x)
theorem ty_pick {α : Type} {e : α → T} (r : Row) (xs : List α) : MF (mkM 1 2 gPick) (eRow r) [.lst (xs.map e)] (F_pick_ r xs).res false (fun p => eRow p.1) (fun p => e p.2) := mf_def rfl (by
  unfold gPick F_pick_
  exact s_ret (x_bin (x_var rfl ⟨trivial, x_callM 0 rfl (a_cons (x_cb (b_cons (x_var rfl (b_nil ⟨rfl, op_len_l ⟨trivial, a_nil ⟨_, rfl, .mk (ty_taken r _) fun p => (op_ix_l fun v => ⟨_, false, rfl, Or.inr ⟨rfl, rfl⟩, rfl, rfl, (fun h => nomatch h)⟩)⟩⟩⟩)))))⟩)))
theorem s_no {τ σ β : Type} {Z : Zx σ β} {Γ : Ctx} {L : Ctx → Fl τ σ β → Prop} {g : FX.Env → O} : SS Z Γ g L .no := fun ρ E => .no
end TY
end

section
set_option Elab.async false
set_option linter.all false
set_option maxRecDepth 100000
/-! TY: stepping through a typed law -/
namespace TY
open PySem L2 FX
section
variable {α τ τ' σ β : Type}
theorem nxt {r : Res α} {a : α} {k : α → Fl τ σ β} {v : Fl τ σ β} (h : r = .ok a) (h2 : k a = v) : bnd r k = v := by rw [h]; exact h2
theorem nxtR {r : Res α} {a : α} {k : α → Res β} {v : Res β} (h : r = .ok a) (h2 : k a = v) : bnd r k = v := by rw [h]; exact h2
theorem nxtN {r : Res α} {a : α} {k : α → Fl τ σ β} {v : Fl τ σ β} (h : r = .ok a) (h2 : k a = v) : bndN r k = v := by rw [h]; exact h2
theorem nxtNR {r : Res α} {a : α} {k : α → Res β} {v : Res β} (h : r = .ok a) (h2 : k a = v) : bndN r k = v := by rw [h]; exact h2
theorem nxtF {r : Fl τ σ β} {s : τ} {k : τ → Fl τ' σ β} {v : Fl τ' σ β} (h : r = .nx s) (h2 : k s = v) : r.fb k = v := by rw [h]; exact h2
theorem goOn {c : Bool} {t e v : α} (h : c = false) (h2 : e = v) : (if c = true then t else e) = v := by rw [h]; exact h2
theorem goIn {c : Bool} {t e v : α} (h : c = true) (h2 : t = v) : (if c = true then t else e) = v := by rw [h]; exact h2
end
theorem pick_val {α : Type} {r : Row} {xs : List α} (h0 : 0 ≤ r.2.1) (hx : 0 < xs.length) (hl : xs.length < 1000000) : ∃ r' x, (F_pick_ r xs).res = .ok (r', x) ∧ r'.1 = r.1 ∧ 0 ≤ r'.2.1 ∧ x ∈ xs := by
  obtain ⟨r', v, e, e1, g, p, q⟩ := taken_val (m := (xs.length : Int)) h0 (by omega) (by omega)
  have hv : v.toNat < xs.length := by omega
  refine ⟨r', xs[v.toNat], ?_, e1, g, List.getElem_mem hv⟩
  unfold F_pick_
  rw [e, bndN_ok]
  have : ixR xs v = .ok xs[v.toNat] := by
    have ev : v = (v.toNat : Int) := by omega
    have e5 : atI xs v = some xs[v.toNat] := by
      have := atI_nat xs v.toNat
      rw [← ev] at this
      rw [this, List.getElem?_eq_getElem hv]
    unfold ixR
    rw [e5]
  show Fl.res (bnd (ixR xs v) _) = _
  rw [this]
  rfl
theorem cNe_str {s : Str} (h0 : PyData.strOk s = true) : optR (cNe (.str s) (.str s)) = .ok false := by
  have : cEq (.str s) (.str s) = some true := by
    unfold cEq
    show (if SeqAt.shaped (PyData.str s) = true ∧ SeqAt.shaped (PyData.str s) = true then some (PyData.eqv (.str s) (.str s)) else none) = _
    have h : SeqAt.shaped (PyData.str s) = true := by simp [SeqAt.shaped, PyData.canLay0, PyData.depth, h0]
    rw [if_pos ⟨h, h⟩]
    simp [PyData.eqv]
  unfold cNe
  rw [this]
  rfl
end TY
end

section
set_option Elab.async false
set_option linter.all false
set_option maxRecDepth 100000
set_option maxHeartbeats 4000000
namespace K22
open PySem PySem.Spec PyProof.Rows L2 FX
def nW : Nat := 1000000
def top (i : Nat) : Stmt := PySem.Challenge.pw_layerstand_k22_whole_beds.main.body.getD i (.Pass ⟨0, 0, 0, 0⟩)
structure TX (mg : Str → Option Value) : Prop where
  b_all : mg "all" = none
  b_bool : mg "bool" = none
  b_dict : mg "dict" = none
  b_enumerate : mg "enumerate" = none
  b_int : mg "int" = none
  b_isinstance : mg "isinstance" = none
  b_len : mg "len" = none
  b_list : mg "list" = none
  b_max : mg "max" = none
  b_range : mg "range" = none
  b_repr : mg "repr" = none
  b_sorted : mg "sorted" = none
  b_str : mg "str" = none
  b_tuple : mg "tuple" = none
  c_MOST_BED : ∃ tk, mg "MOST_BED" = some (.int 100000 tk)
  c_MOST_SIZE : ∃ tk, mg "MOST_SIZE" = some (.int 10000 tk)
  c_MOST_SIZES : ∃ tk, mg "MOST_SIZES" = some (.int 5 tk)
section
variable {P : Program} {w : World} {K : PySem.W.Frag} {mg : Str → Option Value} {base : Heap}
abbrev s_is_integer : Stmt := top 1
theorem sc_is_integer : FnScope ["thing"] ["thing"] (defScope s_is_integer) := ⟨rfl, rfl, rfl, by decide +kernel, rfl, by decide +kernel, by decide +kernel⟩
def g_is_integer : FX.Env → O :=
  (gRet (fAndV (fCB bIsi (fACons (fVar 0) (fACons (fC (.ty "int")) fANil))) (fNotV (fCB bIsi (fACons (fVar 0) (fACons (fC (.ty "bool")) fANil))))))
def m_is_integer : List T → Rp := mkP 1 1 g_is_integer
theorem ok_is_integer (T : TX mg) (F : Fn0 K mg "is_integer" s_is_integer ["thing"])  : Cal P w K mg base "is_integer" ["thing"] 1 (spP K mg m_is_integer) :=
  cal_p F sc_is_integer fun f cdv A outer s H E au ht hr =>
  (rss_one (rs_ret (re_and (re_callB call_isiA ca_isi T.b_isinstance (by rfl) (ra_cons (re_var 0) (ra_cons (re_ty T.b_int (by rfl)) ra_nil))) (re_one (re_not (re_callB call_isiA ca_isi T.b_isinstance (by rfl) (ra_cons (re_var 0) (ra_cons (re_ty T.b_bool (by rfl)) ra_nil))))))))

abbrev s_is_within : Stmt := top 2
theorem sc_is_within : FnScope ["thing", "least", "most"] ["thing", "least", "most"] (defScope s_is_within) := ⟨rfl, rfl, rfl, by decide +kernel, rfl, by decide +kernel, by decide +kernel⟩
def g_is_within : FX.Env → O :=
  (gRet (fAndV (fCall m_is_integer (fACons (fVar 0) fANil)) (fV (fChain (cI fun i j => decide (i ≤ j)) (cI fun i j => decide (i ≤ j)) (fVar 1) (fVar 0) (fVar 2)))))
def m_is_within : List T → Rp := mkP 3 3 g_is_within
theorem ok_is_within (T : TX mg) (F : Fn0 K mg "is_within" s_is_within ["thing", "least", "most"]) (c_is_integer : Cal P w K mg base "is_integer" ["thing"] 1 (spP K mg m_is_integer)) : Cal P w K mg base "is_within" ["thing", "least", "most"] 2 (spP K mg m_is_within) :=
  cal_p F sc_is_within fun f cdv A outer s H E au ht hr =>
  (rss_one (rs_ret (re_and (re_callC c_is_integer (takes_of rfl rfl rfl rfl) (hr.mono (by first | decide | omega | (simp only [Nat.add_eq]; omega))) (ra_cons (re_var 0) ra_nil)) (re_one (re_chain op_le (c2_I _) op_le (c2_I _) (re_var 1) (re_var 0) (re_var 2))))))

abbrev s_is_row : Stmt := top 3
theorem sc_is_row : FnScope ["thing"] ["thing"] (defScope s_is_row) := ⟨rfl, rfl, rfl, by decide +kernel, rfl, by decide +kernel, by decide +kernel⟩
def g_is_row : FX.Env → O :=
  (gRet (fCB bIsi (fACons (fVar 0) (fACons (fTup (fACons (fC (.ty "list")) (fACons (fC (.ty "tuple")) fANil))) fANil))))
def m_is_row : List T → Rp := mkP 1 1 g_is_row
theorem ok_is_row (T : TX mg) (F : Fn0 K mg "is_row" s_is_row ["thing"])  : Cal P w K mg base "is_row" ["thing"] 1 (spP K mg m_is_row) :=
  cal_p F sc_is_row fun f cdv A outer s H E au ht hr =>
  (rss_one (rs_ret (re_callB call_isiA ca_isi T.b_isinstance (by rfl) (ra_cons (re_var 0) (ra_cons (re_tup (ra_cons (re_ty T.b_list (by rfl)) (ra_cons (re_ty T.b_tuple (by rfl)) ra_nil))) ra_nil)))))

abbrev s_is_tuple_of : Stmt := top 4
theorem sc_is_tuple_of : FnScope ["thing", "many"] ["thing", "many"] (defScope s_is_tuple_of) := ⟨rfl, rfl, rfl, by decide +kernel, rfl, by decide +kernel, by decide +kernel⟩
def g_is_tuple_of : FX.Env → O :=
  (gRet (fAndV (fCB bIsi (fACons (fVar 0) (fACons (fC (.ty "tuple")) fANil))) (fBin (gCm cEq) (fCB bLen (fACons (fVar 0) fANil)) (fVar 1))))
def m_is_tuple_of : List T → Rp := mkP 2 2 g_is_tuple_of
theorem ok_is_tuple_of (T : TX mg) (F : Fn0 K mg "is_tuple_of" s_is_tuple_of ["thing", "many"])  : Cal P w K mg base "is_tuple_of" ["thing", "many"] 1 (spP K mg m_is_tuple_of) :=
  cal_p F sc_is_tuple_of fun f cdv A outer s H E au ht hr =>
  (rss_one (rs_ret (re_and (re_callB call_isiA ca_isi T.b_isinstance (by rfl) (ra_cons (re_var 0) (ra_cons (re_ty T.b_tuple (by rfl)) ra_nil))) (re_one (re_cmp (op_eqD hr.units) c2_eq (re_callB call_lenA ca_len T.b_len (by rfl) (ra_cons (re_var 0) ra_nil)) (re_var 1) (nomark _))))))

abbrev s_check_sizes : Stmt := top 13
theorem sc_check_sizes : FnScope ["sizes", "index", "size", "one"] ["sizes"] (defScope s_check_sizes) := ⟨rfl, rfl, rfl, by decide +kernel, rfl, by decide +kernel, by decide +kernel⟩
def g_check_sizes : FX.Env → O :=
  (gSeq (gIf (fOr (fNot (fTru (fCall m_is_row (fACons (fVar 0) fANil)))) (fNot (fChain (cI fun i j => decide (i ≤ j)) (cI fun i j => decide (i ≤ j)) (fC (.int 1)) (fCB bLen (fACons (fVar 0) fANil)) (fC (.int 5))))) (gRaise "BadSizes" (fACons (fNeg (fC (.int 1))) fANil)) gNil)
  (gFor (fEnum (fACons (fVar 0) fANil)) (bTup 2 (bCons (bName 1) (bCons (bName 2) bNil))) (gIf (fOr (fNot (fTru (fCall m_is_tuple_of (fACons (fVar 2) (fACons (fC (.int 2)) fANil))))) (fNot (fTru (fCB bAll (fACons (fLc [3] (fItems (fVar 2)) (bName 3) fYes (fCall m_is_within (fACons (fVar 3) (fACons (fC (.int 1)) (fACons (fC (.int 10000)) fANil))))) fANil))))) (gRaise "BadSizes" (fACons (fVar 1) fANil)) gNil)))
def m_check_sizes : List T → Rp := mkP 1 4 g_check_sizes
theorem ok_check_sizes (T : TX mg) (F : Fn0 K mg "check_sizes" s_check_sizes ["sizes"]) (c_is_row : Cal P w K mg base "is_row" ["thing"] 1 (spP K mg m_is_row)) (X_BadSizes : Exc1 P w K mg base "BadSizes") (c_is_tuple_of : Cal P w K mg base "is_tuple_of" ["thing", "many"] 1 (spP K mg m_is_tuple_of)) (c_is_within : Cal P w K mg base "is_within" ["thing", "least", "most"] 2 (spP K mg m_is_within)) : Cal P w K mg base "check_sizes" ["sizes"] 3 (spP K mg m_check_sizes) :=
  cal_p F sc_check_sizes fun f cdv A outer s H E au ht hr =>
  (rss_cons (rs_if (RW.rt (rw_or (rt_not (rt_tru (re_callC c_is_row (takes_of rfl rfl rfl rfl) (hr.mono (by first | decide | omega | (simp only [Nat.add_eq]; omega))) (ra_cons (re_var 0) ra_nil)))) (rw_or1 (rt_not (rt_chain op_le (c2_I _) op_le (c2_I _) re_int (re_callB call_lenA ca_len T.b_len (by rfl) (ra_cons (re_var 0) ra_nil)) (re_globI T.c_MOST_SIZES.choose_spec)))))) (rss_one (rs_raiseC X_BadSizes (takes_of rfl rfl rfl rfl) (hr.mono (by first | decide | omega | (simp only [Nat.add_eq]; omega))) (ra_cons (re_neg re_int) ra_nil))) rss_nil)
  (rss_one (rs_for (ri_enum T.b_enumerate (ra_cons (re_var 0) ra_nil)) (rg_tup (rgs_cons (rg_name 1 sc_check_sizes.nd) (rgs_cons (rg_name 2 sc_check_sizes.nd) rgs_nil))) (rss_one (rs_if (RW.rt (rw_or (rt_not (rt_tru (re_callC c_is_tuple_of (takes_of rfl rfl rfl rfl) (hr.mono (by first | decide | omega | (simp only [Nat.add_eq]; omega))) (ra_cons (re_var 2) (ra_cons re_int ra_nil))))) (rw_or1 (rt_not (rt_tru (re_callB (cr_all rfl) ca_all T.b_all (by rfl) (ra_cons (re_lc sc_check_sizes.nd (ri_seq (re_var 2)) (own := [("one", 3)]) (by show BlkOk ["sizes", "index", "size", "one"] (defScope s_check_sizes) _ [("one", 3)]; exact ⟨rfl, by decide +kernel, by decide +kernel, by decide +kernel, by decide +kernel⟩) (by decide) (fun s H C cl fp => (rg_name 3 sc_check_sizes.nd)) (fun s H C cl fp => rts_nil) (fun s H C cl fp => (re_callC c_is_within (LamX.takes0) (hr.mono (by first | decide | omega | (simp only [Nat.add_eq]; omega))) (ra_cons (re_var 3) (ra_cons re_int (ra_cons (re_globI T.c_MOST_SIZE.choose_spec) ra_nil)))))) ra_nil))))))) (rss_one (rs_raiseC X_BadSizes (takes_of rfl rfl rfl rfl) (hr.mono (by first | decide | omega | (simp only [Nat.add_eq]; omega))) (ra_cons (re_var 1) ra_nil))) rss_nil)) (passes_of rfl))))

abbrev s_check_number : Stmt := top 14
theorem sc_check_number : FnScope ["number"] ["number"] (defScope s_check_number) := ⟨rfl, rfl, rfl, by decide +kernel, rfl, by decide +kernel, by decide +kernel⟩
def g_check_number : FX.Env → O :=
  (gIf (fNot (fTru (fCall m_is_within (fACons (fVar 0) (fACons (fC (.int 1)) (fACons (fC (.int 100000)) fANil)))))) (gRaise "BadNumber" (fACons (fVar 0) fANil)) gNil)
def m_check_number : List T → Rp := mkP 1 1 g_check_number
theorem ok_check_number (T : TX mg) (F : Fn0 K mg "check_number" s_check_number ["number"]) (c_is_within : Cal P w K mg base "is_within" ["thing", "least", "most"] 2 (spP K mg m_is_within)) (X_BadNumber : Exc1 P w K mg base "BadNumber") : Cal P w K mg base "check_number" ["number"] 3 (spP K mg m_check_number) :=
  cal_p F sc_check_number fun f cdv A outer s H E au ht hr =>
  (rss_one (rs_if (rt_not (rt_tru (re_callC c_is_within (takes_of rfl rfl rfl rfl) (hr.mono (by first | decide | omega | (simp only [Nat.add_eq]; omega))) (ra_cons (re_var 0) (ra_cons re_int (ra_cons (re_globI T.c_MOST_BED.choose_spec) ra_nil)))))) (rss_one (rs_raiseC X_BadNumber (takes_of rfl rfl rfl rfl) (hr.mono (by first | decide | omega | (simp only [Nat.add_eq]; omega))) (ra_cons (re_var 0) ra_nil))) rss_nil))

abbrev s_all_sums : Stmt := top 15
theorem sc_all_sums : FnScope ["numbers", "found", "number", "one"] ["numbers"] (defScope s_all_sums) := ⟨rfl, rfl, rfl, by decide +kernel, rfl, by decide +kernel, by decide +kernel⟩
def g_all_sums : FX.Env → O :=
  (gSeq (gSet 1 (fD1 0 true))
  (gSeq (gFor (fItems (fVar 0)) (bName 2) (gFor (fItems (fCB bListA (fACons (fVar 1) fANil))) (bName 3) (gStore stD 1 (fC (.bl true)) (fBin aAdd (fVar 3) (fVar 2)))))
  (gRet (fCB bSortedA (fACons (fVar 1) fANil)))))
def m_all_sums : List T → Rp := mkP 1 4 g_all_sums
theorem ok_all_sums (T : TX mg) (F : Fn0 K mg "all_sums" s_all_sums ["numbers"])  : Cal P w K mg base "all_sums" ["numbers"] 1 (spP K mg m_all_sums) :=
  cal_p F sc_all_sums fun f cdv A outer s H E au ht hr =>
  (rss_cons (rs_set 1 sc_all_sums.nd (re_d1 pe_int pe_bl))
  (rss_cons (rs_for (ri_seq (re_var 0)) (rg_name 2 sc_all_sums.nd) (rss_one (rs_for (ri_seq (re_callTy (call_listA rfl) ca_listA T.b_list (by rfl) (ra_cons (re_var 1) ra_nil))) (rg_name 3 sc_all_sums.nd) (rss_one (rs_storeD 1 hr re_bl (re_add (re_var 3) (re_var 2)))) (passes_of rfl))) (passes_of rfl))
  (rss_one (rs_ret (re_callB (cr_sortedA hr rfl) ca_sortedA T.b_sorted (by rfl) (ra_cons (re_var 1) ra_nil))))))

abbrev s_are_apart : Stmt := top 16
theorem sc_are_apart : FnScope ["corner", "size", "other", "other_size"] ["corner", "size", "other", "other_size"] (defScope s_are_apart) := ⟨rfl, rfl, rfl, by decide +kernel, rfl, by decide +kernel, by decide +kernel⟩
def g_are_apart : FX.Env → O :=
  (gSeq (gIf (fOr (fCmpT (cI fun i j => decide (i ≤ j)) (fBin aAdd (fBin aIx (fVar 0) (fC (.int 0))) (fBin aIx (fVar 1) (fC (.int 0)))) (fBin aIx (fVar 2) (fC (.int 0)))) (fCmpT (cI fun i j => decide (i ≤ j)) (fBin aAdd (fBin aIx (fVar 2) (fC (.int 0))) (fBin aIx (fVar 3) (fC (.int 0)))) (fBin aIx (fVar 0) (fC (.int 0))))) (gRet (fC (.bl true))) gNil)
  (gRet (fOrV (fBin (gCm (cI fun i j => decide (i ≤ j))) (fBin aAdd (fBin aIx (fVar 0) (fC (.int 1))) (fBin aIx (fVar 1) (fC (.int 1)))) (fBin aIx (fVar 2) (fC (.int 1)))) (fBin (gCm (cI fun i j => decide (i ≤ j))) (fBin aAdd (fBin aIx (fVar 2) (fC (.int 1))) (fBin aIx (fVar 3) (fC (.int 1)))) (fBin aIx (fVar 0) (fC (.int 1)))))))
def m_are_apart : List T → Rp := mkP 4 4 g_are_apart
theorem ok_are_apart (T : TX mg) (F : Fn0 K mg "are_apart" s_are_apart ["corner", "size", "other", "other_size"])  : Cal P w K mg base "are_apart" ["corner", "size", "other", "other_size"] 1 (spP K mg m_are_apart) :=
  cal_p F sc_are_apart fun f cdv A outer s H E au ht hr =>
  (rss_cons (rs_if (RW.rt (rw_or (rt_cmp op_le (c2_I _) (re_add (re_ix hr (re_var 0) re_int) (re_ix hr (re_var 1) re_int)) (re_ix hr (re_var 2) re_int) (nomark _)) (rw_or1 (rt_cmp op_le (c2_I _) (re_add (re_ix hr (re_var 2) re_int) (re_ix hr (re_var 3) re_int)) (re_ix hr (re_var 0) re_int) (nomark _))))) (rss_one (rs_ret re_bl)) rss_nil)
  (rss_one (rs_ret (re_or (re_cmp op_le (c2_I _) (re_add (re_ix hr (re_var 0) re_int) (re_ix hr (re_var 1) re_int)) (re_ix hr (re_var 2) re_int) (nomark _)) (re_one (re_cmp op_le (c2_I _) (re_add (re_ix hr (re_var 2) re_int) (re_ix hr (re_var 3) re_int)) (re_ix hr (re_var 0) re_int) (nomark _)))))))

abbrev s_Bed____init__ : Stmt := inClass (top 17) 0
theorem sc_Bed____init__ : FnScope ["self", "sizes", "columns", "rows", "x", "size", "y"] ["self", "sizes", "columns", "rows"] (defScope s_Bed____init__) := ⟨rfl, rfl, rfl, by decide +kernel, rfl, by decide +kernel, by decide +kernel⟩
def g_Bed____init__ : FX.Env → O :=
  (gSeq (gSetF "Bed" "sizes" 0 (fVar 1))
  (gSeq (gExt "Bed" "corners" 0 (fItems (fCall m_all_sums (fACons (fLc [5] (fItems (fVar 1)) (bName 5) fYes (fBin aIx (fVar 5) (fC (.int 0)))) fANil))) (bName 4) (fACons (fLc [6] (fItems (fCall m_all_sums (fACons (fLc [5] (fItems (fVar 1)) (bName 5) fYes (fBin aIx (fVar 5) (fC (.int 1)))) fANil))) (bName 6) fYes (fTup (fACons (fVar 4) (fACons (fVar 6) fANil)))) fANil))
  (gSeq (gSetF "Bed" "columns" 0 (fVar 2))
  (gSetF "Bed" "rows" 0 (fVar 3)))))
def m_Bed____init__ : T → List T → RpM := mkM 3 7 g_Bed____init__
theorem ok_Bed____init__ {dts : List T} (T : TX mg) (F : Mk0 P w K mg base "Bed" "Bed.__init__" s_Bed____init__ ["self", "sizes", "columns", "rows"] ["self", "sizes", "columns", "rows", "x", "size", "y"] dts) (D_Bed_sizes : FldC K mg "Bed" "sizes") (D_Bed_corners : FldC K mg "Bed" "corners") (c_all_sums : Cal P w K mg base "all_sums" ["numbers"] 1 (spP K mg m_all_sums)) (D_Bed_columns : FldC K mg "Bed" "columns") (D_Bed_rows : FldC K mg "Bed" "rows") : MkC P w K mg base "Bed" ["self", "sizes", "columns", "rows"] 2 m_Bed____init__ dts :=
  mk_m (n := 3) F rfl fun f cdv A outer s H E au ht hr =>
  (rss_cons (rs_setF 0 D_Bed_sizes (re_var 1))
  (rss_ext (i := 0) D_Bed_corners (ri_seq (re_callC c_all_sums (takes_of rfl rfl rfl rfl) (hr.mono (by first | decide | omega | (simp only [Nat.add_eq]; omega))) (ra_cons (re_lc sc_Bed____init__.nd (ri_seq (re_var 1)) (own := [("size", 5)]) (by show BlkOk ["self", "sizes", "columns", "rows", "x", "size", "y"] (defScope s_Bed____init__) _ [("size", 5)]; exact ⟨rfl, by decide +kernel, by decide +kernel, by decide +kernel, by decide +kernel⟩) (by decide) (fun s H C cl fp => (rg_name 5 sc_Bed____init__.nd)) (fun s H C cl fp => rts_nil) (fun s H C cl fp => (re_ix hr (re_var 5) re_int))) ra_nil))) (rg_name 4 sc_Bed____init__.nd) (re_lc sc_Bed____init__.nd (ri_seq (re_callC c_all_sums (takes_of rfl rfl rfl rfl) (hr.mono (by first | decide | omega | (simp only [Nat.add_eq]; omega))) (ra_cons (re_lc sc_Bed____init__.nd (ri_seq (re_var 1)) (own := [("size", 5)]) (by show BlkOk ["self", "sizes", "columns", "rows", "x", "size", "y"] (defScope s_Bed____init__) _ [("size", 5)]; exact ⟨rfl, by decide +kernel, by decide +kernel, by decide +kernel, by decide +kernel⟩) (by decide) (fun s H C cl fp => (rg_name 5 sc_Bed____init__.nd)) (fun s H C cl fp => rts_nil) (fun s H C cl fp => (re_ix hr (re_var 5) re_int))) ra_nil))) (own := [("y", 6)]) (by show BlkOk ["self", "sizes", "columns", "rows", "x", "size", "y"] (defScope s_Bed____init__) _ [("y", 6)]; exact ⟨rfl, by decide +kernel, by decide +kernel, by decide +kernel, by decide +kernel⟩) (by decide) (fun s H C cl fp => (rg_name 6 sc_Bed____init__.nd)) (fun s H C cl fp => rts_nil) (fun s H C cl fp => (re_tup (ra_cons (re_var 4) (ra_cons (re_var 6) ra_nil))))) (rss_cons (rs_setF 0 D_Bed_columns (re_var 2))
  (rss_one (rs_setF 0 D_Bed_rows (re_var 3)))) (passes_of rfl)))

abbrev s_Bed__can_lie : Stmt := inClass (top 17) 1
theorem sc_Bed__can_lie : FnScope ["self", "found", "corner", "size", "place", "other"] ["self", "found", "corner"] (defScope s_Bed__can_lie) := ⟨rfl, rfl, rfl, by decide +kernel, rfl, by decide +kernel, by decide +kernel⟩
def g_Bed__can_lie : FX.Env → O :=
  (gSeq (gSet 3 (fBin aIx (fAttr "Bed" "sizes" (fVar 0)) (fCB bLen (fACons (fVar 1) fANil))))
  (gSeq (gIf (fOr (fCmpT (cI fun i j => decide (j < i)) (fBin aAdd (fBin aIx (fVar 2) (fC (.int 0))) (fBin aIx (fVar 3) (fC (.int 0)))) (fAttr "Bed" "columns" (fVar 0))) (fCmpT (cI fun i j => decide (j < i)) (fBin aAdd (fBin aIx (fVar 2) (fC (.int 1))) (fBin aIx (fVar 3) (fC (.int 1)))) (fAttr "Bed" "rows" (fVar 0)))) (gRet (fC (.bl false))) gNil)
  (gRet (fCB bAll (fACons (fLc [4, 5] (fEnum (fACons (fVar 1) fANil)) (bTup 2 (bCons (bName 4) (bCons (bName 5) bNil))) fYes (fCall m_are_apart (fACons (fVar 2) (fACons (fVar 3) (fACons (fVar 5) (fACons (fBin aIx (fAttr "Bed" "sizes" (fVar 0)) (fVar 4)) fANil)))))) fANil)))))
def m_Bed__can_lie : List T → Rp := mkP 3 6 g_Bed__can_lie
theorem ok_Bed__can_lie (T : TX mg) (F : Mt0 K mg "Bed" "can_lie" "Bed.can_lie" s_Bed__can_lie ["self", "found", "corner"]) (D_Bed_sizes : FldC K mg "Bed" "sizes") (D_Bed_columns : FldC K mg "Bed" "columns") (D_Bed_rows : FldC K mg "Bed" "rows") (c_are_apart : Cal P w K mg base "are_apart" ["corner", "size", "other", "other_size"] 1 (spP K mg m_are_apart)) : MtC P w K mg base "Bed" "can_lie" ["self", "found", "corner"] 2 m_Bed__can_lie :=
  mt_p F sc_Bed__can_lie fun f cdv A outer s H E au ht hr =>
  (rss_cons (rs_set 3 sc_Bed__can_lie.nd (re_ix hr (re_attrC D_Bed_sizes (re_var 0)) (re_callB call_lenA ca_len T.b_len (by rfl) (ra_cons (re_var 1) ra_nil))))
  (rss_cons (rs_if (RW.rt (rw_or (rt_cmp op_gt (c2_I _) (re_add (re_ix hr (re_var 2) re_int) (re_ix hr (re_var 3) re_int)) (re_attrC D_Bed_columns (re_var 0)) (nomark _)) (rw_or1 (rt_cmp op_gt (c2_I _) (re_add (re_ix hr (re_var 2) re_int) (re_ix hr (re_var 3) re_int)) (re_attrC D_Bed_rows (re_var 0)) (nomark _))))) (rss_one (rs_ret re_bl)) rss_nil)
  (rss_one (rs_ret (re_callB (cr_all rfl) ca_all T.b_all (by rfl) (ra_cons (re_lc sc_Bed__can_lie.nd (ri_enum T.b_enumerate (ra_cons (re_var 1) ra_nil)) (own := [("place", 4), ("other", 5)]) (by show BlkOk ["self", "found", "corner", "size", "place", "other"] (defScope s_Bed__can_lie) _ [("place", 4), ("other", 5)]; exact ⟨rfl, by decide +kernel, by decide +kernel, by decide +kernel, by decide +kernel⟩) (by decide) (fun s H C cl fp => (rg_tup (rgs_cons (rg_name 4 sc_Bed__can_lie.nd) (rgs_cons (rg_name 5 sc_Bed__can_lie.nd) rgs_nil)))) (fun s H C cl fp => rts_nil) (fun s H C cl fp => (re_callC c_are_apart (LamX.takes0) (hr.mono (by first | decide | omega | (simp only [Nat.add_eq]; omega))) (ra_cons (re_var 2) (ra_cons (re_var 3) (ra_cons (re_var 5) (ra_cons (re_ix hr (re_attrC D_Bed_sizes (re_var 0)) (re_var 4)) ra_nil))))))) ra_nil))))))

abbrev s_Bed__filled : Stmt := inClass (top 17) 2
theorem sc_Bed__filled : FnScope ["self", "found", "corner", "whole"] ["self", "found"] (defScope s_Bed__filled) := ⟨rfl, rfl, rfl, by decide +kernel, rfl, by decide +kernel, by decide +kernel⟩
def g_Bed__filled (rec : List T → Rp) : FX.Env → O :=
  (gSeq (gIf (fCmpT cEq (fCB bLen (fACons (fVar 1) fANil)) (fCB bLen (fACons (fAttr "Bed" "sizes" (fVar 0)) fANil))) (gRet (fVar 1)) gNil)
  (gSeq (gFor (fItems (fAttr "Bed" "corners" (fVar 0))) (bName 2) (gIf (fTru (fMeth "Bed" "can_lie" m_Bed__can_lie (fVar 0) (fACons (fVar 1) (fACons (fVar 2) fANil)))) (gSeq (gSet 3 (fMeth "Bed" "filled" rec (fVar 0) (fACons (fTup (fAStar (fVar 1) (fACons (fVar 2) fANil))) fANil)))
  (gIf (fCmpT cNotN (fVar 3) (fC .non)) (gRet (fVar 3)) gNil)) gNil))
  (gRet (fC .non))))
def m_Bed__filled : Nat → List T → Rp
  | 0 => mkP 2 4 fun _ => .stuck
  | n + 1 => mkP 2 4 (g_Bed__filled (m_Bed__filled n))
theorem ok_Bed__filled (T : TX mg) (F : Mt0 K mg "Bed" "filled" "Bed.filled" s_Bed__filled ["self", "found"]) (D_Bed_sizes : FldC K mg "Bed" "sizes") (D_Bed_corners : FldC K mg "Bed" "corners") (M_Bed__can_lie : MtC P w K mg base "Bed" "can_lie" ["self", "found", "corner"] 2 m_Bed__can_lie) : ∀ n, MtC P w K mg base "Bed" "filled" ["self", "found"] (3 + n) (m_Bed__filled n)
  | 0 => mt_p F sc_Bed__filled fun f cdv A outer s H E au ht hr => rss_no
  | n + 1 => by
    have M_rec := ok_Bed__filled T F D_Bed_sizes D_Bed_corners M_Bed__can_lie n
    exact mt_p F sc_Bed__filled fun f cdv A outer s H E au ht hr =>
  (rss_cons (rs_if (rt_cmp (op_eqD hr.units) c2_eq (re_callB call_lenA ca_len T.b_len (by rfl) (ra_cons (re_var 1) ra_nil)) (re_callB call_lenA ca_len T.b_len (by rfl) (ra_cons (re_attrC D_Bed_sizes (re_var 0)) ra_nil)) (nomark _)) (rss_one (rs_ret (re_var 1))) rss_nil)
  (rss_cons (rs_for (ri_seq (re_attrC D_Bed_corners (re_var 0))) (rg_name 2 sc_Bed__filled.nd) (rss_one (rs_if (rt_tru (re_meth M_Bed__can_lie (takes_of rfl rfl rfl rfl) (hr.mono (by first | decide | omega | (simp only [Nat.add_eq]; omega))) (re_var 0) (ra_cons (re_var 1) (ra_cons (re_var 2) ra_nil)))) (rss_cons (rs_set 3 sc_Bed__filled.nd (re_meth M_rec (takes_of rfl rfl rfl rfl) hr (re_var 0) (ra_cons (re_tup (ra_star (re_var 1) (ra_cons (re_var 2) ra_nil))) ra_nil)))
  (rss_one (rs_if (rt_cmp op_notN c2_notN (re_var 3) re_non (nomark _)) (rss_one (rs_ret (re_var 3))) rss_nil))) rss_nil)) (passes_of rfl))
  (rss_one (rs_ret re_non))))

abbrev s_on_bed : Stmt := top 18
theorem sc_on_bed : FnScope ["sizes", "columns", "rows"] ["sizes", "columns", "rows"] (defScope s_on_bed) := ⟨rfl, rfl, rfl, by decide +kernel, rfl, by decide +kernel, by decide +kernel⟩
def g_on_bed : FX.Env → O :=
  (gSeq (gDrop (fCall m_check_sizes (fACons (fVar 0) fANil)))
  (gSeq (gDrop (fCall m_check_number (fACons (fVar 1) fANil)))
  (gSeq (gDrop (fCall m_check_number (fACons (fVar 2) fANil)))
  (gRet (fMeth "Bed" "filled" (m_Bed__filled 6) (fMake "Bed" m_Bed____init__ [] (fACons (fVar 0) (fACons (fVar 1) (fACons (fVar 2) fANil)))) (fACons (fTup fANil) fANil))))))
def m_on_bed : List T → Rp := mkP 3 3 g_on_bed
theorem ok_on_bed (T : TX mg) (F : Fn0 K mg "on_bed" s_on_bed ["sizes", "columns", "rows"]) (c_check_sizes : Cal P w K mg base "check_sizes" ["sizes"] 3 (spP K mg m_check_sizes)) (c_check_number : Cal P w K mg base "check_number" ["number"] 3 (spP K mg m_check_number)) (K_Bed____init__ : MkC P w K mg base "Bed" ["self", "sizes", "columns", "rows"] 2 m_Bed____init__ []) (M_Bed__filled : MtC P w K mg base "Bed" "filled" ["self", "found"] 9 (m_Bed__filled 6)) : Cal P w K mg base "on_bed" ["sizes", "columns", "rows"] 10 (spP K mg m_on_bed) :=
  cal_p F sc_on_bed fun f cdv A outer s H E au ht hr =>
  (rss_cons (rs_expr (re_callC c_check_sizes (takes_of rfl rfl rfl rfl) (hr.mono (by first | decide | omega | (simp only [Nat.add_eq]; omega))) (ra_cons (re_var 0) ra_nil)))
  (rss_cons (rs_expr (re_callC c_check_number (takes_of rfl rfl rfl rfl) (hr.mono (by first | decide | omega | (simp only [Nat.add_eq]; omega))) (ra_cons (re_var 1) ra_nil)))
  (rss_cons (rs_expr (re_callC c_check_number (takes_of rfl rfl rfl rfl) (hr.mono (by first | decide | omega | (simp only [Nat.add_eq]; omega))) (ra_cons (re_var 2) ra_nil)))
  (rss_one (rs_ret (re_meth M_Bed__filled (takes_of rfl rfl rfl rfl) (hr.mono (by first | decide | omega | (simp only [Nat.add_eq]; omega))) (re_make K_Bed____init__ (takes_of rfl rfl rfl rfl) (hr.mono (by first | decide | omega | (simp only [Nat.add_eq]; omega))) (ra_cons (re_var 0) (ra_cons (re_var 1) (ra_cons (re_var 2) ra_nil)))) (ra_cons (re_tup ra_nil) ra_nil)))))))

abbrev s_least_rows : Stmt := top 19
theorem sc_least_rows : FnScope ["sizes", "columns", "size", "rows"] ["sizes", "columns"] (defScope s_least_rows) := ⟨rfl, rfl, rfl, by decide +kernel, rfl, by decide +kernel, by decide +kernel⟩
def g_least_rows : FX.Env → O :=
  (gSeq (gDrop (fCall m_check_sizes (fACons (fVar 0) fANil)))
  (gSeq (gDrop (fCall m_check_number (fACons (fVar 1) fANil)))
  (gSeq (gIf (fCmpT (cI fun i j => decide (j < i)) (fCB bMax (fACons (fLc [2] (fItems (fVar 0)) (bName 2) fYes (fBin aIx (fVar 2) (fC (.int 0)))) fANil)) (fVar 1)) (gRet (fC .non)) gNil)
  (gSeq (gFor (fItems (fCall m_all_sums (fACons (fLc [2] (fItems (fVar 0)) (bName 2) fYes (fBin aIx (fVar 2) (fC (.int 1)))) fANil))) (bName 3) (gIf (fCmpT cNotN (fMeth "Bed" "filled" (m_Bed__filled 6) (fMake "Bed" m_Bed____init__ [] (fACons (fVar 0) (fACons (fVar 1) (fACons (fVar 3) fANil)))) (fACons (fTup fANil) fANil)) (fC .non)) (gRet (fVar 3)) gNil))
  (gRet (fC .non))))))
def m_least_rows : List T → Rp := mkP 2 4 g_least_rows
theorem ok_least_rows (T : TX mg) (F : Fn0 K mg "least_rows" s_least_rows ["sizes", "columns"]) (c_check_sizes : Cal P w K mg base "check_sizes" ["sizes"] 3 (spP K mg m_check_sizes)) (c_check_number : Cal P w K mg base "check_number" ["number"] 3 (spP K mg m_check_number)) (c_all_sums : Cal P w K mg base "all_sums" ["numbers"] 1 (spP K mg m_all_sums)) (K_Bed____init__ : MkC P w K mg base "Bed" ["self", "sizes", "columns", "rows"] 2 m_Bed____init__ []) (M_Bed__filled : MtC P w K mg base "Bed" "filled" ["self", "found"] 9 (m_Bed__filled 6)) : Cal P w K mg base "least_rows" ["sizes", "columns"] 10 (spP K mg m_least_rows) :=
  cal_p F sc_least_rows fun f cdv A outer s H E au ht hr =>
  (rss_cons (rs_expr (re_callC c_check_sizes (takes_of rfl rfl rfl rfl) (hr.mono (by first | decide | omega | (simp only [Nat.add_eq]; omega))) (ra_cons (re_var 0) ra_nil)))
  (rss_cons (rs_expr (re_callC c_check_number (takes_of rfl rfl rfl rfl) (hr.mono (by first | decide | omega | (simp only [Nat.add_eq]; omega))) (ra_cons (re_var 1) ra_nil)))
  (rss_cons (rs_if (rt_cmp op_gt (c2_I _) (re_callB (call_maxA hr rfl) ca_max T.b_max (by rfl) (ra_cons (re_lc sc_least_rows.nd (ri_seq (re_var 0)) (own := [("size", 2)]) (by show BlkOk ["sizes", "columns", "size", "rows"] (defScope s_least_rows) _ [("size", 2)]; exact ⟨rfl, by decide +kernel, by decide +kernel, by decide +kernel, by decide +kernel⟩) (by decide) (fun s H C cl fp => (rg_name 2 sc_least_rows.nd)) (fun s H C cl fp => rts_nil) (fun s H C cl fp => (re_ix hr (re_var 2) re_int))) ra_nil)) (re_var 1) (nomark _)) (rss_one (rs_ret re_non)) rss_nil)
  (rss_cons (rs_for (ri_seq (re_callC c_all_sums (takes_of rfl rfl rfl rfl) (hr.mono (by first | decide | omega | (simp only [Nat.add_eq]; omega))) (ra_cons (re_lc sc_least_rows.nd (ri_seq (re_var 0)) (own := [("size", 2)]) (by show BlkOk ["sizes", "columns", "size", "rows"] (defScope s_least_rows) _ [("size", 2)]; exact ⟨rfl, by decide +kernel, by decide +kernel, by decide +kernel, by decide +kernel⟩) (by decide) (fun s H C cl fp => (rg_name 2 sc_least_rows.nd)) (fun s H C cl fp => rts_nil) (fun s H C cl fp => (re_ix hr (re_var 2) re_int))) ra_nil))) (rg_name 3 sc_least_rows.nd) (rss_one (rs_if (rt_cmp op_notN c2_notN (re_meth M_Bed__filled (takes_of rfl rfl rfl rfl) (hr.mono (by first | decide | omega | (simp only [Nat.add_eq]; omega))) (re_make K_Bed____init__ (takes_of rfl rfl rfl rfl) (hr.mono (by first | decide | omega | (simp only [Nat.add_eq]; omega))) (ra_cons (re_var 0) (ra_cons (re_var 1) (ra_cons (re_var 3) ra_nil)))) (ra_cons (re_tup ra_nil) ra_nil)) re_non (nomark _)) (rss_one (rs_ret (re_var 3))) rss_nil)) (passes_of rfl))
  (rss_one (rs_ret re_non))))))

abbrev s__law_taken : Stmt := top 21
theorem sc__law_taken : FnScope ["row", "many", "found", "cell"] ["row", "many"] (defScope s__law_taken) := ⟨rfl, rfl, rfl, by decide +kernel, rfl, by decide +kernel, by decide +kernel⟩
def g__law_taken : FX.Env → O :=
  (gSeq (gIf (fCmpT (cI fun i j => decide (j < i)) (fBin aIx (fVar 0) (fC (.int 3))) (fC (.int 0))) (gSeq (gSet 2 (fBin aMod (fCB bInt (fACons (fBin aIx (fVar 0) (fC (.int 3))) fANil)) (fVar 1)))
  (gSeq (gStore stL 0 (fBin aDiv (fBin aIx (fVar 0) (fC (.int 3))) (fVar 1)) (fC (.int 3)))
  (gRet (fVar 2)))) gNil)
  (gSeq (gStore stL 0 (fBin aAdd (fBin aIx (fVar 0) (fC (.int 1))) (fC (.int 1))) (fC (.int 1)))
  (gSeq (gIf (fCmpT (cI fun i j => decide (j < i)) (fBin aIx (fVar 0) (fC (.int 1))) (fCB bLen (fACons (fBin aIx (fVar 0) (fC (.int 0))) fANil))) (gSeq (gStore stL 0 (fBin aMod (fCB bInt (fACons (fBin aAdd (fBin aMul (fBin aIx (fVar 0) (fC (.int 2))) (fC (.int 48271))) (fC (.int 11))) fANil)) (fC (.int 2147483647))) (fC (.int 2)))
  (gRet (fBin aMod (fCB bInt (fACons (fBin aDiv (fBin aIx (fVar 0) (fC (.int 2))) (fC (.int 7))) fANil)) (fVar 1)))) gNil)
  (gSeq (gSet 3 (fBin aIx (fBin aIx (fVar 0) (fC (.int 0))) (fBin aSub (fBin aIx (fVar 0) (fC (.int 1))) (fC (.int 1)))))
  (gSeq (gStore stL 0 (fBin aMod (fCB bInt (fACons (fBin aAdd (fBin aAdd (fBin aMul (fBin aIx (fVar 0) (fC (.int 2))) (fC (.int 48271))) (fVar 3)) (fC (.int 11))) fANil)) (fC (.int 2147483647))) (fC (.int 2)))
  (gSeq (gIf (fCmpT (cI fun i j => decide (j ≤ i)) (fVar 3) (fBin aPow (fC (.int 10)) (fC (.int 18)))) (gStore stL 0 (fBin aDiv (fVar 3) (fVar 1)) (fC (.int 3))) gNil)
  (gRet (fBin aMod (fCB bInt (fACons (fVar 3) fANil)) (fVar 1)))))))))
def m__law_taken : T → List T → RpM := mkM 1 4 g__law_taken
theorem ok__law_taken (T : TX mg) (F : Fn0 K mg "_law_taken" s__law_taken ["row", "many"])  : Cal P w K mg base "_law_taken" ["row", "many"] 1 (spM K mg m__law_taken) :=
  cal_m (n := 1) F sc__law_taken rfl fun f cdv A outer s H E au ht hr =>
  (rss_cons (rs_if (rt_cmp op_gt (c2_I _) (re_ix hr (re_var 0) re_int) re_int (nomark _)) (rss_cons (rs_set 2 sc__law_taken.nd (re_mod (re_callTy call_int1 ca_int T.b_int (by rfl) (ra_cons (re_ix hr (re_var 0) re_int) ra_nil)) (re_var 1)))
  (rss_cons (rs_storeL 0 (re_div (re_ix hr (re_var 0) re_int) (re_var 1)) re_int)
  (rss_one (rs_ret (re_var 2))))) rss_nil)
  (rss_cons (rs_storeL 0 (re_add (re_ix hr (re_var 0) re_int) re_int) re_int)
  (rss_cons (rs_if (rt_cmp op_gt (c2_I _) (re_ix hr (re_var 0) re_int) (re_callB call_lenA ca_len T.b_len (by rfl) (ra_cons (re_ix hr (re_var 0) re_int) ra_nil)) (nomark _)) (rss_cons (rs_storeL 0 (re_mod (re_callTy call_int1 ca_int T.b_int (by rfl) (ra_cons (re_add (re_mul (re_ix hr (re_var 0) re_int) re_int) re_int) ra_nil)) re_int) re_int)
  (rss_one (rs_ret (re_mod (re_callTy call_int1 ca_int T.b_int (by rfl) (ra_cons (re_div (re_ix hr (re_var 0) re_int) re_int) ra_nil)) (re_var 1))))) rss_nil)
  (rss_cons (rs_set 3 sc__law_taken.nd (re_ix hr (re_ix hr (re_var 0) re_int) (re_sub (re_ix hr (re_var 0) re_int) re_int)))
  (rss_cons (rs_storeL 0 (re_mod (re_callTy call_int1 ca_int T.b_int (by rfl) (ra_cons (re_add (re_add (re_mul (re_ix hr (re_var 0) re_int) re_int) (re_var 3)) re_int) ra_nil)) re_int) re_int)
  (rss_cons (rs_if (rt_cmp op_ge (c2_I _) (re_var 3) (re_pow re_int re_int) (nomark _)) (rss_one (rs_storeL 0 (re_div (re_var 3) (re_var 1)) re_int)) rss_nil)
  (rss_one (rs_ret (re_mod (re_callTy call_int1 ca_int T.b_int (by rfl) (ra_cons (re_var 3) ra_nil)) (re_var 1))))))))))

abbrev s__law_pick : Stmt := top 22
theorem sc__law_pick : FnScope ["row", "some"] ["row", "some"] (defScope s__law_pick) := ⟨rfl, rfl, rfl, by decide +kernel, rfl, by decide +kernel, by decide +kernel⟩
def g__law_pick : FX.Env → O :=
  (gRet (fBin aIx (fVar 1) (fCallM m__law_taken (fACons (fVar 0) (fACons (fCB bLen (fACons (fVar 1) fANil)) fANil)))))
def m__law_pick : T → List T → RpM := mkM 1 2 g__law_pick
theorem ok__law_pick (T : TX mg) (F : Fn0 K mg "_law_pick" s__law_pick ["row", "some"]) (c__law_taken : Cal P w K mg base "_law_taken" ["row", "many"] 1 (spM K mg m__law_taken)) : Cal P w K mg base "_law_pick" ["row", "some"] 2 (spM K mg m__law_pick) :=
  cal_m (n := 1) F sc__law_pick rfl fun f cdv A outer s H E au ht hr =>
  (rss_one (rs_ret (re_ix hr (re_var 1) (re_callMC c__law_taken (takes_of rfl rfl rfl rfl) (hr.mono (by first | decide | omega | (simp only [Nat.add_eq]; omega))) (ra_cons (re_var 0) (ra_cons (re_callB call_lenA ca_len T.b_len (by rfl) (ra_cons (re_var 1) ra_nil)) ra_nil))))))

abbrev s__law_alike : Stmt := top 23
theorem sc__law_alike : FnScope ["found", "due", "k", "key"] ["found", "due"] (defScope s__law_alike) := ⟨rfl, rfl, rfl, by decide +kernel, rfl, by decide +kernel, by decide +kernel⟩
def g__law_alike (rec : List T → Rp) : FX.Env → O :=
  (gSeq (gIf (fTru (fCB bIsi (fACons (fVar 1) (fACons (fTup (fACons (fC (.ty "tuple")) (fACons (fC (.ty "list")) fANil))) fANil)))) (gSeq (gIf (fOr (fNot (fTru (fCB bIsi (fACons (fVar 0) (fACons (fTup (fACons (fC (.ty "tuple")) (fACons (fC (.ty "list")) fANil))) fANil))))) (fCmpT cNe (fCB bIsi (fACons (fVar 0) (fACons (fC (.ty "list")) fANil))) (fCB bIsi (fACons (fVar 1) (fACons (fC (.ty "list")) fANil))))) (gRet (fC (.bl false))) gNil)
  (gSeq (gIf (fCmpT cNe (fCB bLen (fACons (fVar 0) fANil)) (fCB bLen (fACons (fVar 1) fANil))) (gRet (fC (.bl false))) gNil)
  (gRet (fBin (gCm cEq) (fLc [2] (fRange1 (fACons (fCB bLen (fACons (fVar 1) fANil)) fANil)) (bName 2) (fNot (fTru (fCall rec (fACons (fBin aIx (fVar 0) (fVar 2)) (fACons (fBin aIx (fVar 1) (fVar 2)) fANil))))) (fVar 2)) (fLst fANil))))) gNil)
  (gSeq (gIf (fTru (fCB bIsi (fACons (fVar 1) (fACons (fC (.ty "dict")) fANil)))) (gSeq (gIf (fOr (fNot (fTru (fCB bIsi (fACons (fVar 0) (fACons (fC (.ty "dict")) fANil))))) (fCmpT cNe (fCB bListA (fACons (fVar 0) fANil)) (fCB bListA (fACons (fVar 1) fANil)))) (gRet (fC (.bl false))) gNil)
  (gRet (fBin (gCm cEq) (fLc [3] (fItems (fVar 1)) (bName 3) (fNot (fTru (fCall rec (fACons (fBin aIx (fVar 0) (fVar 3)) (fACons (fBin aIx (fVar 1) (fVar 3)) fANil))))) (fVar 3)) (fLst fANil)))) gNil)
  (gSeq (gIf (fOr (fCmpT cIsN (fVar 1) (fC .non)) (fTru (fCB bIsi (fACons (fVar 1) (fACons (fC (.ty "str")) fANil))))) (gRet (fAndV (fBin (gCm cEq) (fVar 0) (fVar 1)) (fBin (gCm cEq) (fCB bIsi (fACons (fVar 0) (fACons (fC (.ty "str")) fANil))) (fCB bIsi (fACons (fVar 1) (fACons (fC (.ty "str")) fANil)))))) gNil)
  (gRet (fAndV (fCB bIsi (fACons (fVar 0) (fACons (fC (.ty "int")) fANil))) (fAndV (fBin (gCm cEq) (fCB bIsi (fACons (fVar 0) (fACons (fC (.ty "bool")) fANil))) (fCB bIsi (fACons (fVar 1) (fACons (fC (.ty "bool")) fANil)))) (fBin (gCm cEq) (fVar 0) (fVar 1))))))))
def m__law_alike : Nat → List T → Rp
  | 0 => fun _ => .stuck
  | n + 1 => mkP 2 4 (g__law_alike (m__law_alike n))
theorem ok__law_alike (T : TX mg) (F : Fn0 K mg "_law_alike" s__law_alike ["found", "due"])  : ∀ n, Cal P w K mg base "_law_alike" ["found", "due"] (1 + n) (spP K mg (m__law_alike n))
  | 0 => by
    obtain ⟨f, fd, h⟩ := cal_no (P := P) (w := w) (base := base) F sc__law_alike
    exact ⟨f, fd, h.1.mono (by omega), h.2⟩
  | n + 1 => by
    have c_rec := ok__law_alike T F  n
    exact cal_p F sc__law_alike fun f cdv A outer s H E au ht hr =>
  (rss_cons (rs_if (rt_tru (re_callB call_isiA ca_isi T.b_isinstance (by rfl) (ra_cons (re_var 1) (ra_cons (re_tup (ra_cons (re_ty T.b_tuple (by rfl)) (ra_cons (re_ty T.b_list (by rfl)) ra_nil))) ra_nil)))) (rss_cons (rs_if (RW.rt (rw_or (rt_not (rt_tru (re_callB call_isiA ca_isi T.b_isinstance (by rfl) (ra_cons (re_var 0) (ra_cons (re_tup (ra_cons (re_ty T.b_tuple (by rfl)) (ra_cons (re_ty T.b_list (by rfl)) ra_nil))) ra_nil))))) (rw_or1 (rt_cmp (op_neD hr.units) c2_ne (re_callB call_isiA ca_isi T.b_isinstance (by rfl) (ra_cons (re_var 0) (ra_cons (re_ty T.b_list (by rfl)) ra_nil))) (re_callB call_isiA ca_isi T.b_isinstance (by rfl) (ra_cons (re_var 1) (ra_cons (re_ty T.b_list (by rfl)) ra_nil))) (nomark _))))) (rss_one (rs_ret re_bl)) rss_nil)
  (rss_cons (rs_if (rt_cmp (op_neD hr.units) c2_ne (re_callB call_lenA ca_len T.b_len (by rfl) (ra_cons (re_var 0) ra_nil)) (re_callB call_lenA ca_len T.b_len (by rfl) (ra_cons (re_var 1) ra_nil)) (nomark _)) (rss_one (rs_ret re_bl)) rss_nil)
  (rss_one (rs_ret (re_cmp (op_eqD hr.units) c2_eq (re_lc sc__law_alike.nd (ri_range1 T.b_range (ra_cons (re_callB call_lenA ca_len T.b_len (by rfl) (ra_cons (re_var 1) ra_nil)) ra_nil)) (own := [("k", 2)]) (by show BlkOk ["found", "due", "k", "key"] (defScope s__law_alike) _ [("k", 2)]; exact ⟨rfl, by decide +kernel, by decide +kernel, by decide +kernel, by decide +kernel⟩) (by decide) (fun s H C cl fp => (rg_name 2 sc__law_alike.nd)) (fun s H C cl fp => (rts_one (rt_not (rt_tru (re_callC c_rec (LamX.takes0) hr (ra_cons (re_ix hr (re_var 0) (re_var 2)) (ra_cons (re_ix hr (re_var 1) (re_var 2)) ra_nil))))))) (fun s H C cl fp => (re_var 2))) (re_lst ra_nil) (nomark _)))))) rss_nil)
  (rss_cons (rs_if (rt_tru (re_callB call_isiA ca_isi T.b_isinstance (by rfl) (ra_cons (re_var 1) (ra_cons (re_ty T.b_dict (by rfl)) ra_nil)))) (rss_cons (rs_if (RW.rt (rw_or (rt_not (rt_tru (re_callB call_isiA ca_isi T.b_isinstance (by rfl) (ra_cons (re_var 0) (ra_cons (re_ty T.b_dict (by rfl)) ra_nil))))) (rw_or1 (rt_cmp (op_neD hr.units) c2_ne (re_callTy (call_listA rfl) ca_listA T.b_list (by rfl) (ra_cons (re_var 0) ra_nil)) (re_callTy (call_listA rfl) ca_listA T.b_list (by rfl) (ra_cons (re_var 1) ra_nil)) (nomark _))))) (rss_one (rs_ret re_bl)) rss_nil)
  (rss_one (rs_ret (re_cmp (op_eqD hr.units) c2_eq (re_lc sc__law_alike.nd (ri_seq (re_var 1)) (own := [("key", 3)]) (by show BlkOk ["found", "due", "k", "key"] (defScope s__law_alike) _ [("key", 3)]; exact ⟨rfl, by decide +kernel, by decide +kernel, by decide +kernel, by decide +kernel⟩) (by decide) (fun s H C cl fp => (rg_name 3 sc__law_alike.nd)) (fun s H C cl fp => (rts_one (rt_not (rt_tru (re_callC c_rec (LamX.takes0) hr (ra_cons (re_ix hr (re_var 0) (re_var 3)) (ra_cons (re_ix hr (re_var 1) (re_var 3)) ra_nil))))))) (fun s H C cl fp => (re_var 3))) (re_lst ra_nil) (nomark _))))) rss_nil)
  (rss_cons (rs_if (RW.rt (rw_or (rt_cmp op_isN c2_isN (re_var 1) re_non (nomark _)) (rw_or1 (rt_tru (re_callB call_isiA ca_isi T.b_isinstance (by rfl) (ra_cons (re_var 1) (ra_cons (re_ty T.b_str (by rfl)) ra_nil))))))) (rss_one (rs_ret (re_and (re_cmp (op_eqD hr.units) c2_eq (re_var 0) (re_var 1) (nomark _)) (re_one (re_cmp (op_eqD hr.units) c2_eq (re_callB call_isiA ca_isi T.b_isinstance (by rfl) (ra_cons (re_var 0) (ra_cons (re_ty T.b_str (by rfl)) ra_nil))) (re_callB call_isiA ca_isi T.b_isinstance (by rfl) (ra_cons (re_var 1) (ra_cons (re_ty T.b_str (by rfl)) ra_nil))) (nomark _)))))) rss_nil)
  (rss_one (rs_ret (re_and (re_callB call_isiA ca_isi T.b_isinstance (by rfl) (ra_cons (re_var 0) (ra_cons (re_ty T.b_int (by rfl)) ra_nil))) (re_and (re_cmp (op_eqD hr.units) c2_eq (re_callB call_isiA ca_isi T.b_isinstance (by rfl) (ra_cons (re_var 0) (ra_cons (re_ty T.b_bool (by rfl)) ra_nil))) (re_callB call_isiA ca_isi T.b_isinstance (by rfl) (ra_cons (re_var 1) (ra_cons (re_ty T.b_bool (by rfl)) ra_nil))) (nomark _)) (re_one (re_cmp (op_eqD hr.units) c2_eq (re_var 0) (re_var 1) (nomark _))))))))))

abbrev s__law_lie : Stmt := top 24
theorem sc__law_lie : FnScope ["sizes", "wide", "deep", "found", "size", "x", "y", "is_free", "at", "corner", "other", "whole"] ["sizes", "wide", "deep", "found"] (defScope s__law_lie) := ⟨rfl, rfl, rfl, by decide +kernel, rfl, by decide +kernel, by decide +kernel⟩
def g__law_lie (rec : List T → Rp) : FX.Env → O :=
  (gSeq (gIf (fCmpT cEq (fCB bLen (fACons (fVar 3) fANil)) (fCB bLen (fACons (fVar 0) fANil))) (gRet (fVar 3)) gNil)
  (gSeq (gSet 4 (fBin aIx (fVar 0) (fCB bLen (fACons (fVar 3) fANil))))
  (gSeq (gFor (fRange1 (fACons (fBin aAdd (fBin aSub (fVar 1) (fBin aIx (fVar 4) (fC (.int 0)))) (fC (.int 1))) fANil)) (bName 5) (gFor (fRange1 (fACons (fBin aAdd (fBin aSub (fVar 2) (fBin aIx (fVar 4) (fC (.int 1)))) (fC (.int 1))) fANil)) (bName 6) (gSeq (gSet 7 (fC (.bl true)))
  (gSeq (gFor (fEnum (fACons (fVar 3) fANil)) (bTup 2 (bCons (bName 8) (bCons (bName 9) bNil))) (gSeq (gSet 10 (fBin aIx (fVar 0) (fVar 8)))
  (gIf (fAnd (fCmpT cLt (fVar 5) (fBin aAdd (fBin aIx (fVar 9) (fC (.int 0))) (fBin aIx (fVar 10) (fC (.int 0))))) (fAnd (fCmpT cLt (fBin aIx (fVar 9) (fC (.int 0))) (fBin aAdd (fVar 5) (fBin aIx (fVar 4) (fC (.int 0))))) (fAnd (fCmpT cLt (fVar 6) (fBin aAdd (fBin aIx (fVar 9) (fC (.int 1))) (fBin aIx (fVar 10) (fC (.int 1))))) (fCmpT cLt (fBin aIx (fVar 9) (fC (.int 1))) (fBin aAdd (fVar 6) (fBin aIx (fVar 4) (fC (.int 1)))))))) (gSet 7 (fC (.bl false))) gNil)))
  (gIf (fTru (fVar 7)) (gSeq (gSet 11 (fCall rec (fACons (fVar 0) (fACons (fVar 1) (fACons (fVar 2) (fACons (fBin aAdd (fVar 3) (fTup (fACons (fTup (fACons (fVar 5) (fACons (fVar 6) fANil))) fANil))) fANil))))))
  (gIf (fCmpT cNotN (fVar 11) (fC .non)) (gRet (fVar 11)) gNil)) gNil)))))
  (gRet (fC .non)))))
def m__law_lie : Nat → List T → Rp
  | 0 => fun _ => .stuck
  | n + 1 => mkP 4 12 (g__law_lie (m__law_lie n))
theorem ok__law_lie (T : TX mg) (F : Fn0 K mg "_law_lie" s__law_lie ["sizes", "wide", "deep", "found"])  : ∀ n, Cal P w K mg base "_law_lie" ["sizes", "wide", "deep", "found"] (1 + n) (spP K mg (m__law_lie n))
  | 0 => by
    obtain ⟨f, fd, h⟩ := cal_no (P := P) (w := w) (base := base) F sc__law_lie
    exact ⟨f, fd, h.1.mono (by omega), h.2⟩
  | n + 1 => by
    have c_rec := ok__law_lie T F  n
    exact cal_p F sc__law_lie fun f cdv A outer s H E au ht hr =>
  (rss_cons (rs_if (rt_cmp (op_eqD hr.units) c2_eq (re_callB call_lenA ca_len T.b_len (by rfl) (ra_cons (re_var 3) ra_nil)) (re_callB call_lenA ca_len T.b_len (by rfl) (ra_cons (re_var 0) ra_nil)) (nomark _)) (rss_one (rs_ret (re_var 3))) rss_nil)
  (rss_cons (rs_set 4 sc__law_lie.nd (re_ix hr (re_var 0) (re_callB call_lenA ca_len T.b_len (by rfl) (ra_cons (re_var 3) ra_nil))))
  (rss_cons (rs_for (ri_range1 T.b_range (ra_cons (re_add (re_sub (re_var 1) (re_ix hr (re_var 4) re_int)) re_int) ra_nil)) (rg_name 5 sc__law_lie.nd) (rss_one (rs_for (ri_range1 T.b_range (ra_cons (re_add (re_sub (re_var 2) (re_ix hr (re_var 4) re_int)) re_int) ra_nil)) (rg_name 6 sc__law_lie.nd) (rss_cons (rs_set 7 sc__law_lie.nd re_bl)
  (rss_cons (rs_for (ri_enum T.b_enumerate (ra_cons (re_var 3) ra_nil)) (rg_tup (rgs_cons (rg_name 8 sc__law_lie.nd) (rgs_cons (rg_name 9 sc__law_lie.nd) rgs_nil))) (rss_cons (rs_set 10 sc__law_lie.nd (re_ix hr (re_var 0) (re_var 8)))
  (rss_one (rs_if (RW.rt (rw_and (rt_cmp (op_ltA hr) c2_lt (re_var 5) (re_add (re_ix hr (re_var 9) re_int) (re_ix hr (re_var 10) re_int)) (nomark _)) (rw_and (rt_cmp (op_ltA hr) c2_lt (re_ix hr (re_var 9) re_int) (re_add (re_var 5) (re_ix hr (re_var 4) re_int)) (nomark _)) (rw_and (rt_cmp (op_ltA hr) c2_lt (re_var 6) (re_add (re_ix hr (re_var 9) re_int) (re_ix hr (re_var 10) re_int)) (nomark _)) (rw_and1 (rt_cmp (op_ltA hr) c2_lt (re_ix hr (re_var 9) re_int) (re_add (re_var 6) (re_ix hr (re_var 4) re_int)) (nomark _))))))) (rss_one (rs_set 7 sc__law_lie.nd re_bl)) rss_nil))) (passes_of rfl))
  (rss_one (rs_if (rt_tru (re_var 7)) (rss_cons (rs_set 11 sc__law_lie.nd (re_callC c_rec (takes_of rfl rfl rfl rfl) hr (ra_cons (re_var 0) (ra_cons (re_var 1) (ra_cons (re_var 2) (ra_cons (re_add (re_var 3) (re_tup (ra_cons (re_tup (ra_cons (re_var 5) (ra_cons (re_var 6) ra_nil))) ra_nil))) ra_nil))))))
  (rss_one (rs_if (rt_cmp op_notN c2_notN (re_var 11) re_non (nomark _)) (rss_one (rs_ret (re_var 11))) rss_nil))) rss_nil)))) (passes_of rfl))) (passes_of rfl))
  (rss_one (rs_ret re_non)))))

abbrev s_ref : Stmt := top 25
theorem sc_ref : FnScope ["ask", "e"] ["ask"] (defScope s_ref) := ⟨rfl, rfl, rfl, by decide +kernel, rfl, by decide +kernel, by decide +kernel⟩
def hs_ref : List ExceptHandler := match defBody s_ref with
  | .Try _ hs _ _ _ :: _ => hs
  | _ => []
def h0_ref : ExceptHandler := hs_ref.getD 0 (.ExceptHandler none none [] ⟨0, 0, 0, 0⟩)
def ht_ref : List ExceptHandler := hs_ref.tail
abbrev s_law : Stmt := top 26
theorem sc_law : FnScope ["script", "row", "sizes", "k", "wide", "deep", "due", "times", "large", "a", "b", "grown", "x", "y", "best", "rows", "odd", "bad"] ["script"] (defScope s_law) := ⟨rfl, rfl, rfl, by decide +kernel, rfl, by decide +kernel, by decide +kernel⟩
def g_law : FX.Env → O :=
  (gSeq (gSet 1 (fLst (fACons (fVar 0) (fACons (fC (.int 0)) (fACons (fC (.int 122)) (fACons (fC (.int 0)) fANil))))))
  (gSeq (gSet 2 (fLst fANil))
  (gSeq (gFor (fRange1 (fACons (fBin aAdd (fBin aAdd (fC (.int 1)) (fCallM m__law_taken (fACons (fVar 1) (fACons (fC (.int 4)) fANil)))) (fIf (fCmpT cEq (fCallM m__law_taken (fACons (fVar 1) (fACons (fC (.int 6)) fANil))) (fC (.int 0))) (fC (.int 1)) (fC (.int 0)))) fANil)) (bName 3) (gDrop (gd isL 2 (fMut 2 mAppend (fACons (fTup (fACons (fBin aAdd (fC (.int 1)) (fCallM m__law_taken (fACons (fVar 1) (fACons (fC (.int 3)) fANil)))) (fACons (fBin aAdd (fC (.int 1)) (fCallM m__law_taken (fACons (fVar 1) (fACons (fC (.int 3)) fANil)))) fANil))) fANil)))))
  (gSeq (gPar 4 5 (fACons (fBin aAdd (fC (.int 1)) (fCallM m__law_taken (fACons (fVar 1) (fACons (fC (.int 6)) fANil)))) (fACons (fBin aAdd (fC (.int 1)) (fCallM m__law_taken (fACons (fVar 1) (fACons (fC (.int 5)) fANil)))) fANil)))
  (gSeq (gSet 6 (fCall (m__law_lie 6) (fACons (fVar 2) (fACons (fVar 4) (fACons (fVar 5) (fACons (fTup fANil) fANil))))))
  (gSeq (gIf (fNot (fTru (fCall (m__law_alike 10) (fACons (fCall m_on_bed (fACons (fCB bTuple (fACons (fVar 2) fANil)) (fACons (fVar 4) (fACons (fVar 5) fANil)))) (fACons (fVar 6) fANil))))) (gRet (fC (.bl false))) gNil)
  (gSeq (gSet 7 (fBin aAdd (fC (.int 1)) (fCallM m__law_taken (fACons (fVar 1) (fACons (fC (.int 3000)) fANil)))))
  (gSeq (gSet 8 (fLc [9, 10] (fItems (fVar 2)) (bTup 2 (bCons (bName 9) (bCons (bName 10) bNil))) fYes (fTup (fACons (fBin aMul (fVar 9) (fVar 7)) (fACons (fBin aMul (fVar 10) (fVar 7)) fANil)))))
  (gSeq (gSet 11 (fIf (fCmpT cIsN (fVar 6) (fC .non)) (fC .non) (fCB bTuple (fACons (fLc [12, 13] (fItems (fVar 6)) (bTup 2 (bCons (bName 12) (bCons (bName 13) bNil))) fYes (fTup (fACons (fBin aMul (fVar 12) (fVar 7)) (fACons (fBin aMul (fVar 13) (fVar 7)) fANil)))) fANil))))
  (gSeq (gIf (fNot (fTru (fCall (m__law_alike 10) (fACons (fCall m_on_bed (fACons (fVar 8) (fACons (fBin aMul (fVar 4) (fVar 7)) (fACons (fBin aMul (fVar 5) (fVar 7)) fANil)))) (fACons (fVar 11) fANil))))) (gRet (fC (.bl false))) gNil)
  (gSeq (gSet 14 (fC .non))
  (gSeq (gFor (fRange2 (fACons (fC (.int 1)) (fACons (fBin aAdd (fBin aMul (fC (.int 3)) (fCB bLen (fACons (fVar 2) fANil))) (fC (.int 1))) fANil))) (bName 15) (gIf (fAnd (fCmpT cIsN (fVar 14) (fC .non)) (fCmpT cNotN (fCall (m__law_lie 6) (fACons (fVar 2) (fACons (fVar 4) (fACons (fVar 15) (fACons (fTup fANil) fANil))))) (fC .non))) (gSet 14 (fVar 15)) gNil))
  (gSeq (gIf (fOr (fNot (fTru (fCall (m__law_alike 10) (fACons (fCall m_least_rows (fACons (fVar 2) (fACons (fVar 4) fANil))) (fACons (fVar 14) fANil))))) (fCmpT cNe (fCall m_least_rows (fACons (fVar 8) (fACons (fBin aMul (fVar 4) (fVar 7)) fANil))) (fIf (fCmpT cIsN (fVar 14) (fC .non)) (fC .non) (fBin aMul (fVar 14) (fVar 7))))) (gRet (fC (.bl false))) gNil)
  (gSeq (gSet 16 (fCallM m__law_pick (fACons (fVar 1) (fACons (fLst (fACons (fC (.int 0)) (fACons (fBin aAdd (fBin aPow (fC (.int 10)) (fC (.int 5))) (fC (.int 1))) (fACons (fC .non) (fACons (fC (.bl true)) fANil))))) fANil))))
  (gSeq (gIf (fCmpT cNe (fCB bRepr (fACons (fRefM [("BadNumber", "number"), ("BadSizes", "sizes")] "" (fCall m_on_bed (fACons (fVar 2) (fACons (fVar 16) (fACons (fVar 16) fANil))))) fANil)) (fCB bRepr (fACons (fTup (fACons (fC (.str "number")) (fACons (fVar 16) fANil))) fANil))) (gRet (fC (.bl false))) gNil)
  (gSeq (gIf (fCmpT cNe (fCB bRepr (fACons (fRefM [("BadNumber", "number"), ("BadSizes", "sizes")] "" (fCall m_on_bed (fACons (fVar 2) (fACons (fC (.int 5)) (fACons (fVar 16) fANil))))) fANil)) (fCB bRepr (fACons (fTup (fACons (fC (.str "number")) (fACons (fVar 16) fANil))) fANil))) (gRet (fC (.bl false))) gNil)
  (gSeq (gIf (fCmpT cNe (fCB bRepr (fACons (fRefM [("BadNumber", "number"), ("BadSizes", "sizes")] "" (fCall m_least_rows (fACons (fVar 2) (fACons (fVar 16) fANil)))) fANil)) (fCB bRepr (fACons (fTup (fACons (fC (.str "number")) (fACons (fVar 16) fANil))) fANil))) (gRet (fC (.bl false))) gNil)
  (gSeq (gSet 17 (fLst (fACons (fTup (fACons (fC (.int 1)) (fACons (fC (.int 1)) fANil))) (fACons (fCallM m__law_pick (fACons (fVar 1) (fACons (fLst (fACons (fC .non) (fACons (fTup (fACons (fC (.int 0)) (fACons (fC (.int 1)) fANil))) (fACons (fTup (fACons (fC (.int 1)) (fACons (fBin aAdd (fBin aPow (fC (.int 10)) (fC (.int 4))) (fC (.int 1))) fANil))) (fACons (fLst (fACons (fC (.int 1)) (fACons (fC (.int 1)) fANil))) (fACons (fTup (fACons (fC (.int 1)) fANil)) (fACons (fTup (fACons (fC (.bl true)) (fACons (fC (.int 1)) fANil))) fANil))))))) fANil))) fANil))))
  (gSeq (gIf (fCmpT cNe (fRefM [("BadNumber", "number"), ("BadSizes", "sizes")] "" (fCall m_on_bed (fACons (fVar 17) (fACons (fC .non) (fACons (fC .non) fANil))))) (fTup (fACons (fC (.str "sizes")) (fACons (fC (.int 1)) fANil)))) (gRet (fC (.bl false))) gNil)
  (gSeq (gIf (fCmpT cNe (fRefM [("BadNumber", "number"), ("BadSizes", "sizes")] "" (fCall m_least_rows (fACons (fVar 17) (fACons (fC .non) fANil)))) (fTup (fACons (fC (.str "sizes")) (fACons (fC (.int 1)) fANil)))) (gRet (fC (.bl false))) gNil)
  (gRet (fBin (gCm cEq) (fRefM [("BadNumber", "number"), ("BadSizes", "sizes")] "" (fCall m_on_bed (fACons (fCallM m__law_pick (fACons (fVar 1) (fACons (fLst (fACons (fC .non) (fACons (fLst fANil) (fACons (fBin aMul (fLst (fACons (fTup (fACons (fC (.int 1)) (fACons (fC (.int 1)) fANil))) fANil)) (fC (.int 6))) (fACons (fC (.int 5)) fANil))))) fANil))) (fACons (fC .non) (fACons (fC .non) fANil))))) (fTup (fACons (fC (.str "sizes")) (fACons (fNeg (fC (.int 1))) fANil)))))))))))))))))))))))))
theorem law_at (T : TX mg) (c__law_taken : Cal P w K mg base "_law_taken" ["row", "many"] 1 (spM K mg m__law_taken)) (c__law_lie : Cal P w K mg base "_law_lie" ["sizes", "wide", "deep", "found"] 7 (spP K mg (m__law_lie 6))) (c_on_bed : Cal P w K mg base "on_bed" ["sizes", "columns", "rows"] 10 (spP K mg m_on_bed)) (c__law_alike : Cal P w K mg base "_law_alike" ["found", "due"] 11 (spP K mg (m__law_alike 10))) (c_least_rows : Cal P w K mg base "least_rows" ["sizes", "columns"] 10 (spP K mg m_least_rows)) (c__law_pick : Cal P w K mg base "_law_pick" ["row", "some"] 2 (spM K mg m__law_pick)) (D_ref : RefDM K mg "_law_refused" s_ref "ask" "e" (h0_ref :: ht_ref) [("BadNumber", "number"), ("BadSizes", "sizes")]) {f c P_ a : Addr} {s : Shared} {H : Hp} {ns : List Int} {kV doc pm ct oc : Value} {an od : Option Addr} {osl : Array (Option Value)} (TB : LamX.TabB base mg c P_)
    (lk : K.lookup f = some ⟨oc, od, .func (PySem.W.fnOf "law" "law" (defArgs s_law) (defBody s_law) (defScope s_law) .none kV doc pm an (.ref c) ct), osl⟩) (hcd : PySem.W.codeIn K (.ref c) "law" = true)
    (e0 : Env0 P w K mg base callerA [] s H) (ht : ∀ p ∈ [(c, P_)], H p.2 = some (.tbl #[])) (hs : SqL K H a (ns.map V.int)) (hG : GoodEnd (g_law (startL 18 ns))) :
    codeAny (model P w) callerA (.call (.ref f) ⟨[.ref a], []⟩) (CR (L2.CX P w) [] P w H s (fun v _ => v = .bl true) fun _ _ _ => False) s :=
  lawG_run (k := 12) (cs := [(c, P_)]) lk hcd sc_law ⟨rfl, by decide, by decide⟩ (fun s u => .of_eq rfl) (fun s H E au ht hr =>
  have hmT : (P_, (("law" : Str) ++ ".<locals>.") ++ "<lambda>") ∈ au.tb := by rw [ht]; exact List.mem_cons_self
  have huT : ∀ p ∈ au.tb, p.1 = P_ → p.2 = (("law" : Str) ++ ".<locals>.") ++ "<lambda>" := by rw [ht]; intro p hp _; exact congrArg Prod.snd (List.mem_singleton.mp hp)
  (rss_cons (rs_set 1 sc_law.nd (re_lst (ra_cons (re_var 0) (ra_cons re_int (ra_cons re_int (ra_cons re_int ra_nil))))))
  (rss_cons (rs_set 2 sc_law.nd (re_lst ra_nil))
  (rss_cons (rs_for (ri_range1 T.b_range (ra_cons (re_add (re_add re_int (re_callMC c__law_taken (takes_of rfl rfl rfl rfl) (hr.mono (by first | decide | omega | (simp only [Nat.add_eq]; omega))) (ra_cons (re_var 1) (ra_cons re_int ra_nil)))) (re_if (rt_cmp (op_eqD hr.units) c2_eq (re_callMC c__law_taken (takes_of rfl rfl rfl rfl) (hr.mono (by first | decide | omega | (simp only [Nat.add_eq]; omega))) (ra_cons (re_var 1) (ra_cons re_int ra_nil))) re_int (nomark _)) re_int re_int)) ra_nil)) (rg_name 3 sc_law.nd) (rss_one (rs_expr (re_lmut 2 PySem.F.slot_list_append PySem.F.type_list_append mt_append mu_append (ra_cons (re_tup (ra_cons (re_add re_int (re_callMC c__law_taken (takes_of rfl rfl rfl rfl) (hr.mono (by first | decide | omega | (simp only [Nat.add_eq]; omega))) (ra_cons (re_var 1) (ra_cons re_int ra_nil)))) (ra_cons (re_add re_int (re_callMC c__law_taken (takes_of rfl rfl rfl rfl) (hr.mono (by first | decide | omega | (simp only [Nat.add_eq]; omega))) (ra_cons (re_var 1) (ra_cons re_int ra_nil)))) ra_nil))) ra_nil)))) (passes_of rfl))
  (rss_cons (rs_par 4 5 sc_law.nd (ra_cons (re_add re_int (re_callMC c__law_taken (takes_of rfl rfl rfl rfl) (hr.mono (by first | decide | omega | (simp only [Nat.add_eq]; omega))) (ra_cons (re_var 1) (ra_cons re_int ra_nil)))) (ra_cons (re_add re_int (re_callMC c__law_taken (takes_of rfl rfl rfl rfl) (hr.mono (by first | decide | omega | (simp only [Nat.add_eq]; omega))) (ra_cons (re_var 1) (ra_cons re_int ra_nil)))) ra_nil)))
  (rss_cons (rs_set 6 sc_law.nd (re_callC c__law_lie (takes_of rfl rfl rfl rfl) (hr.mono (by first | decide | omega | (simp only [Nat.add_eq]; omega))) (ra_cons (re_var 2) (ra_cons (re_var 4) (ra_cons (re_var 5) (ra_cons (re_tup ra_nil) ra_nil))))))
  (rss_cons (rs_if (rt_not (rt_tru (re_callC c__law_alike (takes_of rfl rfl rfl rfl) (hr.mono (by first | decide | omega | (simp only [Nat.add_eq]; omega))) (ra_cons (re_callC c_on_bed (takes_of rfl rfl rfl rfl) (hr.mono (by first | decide | omega | (simp only [Nat.add_eq]; omega))) (ra_cons (re_callTy call_tuple_of ca_tuple T.b_tuple (by rfl) (ra_cons (re_var 2) ra_nil)) (ra_cons (re_var 4) (ra_cons (re_var 5) ra_nil)))) (ra_cons (re_var 6) ra_nil))))) (rss_one (rs_ret re_bl)) rss_nil)
  (rss_cons (rs_set 7 sc_law.nd (re_add re_int (re_callMC c__law_taken (takes_of rfl rfl rfl rfl) (hr.mono (by first | decide | omega | (simp only [Nat.add_eq]; omega))) (ra_cons (re_var 1) (ra_cons re_int ra_nil)))))
  (rss_cons (rs_setLc 8 sc_law.nd (by rfl) (ri_seq (re_var 2)) (own := [("a", 9), ("b", 10)]) (by show BlkOk ["script", "row", "sizes", "k", "wide", "deep", "due", "times", "large", "a", "b", "grown", "x", "y", "best", "rows", "odd", "bad"] (defScope s_law) _ [("a", 9), ("b", 10)]; exact ⟨rfl, by decide +kernel, by decide +kernel, by decide +kernel, by decide +kernel⟩) (by decide) (fun s H C cl fp => (rg_tup (rgs_cons (rg_name 9 sc_law.nd) (rgs_cons (rg_name 10 sc_law.nd) rgs_nil)))) (fun s H C cl fp => rts_nil) (fun s H C cl fp => (re_tup (ra_cons (re_mul (re_var 9) (re_var 7)) (ra_cons (re_mul (re_var 10) (re_var 7)) ra_nil)))))
  (rss_cons (rs_set 11 sc_law.nd (re_if (rt_cmp op_isN c2_isN (re_var 6) re_non (nomark _)) re_non (re_callTy call_tuple_of ca_tuple T.b_tuple (by rfl) (ra_cons (re_lc sc_law.nd (ri_seq (re_var 6)) (own := [("x", 12), ("y", 13)]) (by show BlkOk ["script", "row", "sizes", "k", "wide", "deep", "due", "times", "large", "a", "b", "grown", "x", "y", "best", "rows", "odd", "bad"] (defScope s_law) _ [("x", 12), ("y", 13)]; exact ⟨rfl, by decide +kernel, by decide +kernel, by decide +kernel, by decide +kernel⟩) (by decide) (fun s H C cl fp => (rg_tup (rgs_cons (rg_name 12 sc_law.nd) (rgs_cons (rg_name 13 sc_law.nd) rgs_nil)))) (fun s H C cl fp => rts_nil) (fun s H C cl fp => (re_tup (ra_cons (re_mul (re_var 12) (re_var 7)) (ra_cons (re_mul (re_var 13) (re_var 7)) ra_nil))))) ra_nil))))
  (rss_cons (rs_if (rt_not (rt_tru (re_callC c__law_alike (takes_of rfl rfl rfl rfl) (hr.mono (by first | decide | omega | (simp only [Nat.add_eq]; omega))) (ra_cons (re_callC c_on_bed (takes_of rfl rfl rfl rfl) (hr.mono (by first | decide | omega | (simp only [Nat.add_eq]; omega))) (ra_cons (re_var 8) (ra_cons (re_mul (re_var 4) (re_var 7)) (ra_cons (re_mul (re_var 5) (re_var 7)) ra_nil)))) (ra_cons (re_var 11) ra_nil))))) (rss_one (rs_ret re_bl)) rss_nil)
  (rss_cons (rs_set 14 sc_law.nd re_non)
  (rss_cons (rs_for (ri_range2 T.b_range (ra_cons re_int (ra_cons (re_add (re_mul re_int (re_callB call_lenA ca_len T.b_len (by rfl) (ra_cons (re_var 2) ra_nil))) re_int) ra_nil))) (rg_name 15 sc_law.nd) (rss_one (rs_if (RW.rt (rw_and (rt_cmp op_isN c2_isN (re_var 14) re_non (nomark _)) (rw_and1 (rt_cmp op_notN c2_notN (re_callC c__law_lie (takes_of rfl rfl rfl rfl) (hr.mono (by first | decide | omega | (simp only [Nat.add_eq]; omega))) (ra_cons (re_var 2) (ra_cons (re_var 4) (ra_cons (re_var 15) (ra_cons (re_tup ra_nil) ra_nil))))) re_non (nomark _))))) (rss_one (rs_set 14 sc_law.nd (re_var 15))) rss_nil)) (passes_of rfl))
  (rss_cons (rs_if (RW.rt (rw_or (rt_not (rt_tru (re_callC c__law_alike (takes_of rfl rfl rfl rfl) (hr.mono (by first | decide | omega | (simp only [Nat.add_eq]; omega))) (ra_cons (re_callC c_least_rows (takes_of rfl rfl rfl rfl) (hr.mono (by first | decide | omega | (simp only [Nat.add_eq]; omega))) (ra_cons (re_var 2) (ra_cons (re_var 4) ra_nil))) (ra_cons (re_var 14) ra_nil))))) (rw_or1 (rt_cmp (op_neD hr.units) c2_ne (re_callC c_least_rows (takes_of rfl rfl rfl rfl) (hr.mono (by first | decide | omega | (simp only [Nat.add_eq]; omega))) (ra_cons (re_var 8) (ra_cons (re_mul (re_var 4) (re_var 7)) ra_nil))) (re_if (rt_cmp op_isN c2_isN (re_var 14) re_non (nomark _)) re_non (re_mul (re_var 14) (re_var 7))) (nomark _))))) (rss_one (rs_ret re_bl)) rss_nil)
  (rss_cons (rs_set 16 sc_law.nd (re_callMC c__law_pick (takes_of rfl rfl rfl rfl) (hr.mono (by first | decide | omega | (simp only [Nat.add_eq]; omega))) (ra_cons (re_var 1) (ra_cons (re_lst (ra_cons re_int (ra_cons (re_add (re_pow re_int re_int) re_int) (ra_cons re_non (ra_cons re_bl ra_nil))))) ra_nil))))
  (rss_cons (rs_if (rt_cmp (op_neD hr.units) c2_ne (re_callB (call_reprA rfl hr) ca_repr T.b_repr (by rfl) (ra_cons (re_refM (k := 10) (a := "ask") (n := "e") (w0 := "") D_ref sc_ref rfl (by rfl) (by rfl) TB rfl hmT huT (hr.mono (by decide)) (by refine LamX.lamS_by ?_; show LamX.lamSB (defScope s_law) _ = true; decide +kernel) (fun A outer s H E f c_ hr => (re_callC c_on_bed (takes_of rfl rfl rfl rfl) (hr.mono (by first | decide | omega | (simp only [Nat.add_eq]; omega))) (ra_cons (re_var 2) (ra_cons (re_var 16) (ra_cons (re_var 16) ra_nil)))))) ra_nil)) (re_callB (call_reprA rfl hr) ca_repr T.b_repr (by rfl) (ra_cons (re_tup (ra_cons re_str (ra_cons (re_var 16) ra_nil))) ra_nil)) (nomark _)) (rss_one (rs_ret re_bl)) rss_nil)
  (rss_cons (rs_if (rt_cmp (op_neD hr.units) c2_ne (re_callB (call_reprA rfl hr) ca_repr T.b_repr (by rfl) (ra_cons (re_refM (k := 10) (a := "ask") (n := "e") (w0 := "") D_ref sc_ref rfl (by rfl) (by rfl) TB rfl hmT huT (hr.mono (by decide)) (by refine LamX.lamS_by ?_; show LamX.lamSB (defScope s_law) _ = true; decide +kernel) (fun A outer s H E f c_ hr => (re_callC c_on_bed (takes_of rfl rfl rfl rfl) (hr.mono (by first | decide | omega | (simp only [Nat.add_eq]; omega))) (ra_cons (re_var 2) (ra_cons re_int (ra_cons (re_var 16) ra_nil)))))) ra_nil)) (re_callB (call_reprA rfl hr) ca_repr T.b_repr (by rfl) (ra_cons (re_tup (ra_cons re_str (ra_cons (re_var 16) ra_nil))) ra_nil)) (nomark _)) (rss_one (rs_ret re_bl)) rss_nil)
  (rss_cons (rs_if (rt_cmp (op_neD hr.units) c2_ne (re_callB (call_reprA rfl hr) ca_repr T.b_repr (by rfl) (ra_cons (re_refM (k := 10) (a := "ask") (n := "e") (w0 := "") D_ref sc_ref rfl (by rfl) (by rfl) TB rfl hmT huT (hr.mono (by decide)) (by refine LamX.lamS_by ?_; show LamX.lamSB (defScope s_law) _ = true; decide +kernel) (fun A outer s H E f c_ hr => (re_callC c_least_rows (takes_of rfl rfl rfl rfl) (hr.mono (by first | decide | omega | (simp only [Nat.add_eq]; omega))) (ra_cons (re_var 2) (ra_cons (re_var 16) ra_nil))))) ra_nil)) (re_callB (call_reprA rfl hr) ca_repr T.b_repr (by rfl) (ra_cons (re_tup (ra_cons re_str (ra_cons (re_var 16) ra_nil))) ra_nil)) (nomark _)) (rss_one (rs_ret re_bl)) rss_nil)
  (rss_cons (rs_set 17 sc_law.nd (re_lst (ra_cons (re_tup (ra_cons re_int (ra_cons re_int ra_nil))) (ra_cons (re_callMC c__law_pick (takes_of rfl rfl rfl rfl) (hr.mono (by first | decide | omega | (simp only [Nat.add_eq]; omega))) (ra_cons (re_var 1) (ra_cons (re_lst (ra_cons re_non (ra_cons (re_tup (ra_cons re_int (ra_cons re_int ra_nil))) (ra_cons (re_tup (ra_cons re_int (ra_cons (re_add (re_pow re_int re_int) re_int) ra_nil))) (ra_cons (re_lst (ra_cons re_int (ra_cons re_int ra_nil))) (ra_cons (re_tup (ra_cons re_int ra_nil)) (ra_cons (re_tup (ra_cons re_bl (ra_cons re_int ra_nil))) ra_nil))))))) ra_nil))) ra_nil))))
  (rss_cons (rs_if (rt_cmp (op_neD hr.units) c2_ne (re_refM (k := 10) (a := "ask") (n := "e") (w0 := "") D_ref sc_ref rfl (by rfl) (by rfl) TB rfl hmT huT (hr.mono (by decide)) (by refine LamX.lamS_by ?_; show LamX.lamSB (defScope s_law) _ = true; decide +kernel) (fun A outer s H E f c_ hr => (re_callC c_on_bed (takes_of rfl rfl rfl rfl) (hr.mono (by first | decide | omega | (simp only [Nat.add_eq]; omega))) (ra_cons (re_var 17) (ra_cons re_non (ra_cons re_non ra_nil)))))) (re_tup (ra_cons re_str (ra_cons re_int ra_nil))) (nomark _)) (rss_one (rs_ret re_bl)) rss_nil)
  (rss_cons (rs_if (rt_cmp (op_neD hr.units) c2_ne (re_refM (k := 10) (a := "ask") (n := "e") (w0 := "") D_ref sc_ref rfl (by rfl) (by rfl) TB rfl hmT huT (hr.mono (by decide)) (by refine LamX.lamS_by ?_; show LamX.lamSB (defScope s_law) _ = true; decide +kernel) (fun A outer s H E f c_ hr => (re_callC c_least_rows (takes_of rfl rfl rfl rfl) (hr.mono (by first | decide | omega | (simp only [Nat.add_eq]; omega))) (ra_cons (re_var 17) (ra_cons re_non ra_nil))))) (re_tup (ra_cons re_str (ra_cons re_int ra_nil))) (nomark _)) (rss_one (rs_ret re_bl)) rss_nil)
  (rss_one (rs_ret (re_cmp (op_eqD hr.units) c2_eq (re_refM (k := 10) (a := "ask") (n := "e") (w0 := "") D_ref sc_ref rfl (by rfl) (by rfl) TB rfl hmT huT (hr.mono (by decide)) (by refine LamX.lamS_by ?_; show LamX.lamSB (defScope s_law) _ = true; decide +kernel) (fun A outer s H E f c_ hr => (re_callC c_on_bed (takes_of rfl rfl rfl rfl) (hr.mono (by first | decide | omega | (simp only [Nat.add_eq]; omega))) (ra_cons (re_callMC c__law_pick (takes_of rfl rfl rfl rfl) (hr.mono (by first | decide | omega | (simp only [Nat.add_eq]; omega))) (ra_cons (re_var 1) (ra_cons (re_lst (ra_cons re_non (ra_cons (re_lst ra_nil) (ra_cons (re_mul (re_lst (ra_cons (re_tup (ra_cons re_int (ra_cons re_int ra_nil))) ra_nil)) re_int) (ra_cons re_int ra_nil))))) ra_nil))) (ra_cons re_non (ra_cons re_non ra_nil)))))) (re_tup (ra_cons re_str (ra_cons (re_neg re_int) ra_nil))) (nomark _))))))))))))))))))))))))) hG e0 ht hs

end
end K22
end

section
set_option Elab.async false
set_option linter.all false
set_option maxRecDepth 100000
set_option maxHeartbeats 1000000
namespace K22
open PySem L2 FX TY
abbrev BedT := List (Int × Int) × List (Int × Int) × Int × Int
abbrev eBedL : BedT → T := fun b => .ins "Bed" [("sizes", eL (e2 T.int T.int) b.1), ("corners", eL (e2 T.int T.int) b.2.1), ("columns", .int b.2.2.1), ("rows", .int b.2.2.2)]
abbrev eBedQ : BedT → T := fun b => .ins "Bed" [("sizes", eQ (e2 T.int T.int) b.1), ("corners", eL (e2 T.int T.int) b.2.1), ("columns", .int b.2.2.1), ("rows", .int b.2.2.2)]

def F_is_integer (i : Int) : Res Bool := .ok true
theorem t_is_integer (i : Int) : PF m_is_integer [T.int i] (F_is_integer i) false T.bl := ⟨(fun h => nomatch h), .inr rfl⟩
def F_is_row__L (s : List (Int × Int)) : Res Bool := .ok true
theorem t_is_row__L (s : List (Int × Int)) : PF m_is_row [eL (e2 T.int T.int) s] (F_is_row__L s) false T.bl := ⟨(fun h => nomatch h), .inr rfl⟩
def F_is_row__Q (s : List (Int × Int)) : Res Bool := .ok true
theorem t_is_row__Q (s : List (Int × Int)) : PF m_is_row [eQ (e2 T.int T.int) s] (F_is_row__Q s) false T.bl := ⟨(fun h => nomatch h), .inr rfl⟩
def F_is_tuple_of__P (p : Int × Int) (n : Int) : Res Bool := if n = 2 then .ok true else .no
theorem t_is_tuple_of__P (p : Int × Int) (n : Int) : PF m_is_tuple_of [e2 T.int T.int p, T.int n] (F_is_tuple_of__P p n) false T.bl := by
  unfold F_is_tuple_of__P
  split
  · rename_i h; subst h; exact ⟨(fun h => nomatch h), .inr rfl⟩
  · exact True.intro
def F_is_within_ (thing_ : Int) (least_ : Int) (most_ : Int) : Fl Unit Unit Bool :=
  bnd (F_is_integer thing_) fun v1 =>
  bnd (if v1 = true then .ok ((decide (least_ ≤ thing_)) && (decide (thing_ ≤ most_))) else .ok false) fun b2 =>
  .rt b2
def F_is_within (thing_ : Int) (least_ : Int) (most_ : Int) : Res Bool := (F_is_within_ thing_ least_ most_).res
theorem t_is_within (thing_ : Int) (least_ : Int) (most_ : Int) : PF m_is_within [T.int thing_, T.int least_, T.int most_] (F_is_within thing_ least_ most_) false T.bl := pf_def rfl (by
  unfold g_is_within F_is_within_
  exact (s_ret (x_andv (x_call (a_cons (x_var rfl ⟨trivial, (a_nil (.mk (t_is_integer _) fun v1 => ⟨trivial, _, rfl, _, _, rfl, (x_v (t_chain (z := T.int most_) (decide (least_ ≤ thing_)) (decide (thing_ ≤ most_)) (x_var rfl ⟨trivial, (x_var rfl ⟨trivial, rfl, (x_var rfl ⟨rfl, trivial, rfl, rfl⟩), rfl, ⟨rfl, trivial, _, rfl, rfl⟩⟩)⟩))), fun b2 => ⟨_, false, rfl, Or.inr ⟨rfl, rfl⟩, rfl, (fun h => nomatch h)⟩⟩))⟩))))))

def F_check_number_ (number_ : Int) : Fl Unit Unit Unit :=
  bnd (F_is_within number_ (1 : Int) (100000 : Int)) fun v1 =>
  if (!v1) = true then .er ⟨"BadNumber", [("value", T.int number_)]⟩ else
  .rt ()
def F_check_number (number_ : Int) : Res Unit := (F_check_number_ number_).res
theorem t_check_number (number_ : Int) : PF m_check_number [T.int number_] (F_check_number number_) false eU := pf_def rfl (by
  unfold g_check_number F_check_number_
  exact (s_if (t_not (t_tru (x_call (a_cons (x_var rfl ⟨trivial, (a_cons (x_c ⟨trivial, (a_cons (x_c ⟨trivial, (a_nil (.mk (t_is_within _ _ _) fun v1 => (op_tru_b ⟨_, _, rfl, (s_raise (a_cons (x_var rfl ⟨trivial, a_nil ⟨_, rfl, rfl⟩⟩))), (s_nil ⟨_, rfl, rfl, rfl⟩)⟩)))⟩))⟩))⟩)))))))

def F_check_sizes__L_ (sizes_ : (List (Int × Int))) : Fl Unit Unit Unit :=
  bnd (F_is_row__L sizes_) fun v1 =>
  if ((!v1) || (!((decide ((1 : Int) ≤ ((sizes_).length : Int))) && (decide (((sizes_).length : Int) ≤ (5 : Int)))))) = true then .er ⟨"BadSizes", [("value", T.int (-(1 : Int)))]⟩ else
  Fl.fb (forF (fun a3 s2 => bnd (F_is_tuple_of__P a3.2 (2 : Int)) fun v4 =>
  bnd (if (!v4) = true then .ok true else bnd (lcR (fun a5 => .ok true) (fun a5 => bnd (F_is_within a5 (1 : Int) (10000 : Int)) fun v6 =>
  .ok v6) [a3.2.1, a3.2.2] []) fun l7 =>
  .ok (!((l7).all id))) fun b8 =>
  if b8 = true then .er ⟨"BadSizes", [("value", T.int a3.1)]⟩ else
  .nx ()) (enumP 0 sizes_) ()) fun s2 =>
  .rt ()
def F_check_sizes__L (sizes_ : (List (Int × Int))) : Res Unit := (F_check_sizes__L_ sizes_).res
theorem t_check_sizes__L (sizes_ : (List (Int × Int))) : PF m_check_sizes [(eL (e2 T.int T.int)) sizes_] (F_check_sizes__L sizes_) false eU := pf_def rfl (by
  unfold g_check_sizes F_check_sizes__L_
  exact (s_seq (s_if (t_or (!((decide ((1 : Int) ≤ ((sizes_).length : Int))) && (decide (((sizes_).length : Int) ≤ (5 : Int))))) (t_not (t_tru (x_call (a_cons (x_var rfl ⟨trivial, (a_nil (.mk (t_is_row__L _) fun v1 => (op_tru_b ⟨(t_not (t_chain (z := T.int (5 : Int)) (decide ((1 : Int) ≤ ((sizes_).length : Int))) (decide (((sizes_).length : Int) ≤ (5 : Int))) (x_c ⟨trivial, (x_cb (b_cons (x_var rfl (b_nil ⟨rfl, (op_len_l ⟨trivial, rfl, (x_c ⟨rfl, trivial, rfl, rfl⟩), rfl, ⟨rfl, rfl, rfl⟩⟩)⟩))))⟩))), ⟨_, _, rfl, (s_raise (a_cons (x_neg (x_c ⟨trivial, _, rfl, ⟨trivial, a_nil ⟨_, rfl, rfl⟩⟩⟩)))), (s_nil (s_for [1, 2] (e2 T.int (e2 T.int T.int)) (fun s2 : Unit => [.hold ((eL (e2 T.int T.int)) sizes_), .any, .any, .any]) (i_enum (a_cons (x_var rfl ⟨trivial, a_nil ⟨_, sizes_, (e2 T.int T.int), rfl, rfl, ⟨_, _, _, _, rfl, rfl, (.k (.a (.a (.a .nil)))), fun a3 s2 => ⟨_, (tg_tup (tg_cons (tg_name (by decide)) (tg_cons (tg_name (by decide)) tg_nil))), (s_if (t_orJ (t_not (t_tru (x_call (a_cons (x_var rfl ⟨trivial, (a_cons (x_c ⟨trivial, (a_nil (.mk (t_is_tuple_of__P _ _) fun v4 => (op_tru_b ⟨_, _, rfl, (t_not (t_tru (x_cb (b_cons (x_lc T.int T.bl (i_items (x_var rfl ⟨trivial, _, rfl, ⟨_, _, _, _, rfl, rfl, fun a5 => ⟨_, (tg_name (by decide)), (t_yes ⟨rfl, rfl⟩), (x_call (a_cons (x_var rfl ⟨trivial, (a_cons (x_c ⟨trivial, (a_cons (x_c ⟨trivial, (a_nil (.mk (t_is_within _ _ _) fun v6 => ⟨rfl, trivial, _, rfl, rfl⟩))⟩))⟩))⟩)))⟩, fun l7 => (b_nil ⟨rfl, (op_all (op_tru_b ⟨rfl, rfl⟩))⟩)⟩⟩))))))), fun b8 => ⟨_, _, rfl, (s_raise (a_cons (x_var rfl ⟨trivial, a_nil ⟨_, rfl, rfl⟩⟩))), (s_nil ⟨(), rfl, (.k (.a (.a (.a .nil))))⟩)⟩⟩)))⟩))⟩)))))))⟩, fun s2 => ⟨_, rfl, rfl, rfl⟩⟩⟩⟩)))))⟩⟩)))⟩)))))))))

def F_check_sizes__Q_ (sizes_ : (List (Int × Int))) : Fl Unit Unit Unit :=
  bnd (F_is_row__Q sizes_) fun v1 =>
  if ((!v1) || (!((decide ((1 : Int) ≤ ((sizes_).length : Int))) && (decide (((sizes_).length : Int) ≤ (5 : Int)))))) = true then .er ⟨"BadSizes", [("value", T.int (-(1 : Int)))]⟩ else
  Fl.fb (forF (fun a3 s2 => bnd (F_is_tuple_of__P a3.2 (2 : Int)) fun v4 =>
  bnd (if (!v4) = true then .ok true else bnd (lcR (fun a5 => .ok true) (fun a5 => bnd (F_is_within a5 (1 : Int) (10000 : Int)) fun v6 =>
  .ok v6) [a3.2.1, a3.2.2] []) fun l7 =>
  .ok (!((l7).all id))) fun b8 =>
  if b8 = true then .er ⟨"BadSizes", [("value", T.int a3.1)]⟩ else
  .nx ()) (enumP 0 sizes_) ()) fun s2 =>
  .rt ()
def F_check_sizes__Q (sizes_ : (List (Int × Int))) : Res Unit := (F_check_sizes__Q_ sizes_).res
theorem t_check_sizes__Q (sizes_ : (List (Int × Int))) : PF m_check_sizes [(eQ (e2 T.int T.int)) sizes_] (F_check_sizes__Q sizes_) false eU := pf_def rfl (by
  unfold g_check_sizes F_check_sizes__Q_
  exact (s_seq (s_if (t_or (!((decide ((1 : Int) ≤ ((sizes_).length : Int))) && (decide (((sizes_).length : Int) ≤ (5 : Int))))) (t_not (t_tru (x_call (a_cons (x_var rfl ⟨trivial, (a_nil (.mk (t_is_row__Q _) fun v1 => (op_tru_b ⟨(t_not (t_chain (z := T.int (5 : Int)) (decide ((1 : Int) ≤ ((sizes_).length : Int))) (decide (((sizes_).length : Int) ≤ (5 : Int))) (x_c ⟨trivial, (x_cb (b_cons (x_var rfl (b_nil ⟨rfl, (op_len_t ⟨trivial, rfl, (x_c ⟨rfl, trivial, rfl, rfl⟩), rfl, ⟨rfl, rfl, rfl⟩⟩)⟩))))⟩))), ⟨_, _, rfl, (s_raise (a_cons (x_neg (x_c ⟨trivial, _, rfl, ⟨trivial, a_nil ⟨_, rfl, rfl⟩⟩⟩)))), (s_nil (s_for [1, 2] (e2 T.int (e2 T.int T.int)) (fun s2 : Unit => [.hold ((eQ (e2 T.int T.int)) sizes_), .any, .any, .any]) (i_enum (a_cons (x_var rfl ⟨trivial, a_nil ⟨_, sizes_, (e2 T.int T.int), rfl, rfl, ⟨_, _, _, _, rfl, rfl, (.k (.a (.a (.a .nil)))), fun a3 s2 => ⟨_, (tg_tup (tg_cons (tg_name (by decide)) (tg_cons (tg_name (by decide)) tg_nil))), (s_if (t_orJ (t_not (t_tru (x_call (a_cons (x_var rfl ⟨trivial, (a_cons (x_c ⟨trivial, (a_nil (.mk (t_is_tuple_of__P _ _) fun v4 => (op_tru_b ⟨_, _, rfl, (t_not (t_tru (x_cb (b_cons (x_lc T.int T.bl (i_items (x_var rfl ⟨trivial, _, rfl, ⟨_, _, _, _, rfl, rfl, fun a5 => ⟨_, (tg_name (by decide)), (t_yes ⟨rfl, rfl⟩), (x_call (a_cons (x_var rfl ⟨trivial, (a_cons (x_c ⟨trivial, (a_cons (x_c ⟨trivial, (a_nil (.mk (t_is_within _ _ _) fun v6 => ⟨rfl, trivial, _, rfl, rfl⟩))⟩))⟩))⟩)))⟩, fun l7 => (b_nil ⟨rfl, (op_all (op_tru_b ⟨rfl, rfl⟩))⟩)⟩⟩))))))), fun b8 => ⟨_, _, rfl, (s_raise (a_cons (x_var rfl ⟨trivial, a_nil ⟨_, rfl, rfl⟩⟩))), (s_nil ⟨(), rfl, (.k (.a (.a (.a .nil))))⟩)⟩⟩)))⟩))⟩)))))))⟩, fun s2 => ⟨_, rfl, rfl, rfl⟩⟩⟩⟩)))))⟩⟩)))⟩)))))))))

def F_all_sums_ (numbers_ : (List Int)) : Fl Unit Unit (List Int) :=
  Fl.fb (forF (fun a2 s1 => Fl.fb (forF (fun a4 s3 => bnd (putR s3 (a4 + a2) true) fun l5 =>
  .nx l5) ((s1).map (·.1)) s1) fun s3 =>
  .nx s3) numbers_ [((0 : Int), true)]) fun s1 =>
  bnd (if (s1).length < 64 then .ok (sortI ((s1).map (·.1))) else .no) fun v6 =>
  .rt v6
def F_all_sums (numbers_ : (List Int)) : Res (List Int) := (F_all_sums_ numbers_).res
theorem t_all_sums (numbers_ : (List Int)) : PF m_all_sums [(eL T.int) numbers_] (F_all_sums numbers_) true (eL T.int) := pf_def rfl (by
  unfold g_all_sums F_all_sums_
  exact (s_seq (s_setO (x_d1 ⟨rfl, (s_seq (s_for [2] T.int (fun s1 : ((List (Int × Bool))) => [.hold ((eL T.int) numbers_), .own none ((dI T.bl) s1), .any, .any]) (i_items (x_var rfl ⟨trivial, _, rfl, ⟨_, _, _, _, rfl, rfl, (.k (.k (.a (.a .nil)))), fun a2 s1 => ⟨_, (tg_name (by decide)), (s_for [3] T.int (fun s3 : ((List (Int × Bool))) => [.hold ((eL T.int) numbers_), .own none ((dI T.bl) s3), .hold (T.int a2), .any]) (i_items (x_cb (b_cons (x_own rfl (b_nil ⟨rfl, (op_listA_di ⟨trivial, _, rfl, ⟨_, _, _, _, rfl, rfl, (.k (.k (.k (.a .nil)))), fun a4 s3 => ⟨_, (tg_name (by decide)), (s_store (x_c ⟨trivial, ⟨_, _, rfl⟩, (x_bin (x_var rfl ⟨trivial, (x_var rfl (op_add ⟨trivial, _, _, rfl, op_dput (v := true) fun l5 => ⟨l5, rfl, (.k (.k (.k (.a .nil))))⟩⟩))⟩))⟩))⟩, fun s3 => ⟨s3, rfl, (.k (.k (.a (.a .nil))))⟩⟩⟩)⟩))))))⟩, fun s1 => (s_ret (x_cb (b_cons (x_own rfl (b_nil ⟨rfl, (op_sortedA_di fun v6 => ⟨_, true, rfl, Or.inl rfl, rfl, (fun _ => rfl)⟩)⟩)))))⟩⟩))))⟩))))

def F_are_apart_ (corner_ : (Int × Int)) (size_ : (Int × Int)) (other_ : (Int × Int)) (other_size_ : (Int × Int)) : Fl Unit Unit Bool :=
  if ((decide ((corner_.1 + size_.1) ≤ other_.1)) || (decide ((other_.1 + other_size_.1) ≤ corner_.1))) = true then .rt true else
  bnd (if (decide ((corner_.2 + size_.2) ≤ other_.2)) = true then .ok true else .ok (decide ((other_.2 + other_size_.2) ≤ corner_.2))) fun b1 =>
  .rt b1
def F_are_apart (corner_ : (Int × Int)) (size_ : (Int × Int)) (other_ : (Int × Int)) (other_size_ : (Int × Int)) : Res Bool := (F_are_apart_ corner_ size_ other_ other_size_).res
theorem t_are_apart (corner_ : (Int × Int)) (size_ : (Int × Int)) (other_ : (Int × Int)) (other_size_ : (Int × Int)) : PF m_are_apart [(e2 T.int T.int) corner_, (e2 T.int T.int) size_, (e2 T.int T.int) other_, (e2 T.int T.int) other_size_] (F_are_apart corner_ size_ other_ other_size_) false T.bl := pf_def rfl (by
  unfold g_are_apart F_are_apart_
  exact (s_seq (s_if (t_or (decide ((other_.1 + other_size_.1) ≤ corner_.1)) (t_cmp (x_bin (x_bin (x_var rfl ⟨trivial, (x_c (op_ix_n (n := 0) rfl ⟨trivial, (x_bin (x_var rfl ⟨trivial, (x_c (op_ix_n (n := 0) rfl (op_add ⟨trivial, (x_bin (x_var rfl ⟨trivial, (x_c (op_ix_n (n := 0) rfl (op_cmp ⟨(t_cmp (x_bin (x_bin (x_var rfl ⟨trivial, (x_c (op_ix_n (n := 0) rfl ⟨trivial, (x_bin (x_var rfl ⟨trivial, (x_c (op_ix_n (n := 0) rfl (op_add ⟨trivial, (x_bin (x_var rfl ⟨trivial, (x_c (op_ix_n (n := 0) rfl (op_cmp ⟨rfl, rfl, rfl⟩)))⟩))⟩)))⟩))⟩))⟩)))), ⟨_, _, rfl, (s_ret (x_c ⟨_, false, rfl, Or.inr ⟨rfl, rfl⟩, rfl, (fun h => nomatch h)⟩)), (s_nil (s_ret (x_orv (x_bin (x_bin (x_bin (x_var rfl ⟨trivial, (x_c (op_ix_n (n := 1) rfl ⟨trivial, (x_bin (x_var rfl ⟨trivial, (x_c (op_ix_n (n := 1) rfl (op_add ⟨trivial, (x_bin (x_var rfl ⟨trivial, (x_c (op_ix_n (n := 1) rfl (opN_cm (op_cmp ⟨trivial, _, rfl, _, _, rfl, (x_bin (x_bin (x_bin (x_var rfl ⟨trivial, (x_c (op_ix_n (n := 1) rfl ⟨trivial, (x_bin (x_var rfl ⟨trivial, (x_c (op_ix_n (n := 1) rfl (op_add ⟨trivial, (x_bin (x_var rfl ⟨trivial, (x_c (op_ix_n (n := 1) rfl (opN_cm (op_cmp ⟨rfl, trivial, _, rfl, rfl⟩))))⟩))⟩)))⟩))⟩))⟩)))), fun b1 => ⟨_, false, rfl, Or.inr ⟨rfl, rfl⟩, rfl, (fun h => nomatch h)⟩⟩))))⟩))⟩)))⟩))⟩))⟩)))))))⟩⟩)))⟩))⟩)))⟩))⟩))⟩))))))))

def F_Bed____init____L_ (sizes_ : (List (Int × Int))) (columns_ : Int) (rows_ : Int) : Fl Unit Unit BedT :=
  bnd (lcR (fun a1 => .ok true) (fun a1 => .ok a1.1) sizes_ []) fun l2 =>
  bnd (F_all_sums l2) fun v3 =>
  bnd (extF (fun a4 => bnd (lcR (fun a5 => .ok true) (fun a5 => .ok a5.2) sizes_ []) fun l6 =>
  bnd (F_all_sums l6) fun v7 =>
  bnd (lcR (fun a8 => .ok true) (fun a8 => .ok (a4, a8)) v7 []) fun l9 =>
  .ok l9) v3 []) fun l10 =>
  .rt (sizes_, l10, columns_, rows_)
def F_Bed____init____L (sizes_ : (List (Int × Int))) (columns_ : Int) (rows_ : Int) : Res BedT := (F_Bed____init____L_ sizes_ columns_ rows_).res
theorem t_Bed____init____L (sizes_ : (List (Int × Int))) (columns_ : Int) (rows_ : Int) : MF m_Bed____init__ (.ins "Bed" []) [(eL (e2 T.int T.int)) sizes_, T.int columns_, T.int rows_] (F_Bed____init____L sizes_ columns_ rows_) false eBedL (fun _ => .non) := mf_def rfl (by
  unfold g_Bed____init__ F_Bed____init____L_
  exact (s_seq (s_setF (x_var rfl ⟨trivial, _, _, _, rfl, Nat.le_of_ble_eq_true rfl, rfl, (s_seq (s_ext [4] T.int (e2 T.int T.int) [.any, .hold ((eL (e2 T.int T.int)) sizes_), .hold (T.int columns_), .hold (T.int rows_), .any, .any, .any] rfl (Nat.le_of_ble_eq_true rfl) (i_items (x_call (a_cons (x_lc (e2 T.int T.int) T.int (i_items (x_var rfl ⟨trivial, _, rfl, ⟨_, _, _, _, rfl, rfl, fun a1 => ⟨_, (tg_name (by decide)), (t_yes ⟨rfl, rfl⟩), (x_bin (x_var rfl ⟨trivial, (x_c (op_ix_n (n := 0) rfl ⟨rfl, trivial, _, rfl, rfl⟩))⟩))⟩, fun l2 => ⟨trivial, (a_nil (.mk (t_all_sums _) fun v3 => ⟨trivial, _, rfl, ⟨_, _, _, rfl, rfl, (.a (.k (.k (.k (.a (.a (.a .nil))))))), fun a4 => ⟨_, (tg_name (by decide)), (.a (.k (.k (.k (.a (.a (.a .nil))))))), (x_lc T.int (e2 T.int T.int) (i_items (x_call (a_cons (x_lc (e2 T.int T.int) T.int (i_items (x_var rfl ⟨trivial, _, rfl, ⟨_, _, _, _, rfl, rfl, fun a5 => ⟨_, (tg_name (by decide)), (t_yes ⟨rfl, rfl⟩), (x_bin (x_var rfl ⟨trivial, (x_c (op_ix_n (n := 1) rfl ⟨rfl, trivial, _, rfl, rfl⟩))⟩))⟩, fun l6 => ⟨trivial, (a_nil (.mk (t_all_sums _) fun v7 => ⟨trivial, _, rfl, ⟨_, _, _, _, rfl, rfl, fun a8 => ⟨_, (tg_name (by decide)), (t_yes ⟨rfl, rfl⟩), (x_tup (a_cons (x_var rfl ⟨trivial, (a_cons (x_var rfl ⟨trivial, (a_nil ⟨Nat.le_of_ble_eq_true rfl, ⟨rfl, trivial, _, rfl, rfl⟩⟩)⟩))⟩)))⟩, fun l9 => ⟨rfl, trivial, _, rfl, rfl⟩⟩⟩))⟩⟩⟩)))))))⟩, fun l10 => ⟨_, rfl, (s_seq (s_setF (x_var rfl ⟨trivial, _, _, _, rfl, Nat.le_of_ble_eq_true rfl, rfl, (s_setF (x_var rfl ⟨trivial, _, _, eBedL (sizes_, l10, columns_, rows_), rfl, Nat.le_of_ble_eq_true rfl, rfl, ⟨_, rfl, rfl, rfl, rfl⟩⟩))⟩)))⟩⟩⟩))⟩⟩⟩))))))))⟩))))

def F_Bed____init____Q_ (sizes_ : (List (Int × Int))) (columns_ : Int) (rows_ : Int) : Fl Unit Unit BedT :=
  bnd (lcR (fun a1 => .ok true) (fun a1 => .ok a1.1) sizes_ []) fun l2 =>
  bnd (F_all_sums l2) fun v3 =>
  bnd (extF (fun a4 => bnd (lcR (fun a5 => .ok true) (fun a5 => .ok a5.2) sizes_ []) fun l6 =>
  bnd (F_all_sums l6) fun v7 =>
  bnd (lcR (fun a8 => .ok true) (fun a8 => .ok (a4, a8)) v7 []) fun l9 =>
  .ok l9) v3 []) fun l10 =>
  .rt (sizes_, l10, columns_, rows_)
def F_Bed____init____Q (sizes_ : (List (Int × Int))) (columns_ : Int) (rows_ : Int) : Res BedT := (F_Bed____init____Q_ sizes_ columns_ rows_).res
theorem t_Bed____init____Q (sizes_ : (List (Int × Int))) (columns_ : Int) (rows_ : Int) : MF m_Bed____init__ (.ins "Bed" []) [(eQ (e2 T.int T.int)) sizes_, T.int columns_, T.int rows_] (F_Bed____init____Q sizes_ columns_ rows_) false eBedQ (fun _ => .non) := mf_def rfl (by
  unfold g_Bed____init__ F_Bed____init____Q_
  exact (s_seq (s_setF (x_var rfl ⟨trivial, _, _, _, rfl, Nat.le_of_ble_eq_true rfl, rfl, (s_seq (s_ext [4] T.int (e2 T.int T.int) [.any, .hold ((eQ (e2 T.int T.int)) sizes_), .hold (T.int columns_), .hold (T.int rows_), .any, .any, .any] rfl (Nat.le_of_ble_eq_true rfl) (i_items (x_call (a_cons (x_lc (e2 T.int T.int) T.int (i_items (x_var rfl ⟨trivial, _, rfl, ⟨_, _, _, _, rfl, rfl, fun a1 => ⟨_, (tg_name (by decide)), (t_yes ⟨rfl, rfl⟩), (x_bin (x_var rfl ⟨trivial, (x_c (op_ix_n (n := 0) rfl ⟨rfl, trivial, _, rfl, rfl⟩))⟩))⟩, fun l2 => ⟨trivial, (a_nil (.mk (t_all_sums _) fun v3 => ⟨trivial, _, rfl, ⟨_, _, _, rfl, rfl, (.a (.k (.k (.k (.a (.a (.a .nil))))))), fun a4 => ⟨_, (tg_name (by decide)), (.a (.k (.k (.k (.a (.a (.a .nil))))))), (x_lc T.int (e2 T.int T.int) (i_items (x_call (a_cons (x_lc (e2 T.int T.int) T.int (i_items (x_var rfl ⟨trivial, _, rfl, ⟨_, _, _, _, rfl, rfl, fun a5 => ⟨_, (tg_name (by decide)), (t_yes ⟨rfl, rfl⟩), (x_bin (x_var rfl ⟨trivial, (x_c (op_ix_n (n := 1) rfl ⟨rfl, trivial, _, rfl, rfl⟩))⟩))⟩, fun l6 => ⟨trivial, (a_nil (.mk (t_all_sums _) fun v7 => ⟨trivial, _, rfl, ⟨_, _, _, _, rfl, rfl, fun a8 => ⟨_, (tg_name (by decide)), (t_yes ⟨rfl, rfl⟩), (x_tup (a_cons (x_var rfl ⟨trivial, (a_cons (x_var rfl ⟨trivial, (a_nil ⟨Nat.le_of_ble_eq_true rfl, ⟨rfl, trivial, _, rfl, rfl⟩⟩)⟩))⟩)))⟩, fun l9 => ⟨rfl, trivial, _, rfl, rfl⟩⟩⟩))⟩⟩⟩)))))))⟩, fun l10 => ⟨_, rfl, (s_seq (s_setF (x_var rfl ⟨trivial, _, _, _, rfl, Nat.le_of_ble_eq_true rfl, rfl, (s_setF (x_var rfl ⟨trivial, _, _, eBedQ (sizes_, l10, columns_, rows_), rfl, Nat.le_of_ble_eq_true rfl, rfl, ⟨_, rfl, rfl, rfl, rfl⟩⟩))⟩)))⟩⟩⟩))⟩⟩⟩))))))))⟩))))

def F_Bed__can_lie__L_ (self_ : BedT) (found_ : (List (Int × Int))) (corner_ : (Int × Int)) : Fl Unit Unit Bool :=
  bnd (ixR self_.1 ((found_).length : Int)) fun v1 =>
  if ((decide (self_.2.2.1 < (corner_.1 + v1.1))) || (decide (self_.2.2.2 < (corner_.2 + v1.2)))) = true then .rt false else
  bnd (lcR (fun a2 => .ok true) (fun a2 => bnd (ixR self_.1 a2.1) fun v3 =>
  bnd (F_are_apart corner_ v1 a2.2 v3) fun v4 =>
  .ok v4) (enumP 0 found_) []) fun l5 =>
  .rt ((l5).all id)
def F_Bed__can_lie__L (self_ : BedT) (found_ : (List (Int × Int))) (corner_ : (Int × Int)) : Res Bool := (F_Bed__can_lie__L_ self_ found_ corner_).res
theorem t_Bed__can_lie__L (self_ : BedT) (found_ : (List (Int × Int))) (corner_ : (Int × Int)) : PF m_Bed__can_lie [eBedL self_, (eQ (e2 T.int T.int)) found_, (e2 T.int T.int) corner_] (F_Bed__can_lie__L self_ found_ corner_) false T.bl := pf_def rfl (by
  unfold g_Bed__can_lie F_Bed__can_lie__L_
  exact (s_seq (s_set (x_bin (x_attr (x_var rfl ⟨_, _, rfl, rfl, ⟨trivial, (x_cb (b_cons (x_var rfl (b_nil ⟨rfl, (op_len_t (op_ix_l fun v1 => ⟨trivial, (s_seq (s_if (t_or (decide (self_.2.2.2 < (corner_.2 + v1.2))) (t_cmp (x_bin (x_bin (x_var rfl ⟨trivial, (x_c (op_ix_n (n := 0) rfl ⟨trivial, (x_bin (x_var rfl ⟨trivial, (x_c (op_ix_n (n := 0) rfl (op_add ⟨trivial, (x_attr (x_var rfl ⟨_, _, rfl, rfl, (op_cmp ⟨(t_cmp (x_bin (x_bin (x_var rfl ⟨trivial, (x_c (op_ix_n (n := 1) rfl ⟨trivial, (x_bin (x_var rfl ⟨trivial, (x_c (op_ix_n (n := 1) rfl (op_add ⟨trivial, (x_attr (x_var rfl ⟨_, _, rfl, rfl, (op_cmp ⟨rfl, rfl, rfl⟩)⟩))⟩)))⟩))⟩))⟩)))), ⟨_, _, rfl, (s_ret (x_c ⟨_, false, rfl, Or.inr ⟨rfl, rfl⟩, rfl, (fun h => nomatch h)⟩)), (s_nil (s_ret (x_cb (b_cons (x_lc (e2 T.int (e2 T.int T.int)) T.bl (i_enum (a_cons (x_var rfl ⟨trivial, a_nil ⟨_, found_, (e2 T.int T.int), rfl, rfl, ⟨_, _, _, _, rfl, rfl, fun a2 => ⟨_, (tg_tup (tg_cons (tg_name (by decide)) (tg_cons (tg_name (by decide)) tg_nil))), (t_yes ⟨rfl, rfl⟩), (x_call (a_cons (x_var rfl ⟨trivial, (a_cons (x_var rfl ⟨trivial, (a_cons (x_var rfl ⟨trivial, (a_cons (x_bin (x_attr (x_var rfl ⟨_, _, rfl, rfl, ⟨trivial, (x_var rfl (op_ix_l fun v3 => ⟨trivial, (a_nil (.mk (t_are_apart _ _ _ _) fun v4 => ⟨rfl, trivial, _, rfl, rfl⟩))⟩))⟩⟩))))⟩))⟩))⟩)))⟩, fun l5 => (b_nil ⟨rfl, (op_all ⟨_, false, rfl, Or.inr ⟨rfl, rfl⟩, rfl, (fun h => nomatch h)⟩)⟩)⟩⟩⟩))))))))⟩⟩)⟩))⟩)))⟩))⟩))⟩)))))))⟩))⟩))))⟩⟩))))))

def F_Bed__can_lie__Q_ (self_ : BedT) (found_ : (List (Int × Int))) (corner_ : (Int × Int)) : Fl Unit Unit Bool :=
  bnd (ixR self_.1 ((found_).length : Int)) fun v1 =>
  if ((decide (self_.2.2.1 < (corner_.1 + v1.1))) || (decide (self_.2.2.2 < (corner_.2 + v1.2)))) = true then .rt false else
  bnd (lcR (fun a2 => .ok true) (fun a2 => bnd (ixR self_.1 a2.1) fun v3 =>
  bnd (F_are_apart corner_ v1 a2.2 v3) fun v4 =>
  .ok v4) (enumP 0 found_) []) fun l5 =>
  .rt ((l5).all id)
def F_Bed__can_lie__Q (self_ : BedT) (found_ : (List (Int × Int))) (corner_ : (Int × Int)) : Res Bool := (F_Bed__can_lie__Q_ self_ found_ corner_).res
theorem t_Bed__can_lie__Q (self_ : BedT) (found_ : (List (Int × Int))) (corner_ : (Int × Int)) : PF m_Bed__can_lie [eBedQ self_, (eQ (e2 T.int T.int)) found_, (e2 T.int T.int) corner_] (F_Bed__can_lie__Q self_ found_ corner_) false T.bl := pf_def rfl (by
  unfold g_Bed__can_lie F_Bed__can_lie__Q_
  exact (s_seq (s_set (x_bin (x_attr (x_var rfl ⟨_, _, rfl, rfl, ⟨trivial, (x_cb (b_cons (x_var rfl (b_nil ⟨rfl, (op_len_t (op_ix_t fun v1 => ⟨trivial, (s_seq (s_if (t_or (decide (self_.2.2.2 < (corner_.2 + v1.2))) (t_cmp (x_bin (x_bin (x_var rfl ⟨trivial, (x_c (op_ix_n (n := 0) rfl ⟨trivial, (x_bin (x_var rfl ⟨trivial, (x_c (op_ix_n (n := 0) rfl (op_add ⟨trivial, (x_attr (x_var rfl ⟨_, _, rfl, rfl, (op_cmp ⟨(t_cmp (x_bin (x_bin (x_var rfl ⟨trivial, (x_c (op_ix_n (n := 1) rfl ⟨trivial, (x_bin (x_var rfl ⟨trivial, (x_c (op_ix_n (n := 1) rfl (op_add ⟨trivial, (x_attr (x_var rfl ⟨_, _, rfl, rfl, (op_cmp ⟨rfl, rfl, rfl⟩)⟩))⟩)))⟩))⟩))⟩)))), ⟨_, _, rfl, (s_ret (x_c ⟨_, false, rfl, Or.inr ⟨rfl, rfl⟩, rfl, (fun h => nomatch h)⟩)), (s_nil (s_ret (x_cb (b_cons (x_lc (e2 T.int (e2 T.int T.int)) T.bl (i_enum (a_cons (x_var rfl ⟨trivial, a_nil ⟨_, found_, (e2 T.int T.int), rfl, rfl, ⟨_, _, _, _, rfl, rfl, fun a2 => ⟨_, (tg_tup (tg_cons (tg_name (by decide)) (tg_cons (tg_name (by decide)) tg_nil))), (t_yes ⟨rfl, rfl⟩), (x_call (a_cons (x_var rfl ⟨trivial, (a_cons (x_var rfl ⟨trivial, (a_cons (x_var rfl ⟨trivial, (a_cons (x_bin (x_attr (x_var rfl ⟨_, _, rfl, rfl, ⟨trivial, (x_var rfl (op_ix_t fun v3 => ⟨trivial, (a_nil (.mk (t_are_apart _ _ _ _) fun v4 => ⟨rfl, trivial, _, rfl, rfl⟩))⟩))⟩⟩))))⟩))⟩))⟩)))⟩, fun l5 => (b_nil ⟨rfl, (op_all ⟨_, false, rfl, Or.inr ⟨rfl, rfl⟩, rfl, (fun h => nomatch h)⟩)⟩)⟩⟩⟩))))))))⟩⟩)⟩))⟩)))⟩))⟩))⟩)))))))⟩))⟩))))⟩⟩))))))

def F_Bed__filled__L_ (F_rec : BedT → (List (Int × Int)) → Res (Option (List (Int × Int)))) (self_ : BedT) (found_ : (List (Int × Int))) : Fl Unit Unit (Option (List (Int × Int))) :=
  if (decide (((found_).length : Int) = ((self_.1).length : Int))) = true then .rt (some found_) else
  Fl.fb (forF (fun a2 s1 => bnd (F_Bed__can_lie__L self_ found_ a2) fun v3 =>
  Fl.fb (if v3 = true then bnd (limR (found_ ++ [a2])) fun v5 =>
  bnd (F_rec self_ v5) fun v6 =>
  if (!(v6).isNone) = true then .rt v6 else
  .nx () else .nx ()) fun s4 =>
  .nx ()) self_.2.1 ()) fun s1 =>
  .rt none
def F_Bed__filled__L : Nat → BedT → (List (Int × Int)) → Res (Option (List (Int × Int)))
  | 0, _, _ => .no
  | n + 1, self_, found_ => (F_Bed__filled__L_ (F_Bed__filled__L n) self_ found_).res
theorem t_Bed__filled__L : ∀ (n : Nat) (self_ : BedT) (found_ : (List (Int × Int))), PF (m_Bed__filled n) [eBedL self_, (eQ (e2 T.int T.int)) found_] (F_Bed__filled__L n self_ found_) false (eO (eQ (e2 T.int T.int)))
  | 0, _, _ => True.intro
  | n + 1, self_, found_ => by
    have t_rec := t_Bed__filled__L n
    exact pf_def rfl (by
      unfold g_Bed__filled F_Bed__filled__L_
      exact (s_seq (s_if (t_cmp (x_cb (b_cons (x_var rfl (b_nil ⟨rfl, (op_len_t ⟨trivial, (x_cb (b_cons (x_attr (x_var rfl ⟨_, _, rfl, rfl, (b_nil ⟨rfl, (op_len_l (op_eq dtI ((found_).length : Int) ((self_.1).length : Int) ⟨_, _, rfl, (s_ret (x_var rfl ⟨_, false, rfl, Or.inr ⟨rfl, rfl⟩, rfl, (fun h => nomatch h)⟩)), (s_nil (s_seq (s_for [2] (e2 T.int T.int) (fun s1 : Unit => [.hold (eBedL self_), .hold ((eQ (e2 T.int T.int)) found_), .any, .any]) (i_items (x_attr (x_var rfl ⟨_, _, rfl, rfl, ⟨trivial, _, rfl, ⟨_, _, _, _, rfl, rfl, (.k (.k (.a (.a .nil)))), fun a2 s1 => ⟨_, (tg_name (by decide)), (s_ifJ (fun s4 : Unit => [.hold (eBedL self_), .hold ((eQ (e2 T.int T.int)) found_), .hold ((e2 T.int T.int) a2), .any]) (t_tru (x_meth (x_var rfl ⟨trivial, ⟨_, rfl, rfl⟩, (a_cons (x_var rfl ⟨trivial, (a_cons (x_var rfl ⟨trivial, (a_nil (.mk (t_Bed__can_lie__L _ _ _) fun v3 => (op_tru_b ⟨_, _, _, rfl, (s_seq (s_set (x_meth (x_var rfl ⟨trivial, ⟨_, rfl, rfl⟩, (a_cons (x_tupL (e2 T.int T.int) (a_star (x_var rfl ⟨_, rfl, (a_cons (x_var rfl ⟨trivial, (a_nil ⟨found_ ++ [a2], _, by simp, rfl, fun v5 => ⟨trivial, (a_nil (.mk (t_rec _ _) fun v6 => ⟨trivial, (s_if (t_cmp (x_var rfl ⟨trivial, (x_c (op_notN_o (fun a h => by cases h) ⟨_, _, rfl, (s_ret (x_var rfl ⟨_, false, rfl, Or.inr ⟨rfl, rfl⟩, rfl, (fun h => nomatch h)⟩)), (s_nil ⟨(), rfl, (.k (.k (.k (.a .nil))))⟩)⟩))⟩)))⟩))⟩⟩)⟩))⟩))))⟩)))), (s_nil ⟨(), rfl, (.k (.k (.k (.a .nil))))⟩), fun s4 => ⟨(), rfl, (.k (.k (.a (.a .nil))))⟩⟩)))⟩))⟩))⟩))))⟩, fun s1 => (s_ret (x_c ⟨_, false, rfl, Or.inr ⟨rfl, rfl⟩, rfl, (fun h => nomatch h)⟩))⟩⟩⟩))))))⟩))⟩)⟩))))⟩)⟩))))))))

def F_Bed__filled__Q_ (F_rec : BedT → (List (Int × Int)) → Res (Option (List (Int × Int)))) (self_ : BedT) (found_ : (List (Int × Int))) : Fl Unit Unit (Option (List (Int × Int))) :=
  if (decide (((found_).length : Int) = ((self_.1).length : Int))) = true then .rt (some found_) else
  Fl.fb (forF (fun a2 s1 => bnd (F_Bed__can_lie__Q self_ found_ a2) fun v3 =>
  Fl.fb (if v3 = true then bnd (limR (found_ ++ [a2])) fun v5 =>
  bnd (F_rec self_ v5) fun v6 =>
  if (!(v6).isNone) = true then .rt v6 else
  .nx () else .nx ()) fun s4 =>
  .nx ()) self_.2.1 ()) fun s1 =>
  .rt none
def F_Bed__filled__Q : Nat → BedT → (List (Int × Int)) → Res (Option (List (Int × Int)))
  | 0, _, _ => .no
  | n + 1, self_, found_ => (F_Bed__filled__Q_ (F_Bed__filled__Q n) self_ found_).res
theorem t_Bed__filled__Q : ∀ (n : Nat) (self_ : BedT) (found_ : (List (Int × Int))), PF (m_Bed__filled n) [eBedQ self_, (eQ (e2 T.int T.int)) found_] (F_Bed__filled__Q n self_ found_) false (eO (eQ (e2 T.int T.int)))
  | 0, _, _ => True.intro
  | n + 1, self_, found_ => by
    have t_rec := t_Bed__filled__Q n
    exact pf_def rfl (by
      unfold g_Bed__filled F_Bed__filled__Q_
      exact (s_seq (s_if (t_cmp (x_cb (b_cons (x_var rfl (b_nil ⟨rfl, (op_len_t ⟨trivial, (x_cb (b_cons (x_attr (x_var rfl ⟨_, _, rfl, rfl, (b_nil ⟨rfl, (op_len_t (op_eq dtI ((found_).length : Int) ((self_.1).length : Int) ⟨_, _, rfl, (s_ret (x_var rfl ⟨_, false, rfl, Or.inr ⟨rfl, rfl⟩, rfl, (fun h => nomatch h)⟩)), (s_nil (s_seq (s_for [2] (e2 T.int T.int) (fun s1 : Unit => [.hold (eBedQ self_), .hold ((eQ (e2 T.int T.int)) found_), .any, .any]) (i_items (x_attr (x_var rfl ⟨_, _, rfl, rfl, ⟨trivial, _, rfl, ⟨_, _, _, _, rfl, rfl, (.k (.k (.a (.a .nil)))), fun a2 s1 => ⟨_, (tg_name (by decide)), (s_ifJ (fun s4 : Unit => [.hold (eBedQ self_), .hold ((eQ (e2 T.int T.int)) found_), .hold ((e2 T.int T.int) a2), .any]) (t_tru (x_meth (x_var rfl ⟨trivial, ⟨_, rfl, rfl⟩, (a_cons (x_var rfl ⟨trivial, (a_cons (x_var rfl ⟨trivial, (a_nil (.mk (t_Bed__can_lie__Q _ _ _) fun v3 => (op_tru_b ⟨_, _, _, rfl, (s_seq (s_set (x_meth (x_var rfl ⟨trivial, ⟨_, rfl, rfl⟩, (a_cons (x_tupL (e2 T.int T.int) (a_star (x_var rfl ⟨_, rfl, (a_cons (x_var rfl ⟨trivial, (a_nil ⟨found_ ++ [a2], _, by simp, rfl, fun v5 => ⟨trivial, (a_nil (.mk (t_rec _ _) fun v6 => ⟨trivial, (s_if (t_cmp (x_var rfl ⟨trivial, (x_c (op_notN_o (fun a h => by cases h) ⟨_, _, rfl, (s_ret (x_var rfl ⟨_, false, rfl, Or.inr ⟨rfl, rfl⟩, rfl, (fun h => nomatch h)⟩)), (s_nil ⟨(), rfl, (.k (.k (.k (.a .nil))))⟩)⟩))⟩)))⟩))⟩⟩)⟩))⟩))))⟩)))), (s_nil ⟨(), rfl, (.k (.k (.k (.a .nil))))⟩), fun s4 => ⟨(), rfl, (.k (.k (.a (.a .nil))))⟩⟩)))⟩))⟩))⟩))))⟩, fun s1 => (s_ret (x_c ⟨_, false, rfl, Or.inr ⟨rfl, rfl⟩, rfl, (fun h => nomatch h)⟩))⟩⟩⟩))))))⟩))⟩)⟩))))⟩)⟩))))))))

def F__law_lie_ (F_rec : (List (Int × Int)) → Int → Int → (List (Int × Int)) → Res (Option (List (Int × Int)))) (sizes_ : (List (Int × Int))) (wide_ : Int) (deep_ : Int) (found_ : (List (Int × Int))) : Fl Unit Unit (Option (List (Int × Int))) :=
  if (decide (((found_).length : Int) = ((sizes_).length : Int))) = true then .rt (some found_) else
  bnd (ixR sizes_ ((found_).length : Int)) fun v1 =>
  bnd (rng 0 ((wide_ - v1.1) + (1 : Int))) fun l2 =>
  Fl.fb (forF (fun a4 s3 => bnd (rng 0 ((deep_ - v1.2) + (1 : Int))) fun l5 =>
  Fl.fb (forF (fun a7 s6 => Fl.fb (forF (fun a9 s8 => bnd (ixR sizes_ a9.1) fun v10 =>
  Fl.fb (if ((decide (a4 < (a9.2.1 + v10.1))) && ((decide (a9.2.1 < (a4 + v1.1))) && ((decide (a7 < (a9.2.2 + v10.2))) && (decide (a9.2.2 < (a7 + v1.2)))))) = true then .nx false else .nx s8) fun s11 =>
  .nx s11) (enumP 0 found_) true) fun s8 =>
  Fl.fb (if s8 = true then bnd (sizeR (found_.length + ([(a4, a7)] : (List (Int × Int))).length) (found_ ++ ([(a4, a7)] : (List (Int × Int))))) fun v13 =>
  bnd (F_rec sizes_ wide_ deep_ v13) fun v14 =>
  if (!(v14).isNone) = true then .rt v14 else
  .nx () else .nx ()) fun s12 =>
  .nx ()) l5 ()) fun s6 =>
  .nx ()) l2 ()) fun s3 =>
  .rt none
def F__law_lie : Nat → (List (Int × Int)) → Int → Int → (List (Int × Int)) → Res (Option (List (Int × Int)))
  | 0, _, _, _, _ => .no
  | n + 1, sizes_, wide_, deep_, found_ => (F__law_lie_ (F__law_lie n) sizes_ wide_ deep_ found_).res
theorem t__law_lie : ∀ (n : Nat) (sizes_ : (List (Int × Int))) (wide_ : Int) (deep_ : Int) (found_ : (List (Int × Int))), PF (m__law_lie n) [(eL (e2 T.int T.int)) sizes_, T.int wide_, T.int deep_, (eQ (e2 T.int T.int)) found_] (F__law_lie n sizes_ wide_ deep_ found_) false (eO (eQ (e2 T.int T.int)))
  | 0, _, _, _, _ => True.intro
  | n + 1, sizes_, wide_, deep_, found_ => by
    have t_rec := t__law_lie n
    exact pf_def rfl (by
      unfold g__law_lie F__law_lie_
      exact (s_seq (s_if (t_cmp (x_cb (b_cons (x_var rfl (b_nil ⟨rfl, (op_len_t ⟨trivial, (x_cb (b_cons (x_var rfl (b_nil ⟨rfl, (op_len_l (op_eq dtI ((found_).length : Int) ((sizes_).length : Int) ⟨_, _, rfl, (s_ret (x_var rfl ⟨_, false, rfl, Or.inr ⟨rfl, rfl⟩, rfl, (fun h => nomatch h)⟩)), (s_nil (s_seq (s_set (x_bin (x_var rfl ⟨trivial, (x_cb (b_cons (x_var rfl (b_nil ⟨rfl, (op_len_t (op_ix_l fun v1 => ⟨trivial, (s_seq (s_for [5] T.int (fun s3 : Unit => [.hold ((eL (e2 T.int T.int)) sizes_), .hold (T.int wide_), .hold (T.int deep_), .hold ((eQ (e2 T.int T.int)) found_), .hold ((e2 T.int T.int) v1), .any, .any, .any, .any, .any, .any, .any]) (i_range1 (a_cons (x_bin (x_bin (x_var rfl ⟨trivial, (x_bin (x_var rfl ⟨trivial, (x_c (op_ix_n (n := 0) rfl (op_sub ⟨trivial, (x_c (op_add ⟨trivial, (a_nil ⟨_, _, rfl, rfl, fun l2 => ⟨_, _, _, _, rfl, rfl, (.k (.k (.k (.k (.k (.a (.a (.a (.a (.a (.a (.a .nil)))))))))))), fun a4 s3 => ⟨_, (tg_name (by decide)), (s_for [6] T.int (fun s6 : Unit => [.hold ((eL (e2 T.int T.int)) sizes_), .hold (T.int wide_), .hold (T.int deep_), .hold ((eQ (e2 T.int T.int)) found_), .hold ((e2 T.int T.int) v1), .hold (T.int a4), .any, .any, .any, .any, .any, .any]) (i_range1 (a_cons (x_bin (x_bin (x_var rfl ⟨trivial, (x_bin (x_var rfl ⟨trivial, (x_c (op_ix_n (n := 1) rfl (op_sub ⟨trivial, (x_c (op_add ⟨trivial, (a_nil ⟨_, _, rfl, rfl, fun l5 => ⟨_, _, _, _, rfl, rfl, (.k (.k (.k (.k (.k (.k (.a (.a (.a (.a (.a (.a .nil)))))))))))), fun a7 s6 => ⟨_, (tg_name (by decide)), (s_seq (s_set (x_c ⟨trivial, (s_seq (s_for [8, 9] (e2 T.int (e2 T.int T.int)) (fun s8 : (Bool) => [.hold ((eL (e2 T.int T.int)) sizes_), .hold (T.int wide_), .hold (T.int deep_), .hold ((eQ (e2 T.int T.int)) found_), .hold ((e2 T.int T.int) v1), .hold (T.int a4), .hold (T.int a7), .hold (T.bl s8), .any, .any, .any, .any]) (i_enum (a_cons (x_var rfl ⟨trivial, a_nil ⟨_, found_, (e2 T.int T.int), rfl, rfl, ⟨_, _, _, _, rfl, rfl, (.k (.k (.k (.k (.k (.k (.k (.k (.a (.a (.a (.a .nil)))))))))))), fun a9 s8 => ⟨_, (tg_tup (tg_cons (tg_name (by decide)) (tg_cons (tg_name (by decide)) tg_nil))), (s_seq (s_set (x_bin (x_var rfl ⟨trivial, (x_var rfl (op_ix_l fun v10 => ⟨trivial, (s_ifJ (fun s11 : (Bool) => [.hold ((eL (e2 T.int T.int)) sizes_), .hold (T.int wide_), .hold (T.int deep_), .hold ((eQ (e2 T.int T.int)) found_), .hold ((e2 T.int T.int) v1), .hold (T.int a4), .hold (T.int a7), .hold (T.bl s11), .hold (T.int a9.1), .hold ((e2 T.int T.int) a9.2), .hold ((e2 T.int T.int) v10), .any]) (t_and ((decide (a9.2.1 < (a4 + v1.1))) && ((decide (a7 < (a9.2.2 + v10.2))) && (decide (a9.2.2 < (a7 + v1.2))))) (t_cmp (x_var rfl ⟨trivial, (x_bin (x_bin (x_var rfl ⟨trivial, (x_c (op_ix_n (n := 0) rfl ⟨trivial, (x_bin (x_var rfl ⟨trivial, (x_c (op_ix_n (n := 0) rfl (op_add (op_lt ⟨(t_and ((decide (a7 < (a9.2.2 + v10.2))) && (decide (a9.2.2 < (a7 + v1.2)))) (t_cmp (x_bin (x_var rfl ⟨trivial, (x_c (op_ix_n (n := 0) rfl ⟨trivial, (x_bin (x_var rfl ⟨trivial, (x_bin (x_var rfl ⟨trivial, (x_c (op_ix_n (n := 0) rfl (op_add (op_lt ⟨(t_and (decide (a9.2.2 < (a7 + v1.2))) (t_cmp (x_var rfl ⟨trivial, (x_bin (x_bin (x_var rfl ⟨trivial, (x_c (op_ix_n (n := 1) rfl ⟨trivial, (x_bin (x_var rfl ⟨trivial, (x_c (op_ix_n (n := 1) rfl (op_add (op_lt ⟨(t_cmp (x_bin (x_var rfl ⟨trivial, (x_c (op_ix_n (n := 1) rfl ⟨trivial, (x_bin (x_var rfl ⟨trivial, (x_bin (x_var rfl ⟨trivial, (x_c (op_ix_n (n := 1) rfl (op_add (op_lt ⟨rfl, rfl, rfl⟩))))⟩))⟩))⟩))⟩))), ⟨rfl, rfl, rfl⟩⟩))))⟩))⟩))⟩)))⟩))), ⟨rfl, rfl, rfl⟩⟩))))⟩))⟩))⟩))⟩)))), ⟨_, _, _, rfl, (s_set (x_c ⟨trivial, ⟨false, rfl, (.k (.k (.k (.k (.k (.k (.k (.k (.k (.k (.k (.a .nil))))))))))))⟩⟩)), (s_nil ⟨s8, rfl, (.k (.k (.k (.k (.k (.k (.k (.k (.k (.k (.k (.a .nil))))))))))))⟩), fun s11 => ⟨s11, rfl, (.k (.k (.k (.k (.k (.k (.k (.k (.a (.a (.a (.a .nil))))))))))))⟩⟩⟩))))⟩))⟩))⟩)))⟩))))⟩))⟩))))⟩, fun s8 => (s_ifJ (fun s12 : Unit => [.hold ((eL (e2 T.int T.int)) sizes_), .hold (T.int wide_), .hold (T.int deep_), .hold ((eQ (e2 T.int T.int)) found_), .hold ((e2 T.int T.int) v1), .hold (T.int a4), .hold (T.int a7), .hold (T.bl s8), .any, .any, .any, .any]) (t_tru (x_var rfl (op_tru_b ⟨_, _, _, rfl, (s_seq (s_set (x_call (a_cons (x_var rfl ⟨trivial, (a_cons (x_var rfl ⟨trivial, (a_cons (x_var rfl ⟨trivial, (a_cons (x_bin (x_var rfl ⟨trivial, (x_tup (a_cons (x_tup (a_cons (x_var rfl ⟨trivial, (a_cons (x_var rfl ⟨trivial, (a_nil ⟨Nat.le_of_ble_eq_true rfl, ⟨trivial, (a_nil ⟨Nat.le_of_ble_eq_true rfl, (op_cat_t (e := (e2 T.int T.int)) (a := found_) (b := ([(a4, a7)] : (List (Int × Int)))) fun v13 => ⟨trivial, (a_nil (.mk (t_rec _ _ _ _) fun v14 => ⟨trivial, (s_if (t_cmp (x_var rfl ⟨trivial, (x_c (op_notN_o (fun a h => by cases h) ⟨_, _, rfl, (s_ret (x_var rfl ⟨_, false, rfl, Or.inr ⟨rfl, rfl⟩, rfl, (fun h => nomatch h)⟩)), (s_nil ⟨(), rfl, (.k (.k (.k (.k (.k (.k (.k (.k (.a (.a (.a (.a .nil))))))))))))⟩)⟩))⟩)))⟩))⟩)⟩)⟩⟩)⟩))⟩)))))⟩)))⟩))⟩))⟩))))), (s_nil ⟨(), rfl, (.k (.k (.k (.k (.k (.k (.k (.k (.a (.a (.a (.a .nil))))))))))))⟩), fun s12 => ⟨(), rfl, (.k (.k (.k (.k (.k (.k (.a (.a (.a (.a (.a (.a .nil))))))))))))⟩⟩))))⟩⟩⟩)))))⟩)))⟩, fun s6 => ⟨(), rfl, (.k (.k (.k (.k (.k (.a (.a (.a (.a (.a (.a (.a .nil))))))))))))⟩⟩⟩)⟩))⟩)))⟩))⟩))))))⟩, fun s3 => (s_ret (x_c ⟨_, false, rfl, Or.inr ⟨rfl, rfl⟩, rfl, (fun h => nomatch h)⟩))⟩⟩)⟩))⟩)))⟩))⟩)))))))⟩))⟩))))⟩)))))⟩))⟩))))⟩)⟩))))))))

def F_on_bed__L_ (sizes_ : (List (Int × Int))) (columns_ : Int) (rows_ : Int) : Fl Unit Unit (Option (List (Int × Int))) :=
  bnd (F_check_sizes__L sizes_) fun v1 =>
  bnd (F_check_number columns_) fun v2 =>
  bnd (F_check_number rows_) fun v3 =>
  bnd (F_Bed____init____L sizes_ columns_ rows_) fun v4 =>
  bnd (F_Bed__filled__L 6 v4 ([] : (List (Int × Int)))) fun v5 =>
  .rt v5
def F_on_bed__L (sizes_ : (List (Int × Int))) (columns_ : Int) (rows_ : Int) : Res (Option (List (Int × Int))) := (F_on_bed__L_ sizes_ columns_ rows_).res
theorem t_on_bed__L (sizes_ : (List (Int × Int))) (columns_ : Int) (rows_ : Int) : PF m_on_bed [(eL (e2 T.int T.int)) sizes_, T.int columns_, T.int rows_] (F_on_bed__L sizes_ columns_ rows_) false (eO (eQ (e2 T.int T.int))) := pf_def rfl (by
  unfold g_on_bed F_on_bed__L_
  exact (s_seq (s_drop (x_call (a_cons (x_var rfl ⟨trivial, (a_nil (.mk (t_check_sizes__L _) fun v1 => (s_seq (s_drop (x_call (a_cons (x_var rfl ⟨trivial, (a_nil (.mk (t_check_number _) fun v2 => (s_seq (s_drop (x_call (a_cons (x_var rfl ⟨trivial, (a_nil (.mk (t_check_number _) fun v3 => (s_ret (x_meth (x_make (a_cons (x_var rfl ⟨trivial, (a_cons (x_var rfl ⟨trivial, (a_cons (x_var rfl ⟨trivial, (a_nil (.mk (t_Bed____init____L _ _ _) fun v4 => ⟨rfl, ⟨trivial, ⟨_, rfl, rfl⟩, (a_cons (x_tup (a_nil ⟨Nat.le_of_ble_eq_true rfl, ⟨trivial, (a_nil (.mk (t_Bed__filled__L 6 _ _) fun v5 => ⟨_, false, rfl, Or.inr ⟨rfl, rfl⟩, rfl, (fun h => nomatch h)⟩))⟩⟩)))⟩⟩))⟩))⟩))⟩)))))))⟩)))))))⟩)))))))⟩))))))

def F_on_bed__Q_ (sizes_ : (List (Int × Int))) (columns_ : Int) (rows_ : Int) : Fl Unit Unit (Option (List (Int × Int))) :=
  bnd (F_check_sizes__Q sizes_) fun v1 =>
  bnd (F_check_number columns_) fun v2 =>
  bnd (F_check_number rows_) fun v3 =>
  bnd (F_Bed____init____Q sizes_ columns_ rows_) fun v4 =>
  bnd (F_Bed__filled__Q 6 v4 ([] : (List (Int × Int)))) fun v5 =>
  .rt v5
def F_on_bed__Q (sizes_ : (List (Int × Int))) (columns_ : Int) (rows_ : Int) : Res (Option (List (Int × Int))) := (F_on_bed__Q_ sizes_ columns_ rows_).res
theorem t_on_bed__Q (sizes_ : (List (Int × Int))) (columns_ : Int) (rows_ : Int) : PF m_on_bed [(eQ (e2 T.int T.int)) sizes_, T.int columns_, T.int rows_] (F_on_bed__Q sizes_ columns_ rows_) false (eO (eQ (e2 T.int T.int))) := pf_def rfl (by
  unfold g_on_bed F_on_bed__Q_
  exact (s_seq (s_drop (x_call (a_cons (x_var rfl ⟨trivial, (a_nil (.mk (t_check_sizes__Q _) fun v1 => (s_seq (s_drop (x_call (a_cons (x_var rfl ⟨trivial, (a_nil (.mk (t_check_number _) fun v2 => (s_seq (s_drop (x_call (a_cons (x_var rfl ⟨trivial, (a_nil (.mk (t_check_number _) fun v3 => (s_ret (x_meth (x_make (a_cons (x_var rfl ⟨trivial, (a_cons (x_var rfl ⟨trivial, (a_cons (x_var rfl ⟨trivial, (a_nil (.mk (t_Bed____init____Q _ _ _) fun v4 => ⟨rfl, ⟨trivial, ⟨_, rfl, rfl⟩, (a_cons (x_tup (a_nil ⟨Nat.le_of_ble_eq_true rfl, ⟨trivial, (a_nil (.mk (t_Bed__filled__Q 6 _ _) fun v5 => ⟨_, false, rfl, Or.inr ⟨rfl, rfl⟩, rfl, (fun h => nomatch h)⟩))⟩⟩)))⟩⟩))⟩))⟩))⟩)))))))⟩)))))))⟩)))))))⟩))))))

def F_least_rows__L_ (sizes_ : (List (Int × Int))) (columns_ : Int) : Fl Unit Unit (Option Int) :=
  bnd (F_check_sizes__L sizes_) fun v1 =>
  bnd (F_check_number columns_) fun v2 =>
  bnd (lcR (fun a3 => .ok true) (fun a3 => .ok a3.1) sizes_ []) fun l4 =>
  bnd (maxR (fun a b : Int => decide (a < b)) l4) fun v5 =>
  if (decide (columns_ < v5)) = true then .rt none else
  bnd (lcR (fun a6 => .ok true) (fun a6 => .ok a6.2) sizes_ []) fun l7 =>
  bnd (F_all_sums l7) fun v8 =>
  Fl.fb (forF (fun a10 s9 => bnd (F_Bed____init____L sizes_ columns_ a10) fun v11 =>
  bnd (F_Bed__filled__L 6 v11 ([] : (List (Int × Int)))) fun v12 =>
  if (!(v12).isNone) = true then .rt (some a10) else
  .nx ()) v8 ()) fun s9 =>
  .rt none
def F_least_rows__L (sizes_ : (List (Int × Int))) (columns_ : Int) : Res (Option Int) := (F_least_rows__L_ sizes_ columns_).res
theorem t_least_rows__L (sizes_ : (List (Int × Int))) (columns_ : Int) : PF m_least_rows [(eL (e2 T.int T.int)) sizes_, T.int columns_] (F_least_rows__L sizes_ columns_) false (eO T.int) := pf_def rfl (by
  unfold g_least_rows F_least_rows__L_
  exact (s_seq (s_drop (x_call (a_cons (x_var rfl ⟨trivial, (a_nil (.mk (t_check_sizes__L _) fun v1 => (s_seq (s_drop (x_call (a_cons (x_var rfl ⟨trivial, (a_nil (.mk (t_check_number _) fun v2 => (s_seq (s_if (t_cmp (x_cb (b_cons (x_lc (e2 T.int T.int) T.int (i_items (x_var rfl ⟨trivial, _, rfl, ⟨_, _, _, _, rfl, rfl, fun a3 => ⟨_, (tg_name (by decide)), (t_yes ⟨rfl, rfl⟩), (x_bin (x_var rfl ⟨trivial, (x_c (op_ix_n (n := 0) rfl ⟨rfl, trivial, _, rfl, rfl⟩))⟩))⟩, fun l4 => (b_nil ⟨rfl, (op_max odI fun v5 => ⟨trivial, (x_var rfl (op_cmp ⟨_, _, rfl, (s_ret (x_c ⟨_, false, rfl, Or.inr ⟨rfl, rfl⟩, rfl, (fun h => nomatch h)⟩)), (s_nil (s_seq (s_for [3] T.int (fun s9 : Unit => [.hold ((eL (e2 T.int T.int)) sizes_), .hold (T.int columns_), .any, .any]) (i_items (x_call (a_cons (x_lc (e2 T.int T.int) T.int (i_items (x_var rfl ⟨trivial, _, rfl, ⟨_, _, _, _, rfl, rfl, fun a6 => ⟨_, (tg_name (by decide)), (t_yes ⟨rfl, rfl⟩), (x_bin (x_var rfl ⟨trivial, (x_c (op_ix_n (n := 1) rfl ⟨rfl, trivial, _, rfl, rfl⟩))⟩))⟩, fun l7 => ⟨trivial, (a_nil (.mk (t_all_sums _) fun v8 => ⟨trivial, _, rfl, ⟨_, _, _, _, rfl, rfl, (.k (.k (.a (.a .nil)))), fun a10 s9 => ⟨_, (tg_name (by decide)), (s_if (t_cmp (x_meth (x_make (a_cons (x_var rfl ⟨trivial, (a_cons (x_var rfl ⟨trivial, (a_cons (x_var rfl ⟨trivial, (a_nil (.mk (t_Bed____init____L _ _ _) fun v11 => ⟨rfl, ⟨trivial, ⟨_, rfl, rfl⟩, (a_cons (x_tup (a_nil ⟨Nat.le_of_ble_eq_true rfl, ⟨trivial, (a_nil (.mk (t_Bed__filled__L 6 _ _) fun v12 => ⟨trivial, (x_c (op_notN_o (fun a h => by cases h) ⟨_, _, rfl, (s_ret (x_var rfl ⟨_, false, rfl, Or.inr ⟨rfl, rfl⟩, rfl, (fun h => nomatch h)⟩)), (s_nil ⟨(), rfl, (.k (.k (.a (.a .nil))))⟩)⟩))⟩))⟩⟩)))⟩⟩))⟩))⟩))⟩))))))⟩, fun s9 => (s_ret (x_c ⟨_, false, rfl, Or.inr ⟨rfl, rfl⟩, rfl, (fun h => nomatch h)⟩))⟩⟩))⟩⟩⟩)))))))))⟩))⟩)⟩)⟩⟩))))))))))⟩)))))))⟩))))))

def F_least_rows__Q_ (sizes_ : (List (Int × Int))) (columns_ : Int) : Fl Unit Unit (Option Int) :=
  bnd (F_check_sizes__Q sizes_) fun v1 =>
  bnd (F_check_number columns_) fun v2 =>
  bnd (lcR (fun a3 => .ok true) (fun a3 => .ok a3.1) sizes_ []) fun l4 =>
  bnd (maxR (fun a b : Int => decide (a < b)) l4) fun v5 =>
  if (decide (columns_ < v5)) = true then .rt none else
  bnd (lcR (fun a6 => .ok true) (fun a6 => .ok a6.2) sizes_ []) fun l7 =>
  bnd (F_all_sums l7) fun v8 =>
  Fl.fb (forF (fun a10 s9 => bnd (F_Bed____init____Q sizes_ columns_ a10) fun v11 =>
  bnd (F_Bed__filled__Q 6 v11 ([] : (List (Int × Int)))) fun v12 =>
  if (!(v12).isNone) = true then .rt (some a10) else
  .nx ()) v8 ()) fun s9 =>
  .rt none
def F_least_rows__Q (sizes_ : (List (Int × Int))) (columns_ : Int) : Res (Option Int) := (F_least_rows__Q_ sizes_ columns_).res
theorem t_least_rows__Q (sizes_ : (List (Int × Int))) (columns_ : Int) : PF m_least_rows [(eQ (e2 T.int T.int)) sizes_, T.int columns_] (F_least_rows__Q sizes_ columns_) false (eO T.int) := pf_def rfl (by
  unfold g_least_rows F_least_rows__Q_
  exact (s_seq (s_drop (x_call (a_cons (x_var rfl ⟨trivial, (a_nil (.mk (t_check_sizes__Q _) fun v1 => (s_seq (s_drop (x_call (a_cons (x_var rfl ⟨trivial, (a_nil (.mk (t_check_number _) fun v2 => (s_seq (s_if (t_cmp (x_cb (b_cons (x_lc (e2 T.int T.int) T.int (i_items (x_var rfl ⟨trivial, _, rfl, ⟨_, _, _, _, rfl, rfl, fun a3 => ⟨_, (tg_name (by decide)), (t_yes ⟨rfl, rfl⟩), (x_bin (x_var rfl ⟨trivial, (x_c (op_ix_n (n := 0) rfl ⟨rfl, trivial, _, rfl, rfl⟩))⟩))⟩, fun l4 => (b_nil ⟨rfl, (op_max odI fun v5 => ⟨trivial, (x_var rfl (op_cmp ⟨_, _, rfl, (s_ret (x_c ⟨_, false, rfl, Or.inr ⟨rfl, rfl⟩, rfl, (fun h => nomatch h)⟩)), (s_nil (s_seq (s_for [3] T.int (fun s9 : Unit => [.hold ((eQ (e2 T.int T.int)) sizes_), .hold (T.int columns_), .any, .any]) (i_items (x_call (a_cons (x_lc (e2 T.int T.int) T.int (i_items (x_var rfl ⟨trivial, _, rfl, ⟨_, _, _, _, rfl, rfl, fun a6 => ⟨_, (tg_name (by decide)), (t_yes ⟨rfl, rfl⟩), (x_bin (x_var rfl ⟨trivial, (x_c (op_ix_n (n := 1) rfl ⟨rfl, trivial, _, rfl, rfl⟩))⟩))⟩, fun l7 => ⟨trivial, (a_nil (.mk (t_all_sums _) fun v8 => ⟨trivial, _, rfl, ⟨_, _, _, _, rfl, rfl, (.k (.k (.a (.a .nil)))), fun a10 s9 => ⟨_, (tg_name (by decide)), (s_if (t_cmp (x_meth (x_make (a_cons (x_var rfl ⟨trivial, (a_cons (x_var rfl ⟨trivial, (a_cons (x_var rfl ⟨trivial, (a_nil (.mk (t_Bed____init____Q _ _ _) fun v11 => ⟨rfl, ⟨trivial, ⟨_, rfl, rfl⟩, (a_cons (x_tup (a_nil ⟨Nat.le_of_ble_eq_true rfl, ⟨trivial, (a_nil (.mk (t_Bed__filled__Q 6 _ _) fun v12 => ⟨trivial, (x_c (op_notN_o (fun a h => by cases h) ⟨_, _, rfl, (s_ret (x_var rfl ⟨_, false, rfl, Or.inr ⟨rfl, rfl⟩, rfl, (fun h => nomatch h)⟩)), (s_nil ⟨(), rfl, (.k (.k (.a (.a .nil))))⟩)⟩))⟩))⟩⟩)))⟩⟩))⟩))⟩))⟩))))))⟩, fun s9 => (s_ret (x_c ⟨_, false, rfl, Or.inr ⟨rfl, rfl⟩, rfl, (fun h => nomatch h)⟩))⟩⟩))⟩⟩⟩)))))))))⟩))⟩)⟩)⟩⟩))))))))))⟩)))))))⟩))))))

abbrev F__law_taken (r : Row) (m : Int) : Res (Row × Int) := F_taken r m
theorem t__law_taken (r : Row) (m : Int) : MF m__law_taken (eRow r) [T.int m] (F__law_taken r m) false (fun p => eRow p.1) (fun p => T.int p.2) := ty_taken r m
def F__law_pick {α : Type} (r : Row) (xs : List α) : Res (Row × α) := (F_pick_ r xs).res
theorem t__law_pick {α : Type} {e : α → T} (r : Row) (xs : List α) : MF m__law_pick (eRow r) [eL e xs] (F__law_pick r xs) false (fun p => eRow p.1) (fun p => e p.2) := by
  unfold F__law_pick
  exact ty_pick r xs
theorem t__law_pickD (r : Row) (xs : List T) : MF m__law_pick (eRow r) [.lst xs] (F__law_pick r xs) false (fun p => eRow p.1) (fun p => p.2) := by
  have h := ty_pick (e := fun t => t) r xs
  rw [List.map_id'] at h
  unfold F__law_pick
  exact h
theorem c__law_pickD {β : Type} [OutC β] (r : Row) (xs : List T) {L : T → Kd → T → β → Prop} {K : Row × T → β} (h : ∀ p : Row × T, L (eRow p.1) .e p.2 (K p)) : CLM (α := Row × T) m__law_pick (eRow r) [T.lst xs] L (bndN (F__law_pick r xs) K) := by
  refine CLM.mk (o := false) (e1 := fun p => eRow p.1) (e2 := fun p => p.2) ?_ fun p => h p
  exact t__law_pickD r xs
def F__law_alike (n : Nat) (a b : T) : Res Bool := embB (m__law_alike n) [a, b]
theorem t__law_alike (n : Nat) (a b : T) : PF (m__law_alike n) [eD a, eD b] (F__law_alike n a b) false T.bl := t_embB _ _
def F_check_number__D (t : T) : Res T := embP m_check_number [t]
theorem t_check_number__D (t : T) : PF m_check_number [eD t] (F_check_number__D t) false eD := t_emb _ _
def F_on_bed__D (a b c : T) : Res T := embP m_on_bed [a, b, c]
theorem t_on_bed__D (a b c : T) : PF m_on_bed [eD a, eD b, eD c] (F_on_bed__D a b c) false eD := t_emb _ _
def F_least_rows__D (a b : T) : Res T := embP m_least_rows [a, b]
theorem t_least_rows__D (a b : T) : PF m_least_rows [eD a, eD b] (F_least_rows__D a b) false eD := t_emb _ _
def F_on_bed__LD_ (sizes_ : (List (Int × Int))) (columns_ : T) (rows_ : T) : Fl Unit Unit (Option (List (Int × Int))) :=
  bnd (F_check_sizes__L sizes_) fun v1 =>
  bnd (F_check_number__D columns_) fun v2 =>
  bnd (F_check_number__D rows_) fun v3 =>
  .no
def F_on_bed__LD (sizes_ : (List (Int × Int))) (columns_ : T) (rows_ : T) : Res (Option (List (Int × Int))) := (F_on_bed__LD_ sizes_ columns_ rows_).res
theorem t_on_bed__LD (sizes_ : (List (Int × Int))) (columns_ : T) (rows_ : T) : PF m_on_bed [(eL (e2 T.int T.int)) sizes_, eD columns_, eD rows_] (F_on_bed__LD sizes_ columns_ rows_) false (eO (eQ (e2 T.int T.int))) := pf_def rfl (by
  unfold g_on_bed F_on_bed__LD_
  exact (s_seq (s_drop (x_call (a_cons (x_var rfl ⟨trivial, (a_nil (.mk (t_check_sizes__L _) fun v1 => (s_seq (s_drop (x_call (a_cons (x_var rfl ⟨trivial, (a_nil (.mk (t_check_number__D _) fun v2 => (s_seq (s_drop (x_call (a_cons (x_var rfl ⟨trivial, (a_nil (.mk (t_check_number__D _) fun v3 => s_no))⟩)))))))⟩)))))))⟩))))))

def F_least_rows__LD_ (sizes_ : (List (Int × Int))) (columns_ : T) : Fl Unit Unit (Option Int) :=
  bnd (F_check_sizes__L sizes_) fun v1 =>
  bnd (F_check_number__D columns_) fun v2 =>
  .no
def F_least_rows__LD (sizes_ : (List (Int × Int))) (columns_ : T) : Res (Option Int) := (F_least_rows__LD_ sizes_ columns_).res
theorem t_least_rows__LD (sizes_ : (List (Int × Int))) (columns_ : T) : PF m_least_rows [(eL (e2 T.int T.int)) sizes_, eD columns_] (F_least_rows__LD sizes_ columns_) false (eO T.int) := pf_def rfl (by
  unfold g_least_rows F_least_rows__LD_
  exact (s_seq (s_drop (x_call (a_cons (x_var rfl ⟨trivial, (a_nil (.mk (t_check_sizes__L _) fun v1 => (s_seq (s_drop (x_call (a_cons (x_var rfl ⟨trivial, (a_nil (.mk (t_check_number__D _) fun v2 => (s_seq s_no)))⟩)))))))⟩))))))

noncomputable def F_law_ (script_ : List Int) : Fl Unit Unit Bool :=
  bndN (F__law_taken ((script_, (0 : Int), (122 : Int), (0 : Int)) : Row) (4 : Int)) fun p1 =>
  bndN (F__law_taken p1.1 (6 : Int)) fun p2 =>
  bnd (rng 0 (((1 : Int) + p1.2) + (if (decide (p2.2 = (0 : Int))) = true then (1 : Int) else (0 : Int)))) fun l3 =>
  Fl.fb (forF (fun a5 s4 => bndN (F__law_taken s4.2 (3 : Int)) fun p6 =>
  bndN (F__law_taken p6.1 (3 : Int)) fun p7 =>
  bnd (appR s4.1 (((1 : Int) + p6.2), ((1 : Int) + p7.2))) fun l8 =>
  .nx (l8, p7.1)) l3 (([] : (List (Int × Int))), p2.1)) fun s4 =>
  bndN (F__law_taken s4.2 (6 : Int)) fun p9 =>
  bndN (F__law_taken p9.1 (5 : Int)) fun p10 =>
  bnd (F__law_lie 6 s4.1 ((1 : Int) + p9.2) ((1 : Int) + p10.2) ([] : (List (Int × Int)))) fun v11 =>
  bnd (F_on_bed__Q s4.1 ((1 : Int) + p9.2) ((1 : Int) + p10.2)) fun v12 =>
  bnd (F__law_alike 10 ((eO (eQ (e2 T.int T.int))) v12) ((eO (eQ (e2 T.int T.int))) v11)) fun v13 =>
  if (!v13) = true then .rt false else
  bndN (F__law_taken p10.1 (3000 : Int)) fun p14 =>
  bnd (.ok ((1 : Int) + p14.2)) fun times15 =>
  bnd (lcR (fun a16 => .ok true) (fun a16 => bnd (mulR a16.1 times15) fun v17 =>
  bnd (mulR a16.2 times15) fun v18 =>
  .ok (v17, v18)) s4.1 []) fun l19 =>
  bnd (if ((v11).isNone) = true then .ok none else bnd (optR v11) fun l20 =>
  bnd (lcR (fun a21 => .ok true) (fun a21 => bnd (mulR a21.1 times15) fun v22 =>
  bnd (mulR a21.2 times15) fun v23 =>
  .ok (v22, v23)) l20 []) fun l24 =>
  .ok (some l24)) fun v25 =>
  bnd (mulR ((1 : Int) + p9.2) times15) fun v26 =>
  bnd (mulR ((1 : Int) + p10.2) times15) fun v27 =>
  bnd (F_on_bed__L l19 v26 v27) fun v28 =>
  bnd (F__law_alike 10 ((eO (eQ (e2 T.int T.int))) v28) ((eO (eQ (e2 T.int T.int))) v25)) fun v29 =>
  if (!v29) = true then .rt false else
  bnd (mulR (3 : Int) ((s4.1).length : Int)) fun v30 =>
  bnd (rng (1 : Int) (v30 + (1 : Int))) fun l31 =>
  Fl.fb (forF (fun a33 s32 => bnd (if ((s32).isNone) = true then bnd (F__law_lie 6 s4.1 ((1 : Int) + p9.2) a33 ([] : (List (Int × Int)))) fun v34 =>
  .ok (!(v34).isNone) else .ok false) fun b35 =>
  Fl.fb (if b35 = true then bnd (.ok (some a33)) fun best37 =>
  .nx best37 else .nx s32) fun s36 =>
  .nx s36) l31 none) fun s32 =>
  bnd (F_least_rows__L s4.1 ((1 : Int) + p9.2)) fun v38 =>
  bnd (F__law_alike 10 ((eO T.int) v38) ((eO T.int) s32)) fun v39 =>
  bnd (if (!v39) = true then .ok true else bnd (mulR ((1 : Int) + p9.2) times15) fun v40 =>
  bnd (F_least_rows__L l19 v40) fun v41 =>
  bnd (if ((s32).isNone) = true then .ok none else bnd (optR s32) fun l42 =>
  bnd (mulR l42 times15) fun v43 =>
  .ok (some v43)) fun v44 =>
  bnd (optR (cNe ((eO T.int) v41) ((eO T.int) v44))) fun b45 =>
  .ok b45) fun b46 =>
  if b46 = true then .rt false else
  bnd (powR (10 : Int) (5 : Int)) fun v47 =>
  bndN (F__law_pick p14.1 ([(T.int (0 : Int)), (T.int (v47 + (1 : Int))), (eU ()), (T.bl true)] : (List T))) fun p48 =>
  bnd (ref3 [("BadNumber", "number"), ("BadSizes", "sizes")] "" (.ok ((), (F_on_bed__LD s4.1 p48.2 p48.2).map fun _ => ()))) fun p49 =>
  bnd (nvR (bRepr [((e2 T.str eD) p49.2)])) fun v50 =>
  bnd (nvR (bRepr [((e2 T.str eD) ("number", p48.2))])) fun v51 =>
  bnd (optR (cNe v50 v51)) fun b52 =>
  if b52 = true then .rt false else
  bnd (ref3 [("BadNumber", "number"), ("BadSizes", "sizes")] "" (.ok ((), (F_on_bed__LD s4.1 (T.int (5 : Int)) p48.2).map fun _ => ()))) fun p53 =>
  bnd (nvR (bRepr [((e2 T.str eD) p53.2)])) fun v54 =>
  bnd (nvR (bRepr [((e2 T.str eD) ("number", p48.2))])) fun v55 =>
  bnd (optR (cNe v54 v55)) fun b56 =>
  if b56 = true then .rt false else
  bnd (ref3 [("BadNumber", "number"), ("BadSizes", "sizes")] "" (.ok ((), (F_least_rows__LD s4.1 p48.2).map fun _ => ()))) fun p57 =>
  bnd (nvR (bRepr [((e2 T.str eD) p57.2)])) fun v58 =>
  bnd (nvR (bRepr [((e2 T.str eD) ("number", p48.2))])) fun v59 =>
  bnd (optR (cNe v58 v59)) fun b60 =>
  if b60 = true then .rt false else
  bnd (powR (10 : Int) (4 : Int)) fun v61 =>
  bndN (F__law_pick p48.1 ([(eU ()), ((e2 T.int T.int) ((0 : Int), (1 : Int))), ((e2 T.int T.int) ((1 : Int), (v61 + (1 : Int)))), ((eL T.int) ([(1 : Int), (1 : Int)] : (List Int))), ((eQ T.int) [(1 : Int)]), ((e2 T.bl T.int) (true, (1 : Int)))] : (List T))) fun p62 =>
  bnd (ref3 [("BadNumber", "number"), ("BadSizes", "sizes")] "" (.ok ((), (F_on_bed__D ((eL eD) ([((e2 T.int T.int) ((1 : Int), (1 : Int))), p62.2] : (List T))) (eU ()) (eU ())).map fun _ => ()))) fun p63 =>
  bnd (optR (cNe ((e2 T.str eD) p63.2) ((e2 T.str eD) ("sizes", (T.int (1 : Int)))))) fun b64 =>
  if b64 = true then .rt false else
  bnd (ref3 [("BadNumber", "number"), ("BadSizes", "sizes")] "" (.ok ((), (F_least_rows__D ((eL eD) ([((e2 T.int T.int) ((1 : Int), (1 : Int))), p62.2] : (List T))) (eU ())).map fun _ => ()))) fun p65 =>
  bnd (optR (cNe ((e2 T.str eD) p65.2) ((e2 T.str eD) ("sizes", (T.int (1 : Int)))))) fun b66 =>
  if b66 = true then .rt false else
  bnd (ref3 [("BadNumber", "number"), ("BadSizes", "sizes")] "" (bnd (nvO (aMul ((eL (e2 T.int T.int)) ([((1 : Int), (1 : Int))] : (List (Int × Int)))) (T.int (6 : Int)))) fun v67 =>
  bndN (F__law_pick p62.1 ([(eU ()), ((eL T.int) ([] : (List Int))), v67, (T.int (5 : Int))] : (List T))) fun p68 =>
  .ok (p68.1, (F_on_bed__D p68.2 (eU ()) (eU ())).map fun _ => ()))) fun p69 =>
  bnd (optR (cEq ((e2 T.str eD) p69.2) ((e2 T.str eD) ("sizes", (T.int (-(1 : Int))))))) fun b70 =>
  .rt b70
theorem t_law (script_ : List Int) : SS (Zp false T.bl) (Sm.hold (.seq (script_.map T.int)) :: List.replicate (18 - 1) Sm.any) g_law (fun _ _ => False) (F_law_ script_) := by
  unfold g_law F_law_
  exact (s_seq (s_setO (x_lst (a_cons (x_var rfl ⟨trivial, (a_cons (x_c ⟨trivial, (a_cons (x_c ⟨trivial, (a_cons (x_c ⟨trivial, (a_nil ⟨Nat.le_of_ble_eq_true rfl, ⟨rfl, (s_seq (s_setO (x_lst (a_nil ⟨Nat.le_of_ble_eq_true rfl, ⟨rfl, (s_seq (s_for [3] T.int (fun s4 : ((List (Int × Int)) × Row) => [.hold ((eSQ T.int) script_), .own none (eRow s4.2), .own none ((eL (e2 T.int T.int)) s4.1), .any, .any, .any, .any, .any, .any, .any, .any, .any, .any, .any, .any, .any, .any, .any]) (i_range1 (a_cons (x_bin (x_bin (x_c ⟨trivial, (x_callM 1 rfl (a_cons (x_c ⟨trivial, (a_nil ⟨_, rfl, .mk (t__law_taken  ((script_, (0 : Int), (122 : Int), (0 : Int)) : Row) _) fun p1 => (op_add ⟨trivial, (x_if T.int (1 : Int) (0 : Int) (t_cmp (x_callM 1 rfl (a_cons (x_c ⟨trivial, (a_nil ⟨_, rfl, .mk (t__law_taken  p1.1 _) fun p2 => ⟨trivial, (x_c (op_eq dtI p2.2 (0 : Int) ⟨(x_c ⟨rfl, trivial, rfl, rfl⟩), (x_c ⟨rfl, trivial, rfl, rfl⟩), (op_add ⟨trivial, (a_nil ⟨_, _, rfl, rfl, fun l3 => ⟨_, _, _, _, rfl, rfl, (.k (.k (.k (.a (.a (.a (.a (.a (.a (.a (.a (.a (.a (.a (.a (.a (.a (.a .nil)))))))))))))))))), fun a5 s4 => ⟨_, (tg_name (by decide)), (s_drop (x_mut rfl rfl (a_cons (x_tup (a_cons (x_bin (x_c ⟨trivial, (x_callM 1 rfl (a_cons (x_c ⟨trivial, (a_nil ⟨_, rfl, .mk (t__law_taken  s4.2 _) fun p6 => (op_add ⟨trivial, (a_cons (x_bin (x_c ⟨trivial, (x_callM 1 rfl (a_cons (x_c ⟨trivial, (a_nil ⟨_, rfl, .mk (t__law_taken  p6.1 _) fun p7 => (op_add ⟨trivial, (a_nil ⟨Nat.le_of_ble_eq_true rfl, ⟨trivial, a_nil ⟨_, rfl, op_app (x := (((1 : Int) + p6.2), ((1 : Int) + p7.2))) fun l8 => ⟨(l8, p7.1), rfl, (.k (.k (.k (.a (.a (.a (.a (.a (.a (.a (.a (.a (.a (.a (.a (.a (.a (.a .nil))))))))))))))))))⟩⟩⟩⟩)⟩)⟩)⟩)))⟩)))⟩)⟩)⟩)))⟩)))))))⟩, fun s4 => (s_seq (s_par (a_cons (x_bin (x_c ⟨trivial, (x_callM 1 rfl (a_cons (x_c ⟨trivial, (a_nil ⟨_, rfl, .mk (t__law_taken  s4.2 _) fun p9 => (op_add ⟨trivial, (a_cons (x_bin (x_c ⟨trivial, (x_callM 1 rfl (a_cons (x_c ⟨trivial, (a_nil ⟨_, rfl, .mk (t__law_taken  p9.1 _) fun p10 => (op_add ⟨trivial, (a_nil ⟨_, _, rfl, (s_seq (s_weak 2 rfl rfl (s_set (x_call (a_cons (x_var rfl ⟨trivial, (a_cons (x_var rfl ⟨trivial, (a_cons (x_var rfl ⟨trivial, (a_cons (x_tup (a_nil ⟨Nat.le_of_ble_eq_true rfl, ⟨trivial, (a_nil (.mk (t__law_lie 6 _ _ _ _) fun v11 => ⟨trivial, (s_seq (s_if (t_not (t_tru (x_call (a_cons (x_call (a_cons (x_cb (b_cons (x_var rfl (b_nil ⟨rfl, (op_tuple_l ⟨trivial, (a_cons (x_var rfl ⟨trivial, (a_cons (x_var rfl ⟨trivial, (a_nil (.mk (t_on_bed__Q _ _ _) fun v12 => ⟨trivial, (a_cons (x_var rfl ⟨trivial, (a_nil (.mk (t__law_alike 10 _ _) fun v13 => (op_tru_b ⟨_, _, rfl, (s_ret (x_c ⟨_, false, rfl, Or.inr ⟨rfl, rfl⟩, rfl, (fun h => nomatch h)⟩)), (s_nil (s_seq (s_setK T.int (x_bin (x_c ⟨trivial, (x_callM 1 rfl (a_cons (x_c ⟨trivial, (a_nil ⟨_, rfl, .mk (t__law_taken  p10.1 _) fun p14 => (op_add ⟨trivial, _, _, rfl, rfl, fun times15 => (s_seq (s_set (x_lc (e2 T.int T.int) (e2 T.int T.int) (i_items (x_var rfl ⟨trivial, _, rfl, ⟨_, _, _, _, rfl, rfl, fun a16 => ⟨_, (tg_tup (tg_cons (tg_name (by decide)) (tg_cons (tg_name (by decide)) tg_nil))), (t_yes ⟨rfl, rfl⟩), (x_tup (a_cons (x_bin (x_var rfl ⟨trivial, (x_var rfl (op_mul fun v17 => ⟨trivial, (a_cons (x_bin (x_var rfl ⟨trivial, (x_var rfl (op_mul fun v18 => ⟨trivial, (a_nil ⟨Nat.le_of_ble_eq_true rfl, ⟨rfl, trivial, _, rfl, rfl⟩⟩)⟩))⟩)))⟩))⟩))))⟩, fun l19 => ⟨trivial, (s_seq (s_set (x_ifJ (eO (eQ (e2 T.int T.int))) (t_cmp (x_var rfl ⟨trivial, (x_c (op_isN_o (fun a h => by cases h) ⟨_, _, _, rfl, (x_c ⟨rfl, trivial, _, rfl, rfl⟩), (x_cb (b_cons (x_lc (e2 T.int T.int) (e2 T.int T.int) (i_items (x_opt (eQ (e2 T.int T.int)) (x_var rfl ⟨_, _, rfl, rfl, fun l20 => ⟨trivial, _, rfl, ⟨_, _, _, _, rfl, rfl, fun a21 => ⟨_, (tg_tup (tg_cons (tg_name (by decide)) (tg_cons (tg_name (by decide)) tg_nil))), (t_yes ⟨rfl, rfl⟩), (x_tup (a_cons (x_bin (x_var rfl ⟨trivial, (x_var rfl (op_mul fun v22 => ⟨trivial, (a_cons (x_bin (x_var rfl ⟨trivial, (x_var rfl (op_mul fun v23 => ⟨trivial, (a_nil ⟨Nat.le_of_ble_eq_true rfl, ⟨rfl, trivial, _, rfl, rfl⟩⟩)⟩))⟩)))⟩))⟩))))⟩, fun l24 => (b_nil ⟨rfl, (op_tuple_l ⟨rfl, trivial, _, rfl, rfl⟩)⟩)⟩⟩⟩)))))), fun v25 => ⟨trivial, (s_seq (s_if (t_not (t_tru (x_call (a_cons (x_call (a_cons (x_var rfl ⟨trivial, (a_cons (x_bin (x_var rfl ⟨trivial, (x_var rfl (op_mul fun v26 => ⟨trivial, (a_cons (x_bin (x_var rfl ⟨trivial, (x_var rfl (op_mul fun v27 => ⟨trivial, (a_nil (.mk (t_on_bed__L _ _ _) fun v28 => ⟨trivial, (a_cons (x_var rfl ⟨trivial, (a_nil (.mk (t__law_alike 10 _ _) fun v29 => (op_tru_b ⟨_, _, rfl, (s_ret (x_c ⟨_, false, rfl, Or.inr ⟨rfl, rfl⟩, rfl, (fun h => nomatch h)⟩)), (s_nil (s_seq (s_set (x_c ⟨trivial, (s_seq (s_for [15] T.int (fun s32 : ((Option Int)) => [.hold ((eSQ T.int) script_), .own none (eRow p14.1), .hold ((eL (e2 T.int T.int)) s4.1), .any, .hold (T.int ((1 : Int) + p9.2)), .hold (T.int ((1 : Int) + p10.2)), .hold ((eO (eQ (e2 T.int T.int))) v11), .hold (T.int times15), .hold ((eL (e2 T.int T.int)) l19), .any, .any, .hold ((eO (eQ (e2 T.int T.int))) v25), .any, .any, .hold ((eO T.int) s32), .any, .any, .any]) (i_range2 (a_cons (x_c ⟨trivial, (a_cons (x_bin (x_bin (x_c ⟨trivial, (x_cb (b_cons (x_var rfl (b_nil ⟨rfl, (op_len_l (op_mul fun v30 => ⟨trivial, (x_c (op_add ⟨trivial, (a_nil ⟨_, _, _, rfl, rfl, fun l31 => ⟨_, _, _, _, rfl, rfl, (.k (.k (.k (.a (.k (.k (.k (.k (.k (.a (.a (.k (.a (.a (.k (.a (.a (.a .nil)))))))))))))))))), fun a33 s32 => ⟨_, (tg_name (by decide)), (s_ifJ (fun s36 : ((Option Int)) => [.hold ((eSQ T.int) script_), .own none (eRow p14.1), .hold ((eL (e2 T.int T.int)) s4.1), .any, .hold (T.int ((1 : Int) + p9.2)), .hold (T.int ((1 : Int) + p10.2)), .hold ((eO (eQ (e2 T.int T.int))) v11), .hold (T.int times15), .hold ((eL (e2 T.int T.int)) l19), .any, .any, .hold ((eO (eQ (e2 T.int T.int))) v25), .any, .any, .hold ((eO T.int) s36), .hold (T.int a33), .any, .any]) (t_andJ (t_cmp (x_var rfl ⟨trivial, (x_c (op_isN_o (fun a h => by cases h) ⟨_, _, rfl, (t_cmp (x_call (a_cons (x_var rfl ⟨trivial, (a_cons (x_var rfl ⟨trivial, (a_cons (x_var rfl ⟨trivial, (a_cons (x_tup (a_nil ⟨Nat.le_of_ble_eq_true rfl, ⟨trivial, (a_nil (.mk (t__law_lie 6 _ _ _ _) fun v34 => ⟨trivial, (x_c (op_notN_o (fun a h => by cases h) ⟨rfl, rfl⟩))⟩))⟩⟩)))⟩))⟩))⟩)))), fun b35 => ⟨_, _, _, rfl, (s_setK (eO T.int) (x_var rfl ⟨trivial, _, _, rfl, rfl, fun best37 => ⟨best37, rfl, (.k (.k (.k (.a (.k (.k (.k (.k (.k (.a (.a (.k (.a (.a (.k (.k (.a (.a .nil))))))))))))))))))⟩⟩)), (s_nil ⟨s32, rfl, (.k (.k (.k (.a (.k (.k (.k (.k (.k (.a (.a (.k (.a (.a (.k (.k (.a (.a .nil))))))))))))))))))⟩), fun s36 => ⟨s36, rfl, (.k (.k (.k (.a (.k (.k (.k (.k (.k (.a (.a (.k (.a (.a (.k (.a (.a (.a .nil))))))))))))))))))⟩⟩⟩))⟩))))⟩, fun s32 => (s_seq (s_if (t_orJ (t_not (t_tru (x_call (a_cons (x_call (a_cons (x_var rfl ⟨trivial, (a_cons (x_var rfl ⟨trivial, (a_nil (.mk (t_least_rows__L _ _) fun v38 => ⟨trivial, (a_cons (x_var rfl ⟨trivial, (a_nil (.mk (t__law_alike 10 _ _) fun v39 => (op_tru_b ⟨_, _, rfl, (t_cmp (x_call (a_cons (x_var rfl ⟨trivial, (a_cons (x_bin (x_var rfl ⟨trivial, (x_var rfl (op_mul fun v40 => ⟨trivial, (a_nil (.mk (t_least_rows__L _ _) fun v41 => ⟨trivial, (x_ifJ (eO T.int) (t_cmp (x_var rfl ⟨trivial, (x_c (op_isN_o (fun a h => by cases h) ⟨_, _, _, rfl, (x_c ⟨rfl, trivial, _, rfl, rfl⟩), (x_bin (x_opt T.int (x_var rfl ⟨_, _, rfl, rfl, fun l42 => ⟨trivial, (x_var rfl (op_mul fun v43 => ⟨rfl, trivial, _, rfl, rfl⟩))⟩⟩))), fun v44 => (op_emb (o := cNe ((eO T.int) v41) ((eO T.int) v44)) fun b45 => ⟨rfl, rfl⟩)⟩))⟩)))⟩))⟩))⟩)))⟩)))), fun b46 => ⟨_, _, rfl, (s_ret (x_c ⟨_, false, rfl, Or.inr ⟨rfl, rfl⟩, rfl, (fun h => nomatch h)⟩)), (s_nil (s_seq (s_set (x_callM 1 rfl (a_cons (x_lst (a_cons (x_c ⟨trivial, (a_cons (x_bin (x_bin (x_c ⟨trivial, (x_c (op_pow fun v47 => ⟨trivial, (x_c (op_add ⟨trivial, (a_cons (x_c ⟨trivial, (a_cons (x_c ⟨trivial, (a_nil ⟨Nat.le_of_ble_eq_true rfl, ⟨trivial, (a_nil ⟨_, rfl, c__law_pickD p14.1 _ fun p48 => ⟨trivial, (s_seq (s_if (t_cmp (x_cb (b_cons (x_ref (fun w : Unit => [.hold ((eSQ T.int) script_), .own none (eRow p48.1), .hold ((eL (e2 T.int T.int)) s4.1), .any, .hold (T.int ((1 : Int) + p9.2)), .hold (T.int ((1 : Int) + p10.2)), .hold ((eO (eQ (e2 T.int T.int))) v11), .hold (T.int times15), .hold ((eL (e2 T.int T.int)) l19), .any, .any, .hold ((eO (eQ (e2 T.int T.int))) v25), .any, .any, .hold ((eO T.int) s32), .any, .hold (eD p48.2), .any]) (a_cons (x_var rfl ⟨trivial, (a_cons (x_var rfl ⟨trivial, (a_cons (x_var rfl ⟨trivial, (a_nil ⟨_, rfl, _, _, _, _, t_on_bed__LD _ _ _, rfl⟩)⟩))⟩))⟩)) fun p49 => (b_nil ⟨rfl, (op_embN (o := (bRepr [((e2 T.str eD) p49.2)])) fun v50 => ⟨trivial, (x_cb (b_cons (x_tup (a_cons (x_c ⟨trivial, (a_cons (x_var rfl ⟨trivial, (a_nil ⟨Nat.le_of_ble_eq_true rfl, (b_nil ⟨rfl, (op_embN (o := (bRepr [((e2 T.str eD) ("number", p48.2))])) fun v51 => (op_emb (o := cNe v50 v51) fun b52 => ⟨_, _, rfl, (s_ret (x_c ⟨_, false, rfl, Or.inr ⟨rfl, rfl⟩, rfl, (fun h => nomatch h)⟩)), (s_nil (s_seq (s_if (t_cmp (x_cb (b_cons (x_ref (fun w : Unit => [.hold ((eSQ T.int) script_), .own none (eRow p48.1), .hold ((eL (e2 T.int T.int)) s4.1), .any, .hold (T.int ((1 : Int) + p9.2)), .hold (T.int ((1 : Int) + p10.2)), .hold ((eO (eQ (e2 T.int T.int))) v11), .hold (T.int times15), .hold ((eL (e2 T.int T.int)) l19), .any, .any, .hold ((eO (eQ (e2 T.int T.int))) v25), .any, .any, .hold ((eO T.int) s32), .any, .hold (eD p48.2), .any]) (a_cons (x_var rfl ⟨trivial, (a_cons (x_c ⟨trivial, (a_cons (x_var rfl ⟨trivial, (a_nil ⟨_, rfl, _, _, _, _, t_on_bed__LD _ _ _, rfl⟩)⟩))⟩))⟩)) fun p53 => (b_nil ⟨rfl, (op_embN (o := (bRepr [((e2 T.str eD) p53.2)])) fun v54 => ⟨trivial, (x_cb (b_cons (x_tup (a_cons (x_c ⟨trivial, (a_cons (x_var rfl ⟨trivial, (a_nil ⟨Nat.le_of_ble_eq_true rfl, (b_nil ⟨rfl, (op_embN (o := (bRepr [((e2 T.str eD) ("number", p48.2))])) fun v55 => (op_emb (o := cNe v54 v55) fun b56 => ⟨_, _, rfl, (s_ret (x_c ⟨_, false, rfl, Or.inr ⟨rfl, rfl⟩, rfl, (fun h => nomatch h)⟩)), (s_nil (s_seq (s_if (t_cmp (x_cb (b_cons (x_ref (fun w : Unit => [.hold ((eSQ T.int) script_), .own none (eRow p48.1), .hold ((eL (e2 T.int T.int)) s4.1), .any, .hold (T.int ((1 : Int) + p9.2)), .hold (T.int ((1 : Int) + p10.2)), .hold ((eO (eQ (e2 T.int T.int))) v11), .hold (T.int times15), .hold ((eL (e2 T.int T.int)) l19), .any, .any, .hold ((eO (eQ (e2 T.int T.int))) v25), .any, .any, .hold ((eO T.int) s32), .any, .hold (eD p48.2), .any]) (a_cons (x_var rfl ⟨trivial, (a_cons (x_var rfl ⟨trivial, (a_nil ⟨_, rfl, _, _, _, _, t_least_rows__LD _ _, rfl⟩)⟩))⟩)) fun p57 => (b_nil ⟨rfl, (op_embN (o := (bRepr [((e2 T.str eD) p57.2)])) fun v58 => ⟨trivial, (x_cb (b_cons (x_tup (a_cons (x_c ⟨trivial, (a_cons (x_var rfl ⟨trivial, (a_nil ⟨Nat.le_of_ble_eq_true rfl, (b_nil ⟨rfl, (op_embN (o := (bRepr [((e2 T.str eD) ("number", p48.2))])) fun v59 => (op_emb (o := cNe v58 v59) fun b60 => ⟨_, _, rfl, (s_ret (x_c ⟨_, false, rfl, Or.inr ⟨rfl, rfl⟩, rfl, (fun h => nomatch h)⟩)), (s_nil (s_seq (s_set (x_lst (a_cons (x_tup (a_cons (x_c ⟨trivial, (a_cons (x_c ⟨trivial, (a_nil ⟨Nat.le_of_ble_eq_true rfl, ⟨trivial, (a_cons (x_callM 1 rfl (a_cons (x_lst (a_cons (x_c ⟨trivial, (a_cons (x_tup (a_cons (x_c ⟨trivial, (a_cons (x_c ⟨trivial, (a_nil ⟨Nat.le_of_ble_eq_true rfl, ⟨trivial, (a_cons (x_tup (a_cons (x_c ⟨trivial, (a_cons (x_bin (x_bin (x_c ⟨trivial, (x_c (op_pow fun v61 => ⟨trivial, (x_c (op_add ⟨trivial, (a_nil ⟨Nat.le_of_ble_eq_true rfl, ⟨trivial, (a_cons (x_lst (a_cons (x_c ⟨trivial, (a_cons (x_c ⟨trivial, (a_nil ⟨Nat.le_of_ble_eq_true rfl, ⟨trivial, (a_cons (x_tup (a_cons (x_c ⟨trivial, (a_nil ⟨Nat.le_of_ble_eq_true rfl, ⟨trivial, (a_cons (x_tup (a_cons (x_c ⟨trivial, (a_cons (x_c ⟨trivial, (a_nil ⟨Nat.le_of_ble_eq_true rfl, ⟨trivial, (a_nil ⟨Nat.le_of_ble_eq_true rfl, ⟨trivial, (a_nil ⟨_, rfl, c__law_pickD p48.1 _ fun p62 => ⟨trivial, (a_nil ⟨Nat.le_of_ble_eq_true rfl, ⟨trivial, (s_seq (s_if (t_cmp (x_ref (fun w : Unit => [.hold ((eSQ T.int) script_), .own none (eRow p62.1), .hold ((eL (e2 T.int T.int)) s4.1), .any, .hold (T.int ((1 : Int) + p9.2)), .hold (T.int ((1 : Int) + p10.2)), .hold ((eO (eQ (e2 T.int T.int))) v11), .hold (T.int times15), .hold ((eL (e2 T.int T.int)) l19), .any, .any, .hold ((eO (eQ (e2 T.int T.int))) v25), .any, .any, .hold ((eO T.int) s32), .any, .hold (eD p48.2), .hold ((eL eD) ([((e2 T.int T.int) ((1 : Int), (1 : Int))), p62.2] : (List T)))]) (a_cons (x_var rfl ⟨trivial, (a_cons (x_c ⟨trivial, (a_cons (x_c ⟨trivial, (a_nil ⟨_, rfl, _, _, _, _, t_on_bed__D _ _ _, rfl⟩)⟩))⟩))⟩)) fun p63 => ⟨trivial, (x_tup (a_cons (x_c ⟨trivial, (a_cons (x_c ⟨trivial, (a_nil ⟨Nat.le_of_ble_eq_true rfl, (op_emb (o := cNe ((e2 T.str eD) p63.2) ((e2 T.str eD) ("sizes", (T.int (1 : Int))))) fun b64 => ⟨_, _, rfl, (s_ret (x_c ⟨_, false, rfl, Or.inr ⟨rfl, rfl⟩, rfl, (fun h => nomatch h)⟩)), (s_nil (s_seq (s_if (t_cmp (x_ref (fun w : Unit => [.hold ((eSQ T.int) script_), .own none (eRow p62.1), .hold ((eL (e2 T.int T.int)) s4.1), .any, .hold (T.int ((1 : Int) + p9.2)), .hold (T.int ((1 : Int) + p10.2)), .hold ((eO (eQ (e2 T.int T.int))) v11), .hold (T.int times15), .hold ((eL (e2 T.int T.int)) l19), .any, .any, .hold ((eO (eQ (e2 T.int T.int))) v25), .any, .any, .hold ((eO T.int) s32), .any, .hold (eD p48.2), .hold ((eL eD) ([((e2 T.int T.int) ((1 : Int), (1 : Int))), p62.2] : (List T)))]) (a_cons (x_var rfl ⟨trivial, (a_cons (x_c ⟨trivial, (a_nil ⟨_, rfl, _, _, _, _, t_least_rows__D _ _, rfl⟩)⟩))⟩)) fun p65 => ⟨trivial, (x_tup (a_cons (x_c ⟨trivial, (a_cons (x_c ⟨trivial, (a_nil ⟨Nat.le_of_ble_eq_true rfl, (op_emb (o := cNe ((e2 T.str eD) p65.2) ((e2 T.str eD) ("sizes", (T.int (1 : Int))))) fun b66 => ⟨_, _, rfl, (s_ret (x_c ⟨_, false, rfl, Or.inr ⟨rfl, rfl⟩, rfl, (fun h => nomatch h)⟩)), (s_nil (s_ret (x_bin (x_ref (fun w : Row => [.hold ((eSQ T.int) script_), .own none (eRow w), .hold ((eL (e2 T.int T.int)) s4.1), .any, .hold (T.int ((1 : Int) + p9.2)), .hold (T.int ((1 : Int) + p10.2)), .hold ((eO (eQ (e2 T.int T.int))) v11), .hold (T.int times15), .hold ((eL (e2 T.int T.int)) l19), .any, .any, .hold ((eO (eQ (e2 T.int T.int))) v25), .any, .any, .hold ((eO T.int) s32), .any, .hold (eD p48.2), .hold ((eL eD) ([((e2 T.int T.int) ((1 : Int), (1 : Int))), p62.2] : (List T)))]) (a_cons (x_callM 1 rfl (a_cons (x_lst (a_cons (x_c ⟨trivial, (a_cons (x_lst (a_nil ⟨Nat.le_of_ble_eq_true rfl, ⟨trivial, (a_cons (x_bin (x_lst (a_cons (x_tup (a_cons (x_c ⟨trivial, (a_cons (x_c ⟨trivial, (a_nil ⟨Nat.le_of_ble_eq_true rfl, ⟨trivial, (a_nil ⟨Nat.le_of_ble_eq_true rfl, ⟨trivial, (x_c (op_embO (o := (aMul ((eL (e2 T.int T.int)) ([((1 : Int), (1 : Int))] : (List (Int × Int)))) (T.int (6 : Int)))) fun v67 => ⟨trivial, (a_cons (x_c ⟨trivial, (a_nil ⟨Nat.le_of_ble_eq_true rfl, ⟨trivial, (a_nil ⟨_, rfl, c__law_pickD p62.1 _ fun p68 => ⟨trivial, (a_cons (x_c ⟨trivial, (a_cons (x_c ⟨trivial, (a_nil ⟨_, rfl, _, _, _, _, t_on_bed__D _ _ _, rfl⟩)⟩))⟩))⟩⟩)⟩⟩)⟩))⟩))⟩⟩)⟩⟩)⟩))⟩)))))))⟩⟩)))⟩)))))) fun p69 => ⟨trivial, (x_tup (a_cons (x_c ⟨trivial, (a_cons (x_neg (x_c ⟨trivial, _, rfl, ⟨trivial, (a_nil ⟨Nat.le_of_ble_eq_true rfl, (opN_cm (op_emb (o := cEq ((e2 T.str eD) p69.2) ((e2 T.str eD) ("sizes", (T.int (-(1 : Int)))))) fun b70 => ⟨_, false, rfl, Or.inr ⟨rfl, rfl⟩, rfl, (fun h => nomatch h)⟩))⟩)⟩⟩)))⟩)))⟩))))⟩)⟩)⟩))⟩)))⟩)))))⟩)⟩)⟩))⟩)))⟩))))⟩⟩)⟩⟩)⟩⟩)⟩⟩)⟩))⟩))))⟩⟩)⟩))))⟩⟩)⟩))⟩))))⟩⟩)⟩))⟩))⟩))))⟩))))⟩⟩)⟩))⟩))))⟩))))))⟩⟩)⟩))⟩))))))))⟩))⟩)⟩)⟩))⟩)))))⟩)⟩))))))))⟩))⟩)⟩)⟩))⟩)))))⟩)⟩))))))))⟩))⟩)⟩)⟩))⟩)))))⟩)⟩)))))))⟩⟩)⟩⟩)⟩))⟩))⟩))⟩))⟩))))⟩))))))))⟩⟩)))⟩))⟩))⟩))⟩))))))))))⟩⟩)⟩))⟩))⟩))))⟩))))⟩)))))⟩))))⟩)))⟩))⟩))⟩))⟩)))⟩))⟩)))⟩)))))))))⟩⟩))⟩)))))⟩⟩⟩)))))⟩)⟩)⟩)))⟩)))))⟩)))⟩))⟩))⟩))⟩))⟩)⟩))))))))))))⟩))⟩⟩)))⟩))⟩))⟩))))))⟩)⟩)⟩)⟩)))⟩)))⟩)⟩)⟩)))⟩)))))⟩⟩)⟩)⟩))⟩⟩)⟩)))))⟩)⟩)⟩)))⟩)))))))⟩⟩))))⟩⟩)⟩))⟩))⟩))⟩)))))

end K22
end

section
set_option Elab.async false
set_option linter.all false
set_option maxRecDepth 100000
set_option maxHeartbeats 1000000
namespace K22
/-! ### a search in order, plain -/
abbrev Pt := Int × Int
def pl (a b : Pt) : Prop := a.1 < b.1 ∨ (a.1 = b.1 ∧ a.2 < b.2)
theorem pl_irr (a : Pt) : ¬ pl a a := fun h => by rcases h with h | ⟨_, h⟩ <;> omega
theorem pl_asym {a b : Pt} (h : pl a b) : ¬ pl b a := fun q => by
  rcases h with h | ⟨h, h'⟩ <;> rcases q with q | ⟨q, q'⟩ <;> omega
theorem pl_tri (a b : Pt) : pl a b ∨ a = b ∨ pl b a := by
  by_cases h1 : a.1 < b.1
  · exact .inl (.inl h1)
  · by_cases h2 : b.1 < a.1
    · exact .inr (.inr (.inl h2))
    · have e : a.1 = b.1 := by omega
      by_cases h3 : a.2 < b.2
      · exact .inl (.inr ⟨e, h3⟩)
      · by_cases h4 : b.2 < a.2
        · exact .inr (.inr (.inr ⟨e.symm, h4⟩))
        · exact .inr (.inl (Prod.ext e (by omega)))
def lx : List Pt → List Pt → Prop
  | a :: as, b :: bs => pl a b ∨ (a = b ∧ lx as bs)
  | _, _ => False
theorem lx_tri : ∀ {as bs : List Pt}, as.length = bs.length → lx as bs ∨ as = bs ∨ lx bs as
  | [], [], _ => .inr (.inl rfl)
  | a :: as, b :: bs, h => by
    rcases pl_tri a b with z | z | z
    · exact .inl (.inl z)
    · subst z
      rcases lx_tri (as := as) (bs := bs) (by simpa using h) with z | z | z
      · exact .inl (.inr ⟨rfl, z⟩)
      · exact .inr (.inl (by rw [z]))
      · exact .inr (.inr (.inr ⟨rfl, z⟩))
    · exact .inr (.inr (.inl z))
  | [], _ :: _, h => by simp at h
  | _ :: _, [], h => by simp at h
section
variable (cand : Nat → List Pt) (ok : List Pt → Pt → Bool)
def dfs : Nat → List Pt → Option (List Pt)
  | 0, p => some p
  | r + 1, p => (cand p.length).findSome? fun c => if ok p c = true then dfs r (p ++ [c]) else none
def Good : List Pt → List Pt → Prop
  | _, [] => True
  | p, c :: q => c ∈ cand p.length ∧ ok p c = true ∧ Good (p ++ [c]) q
variable {cand ok}
theorem find_some {α β : Type} {f : α → Option β} {w : β} : ∀ {l : List α}, l.findSome? f = some w → ∃ l1 c l2, l = l1 ++ c :: l2 ∧ f c = some w ∧ ∀ x ∈ l1, f x = none
  | a :: l, h => by
    rw [List.findSome?_cons] at h
    split at h
    · rename_i b e
      cases h
      exact ⟨[], a, l, rfl, e, fun x hx => (List.not_mem_nil hx).elim⟩
    · rename_i e
      obtain ⟨l1, c, l2, e1, e2, e3⟩ := find_some h
      refine ⟨a :: l1, c, l2, by rw [e1]; rfl, e2, fun x hx => ?_⟩
      rcases List.mem_cons.mp hx with z | z
      · rw [z]; exact e
      · exact e3 x z
theorem find_none {α β : Type} {f : α → Option β} : ∀ {l : List α}, l.findSome? f = none → ∀ x ∈ l, f x = none
  | a :: l, h, x, hx => by
    rw [List.findSome?_cons] at h
    split at h
    · cases h
    · rename_i e
      rcases List.mem_cons.mp hx with z | z
      · rw [z]; exact e
      · exact find_none h x z
theorem dfs_spec (hs : ∀ k, (cand k).Pairwise pl) : ∀ (r : Nat) (p : List Pt), (∀ w, dfs cand ok r p = some w → ∃ q, w = p ++ q ∧ q.length = r ∧ Good cand ok p q ∧ ∀ q', q'.length = r → Good cand ok p q' → ¬ lx q' q) ∧ (dfs cand ok r p = none → ∀ q, q.length = r → ¬ Good cand ok p q)
  | 0, p => by
    refine ⟨fun w h => ⟨[], by cases h; simp, rfl, trivial, fun q' _ _ z => ?_⟩, fun h => by cases h⟩
    cases q' <;> exact z
  | r + 1, p => by
    have ih := fun c => dfs_spec hs r (p ++ [c])
    refine ⟨fun w h => ?_, fun h q hq g => ?_⟩
    · obtain ⟨l1, c, l2, e1, e2, e3⟩ := find_some h
      split at e2
      · rename_i hc
        obtain ⟨q, e4, e5, e6, e7⟩ := (ih c).1 w e2
        refine ⟨c :: q, by rw [e4]; simp, by simp [e5], ⟨by rw [e1]; simp, hc, e6⟩, fun q' hq' g z => ?_⟩
        match q', g, z with
        | c' :: q', g, z =>
          obtain ⟨g1, g2, g3⟩ := g
          rcases (show pl c' c ∨ (c' = c ∧ lx q' q) from z) with z | ⟨ez, z2⟩
          · have hp := hs p.length
            rw [e1] at hp g1
            have hp2 := (List.pairwise_append.mp hp).2.1
            rcases List.mem_append.mp g1 with m | m
            · have := e3 c' m
              rw [if_pos g2] at this
              exact (ih c').2 this q' (by simpa using hq') g3
            · rcases List.mem_cons.mp m with m | m
              · rw [m] at z; exact pl_irr _ z
              · exact pl_asym ((List.pairwise_cons.mp hp2).1 c' m) z
          · subst ez; exact e7 q' (by simpa using hq') g3 z2
        | [], g, z => exact z
      · cases e2
    · match q, hq, g with
      | c :: q, hq, ⟨g1, g2, g3⟩ =>
        have := find_none h c g1
        rw [if_pos g2] at this
        exact (ih c).2 this q (by simpa using hq) g3
end
/-- two searches find the same -/
theorem dfs_eq {c1 c2 : Nat → List Pt} {o1 o2 : List Pt → Pt → Bool} (h1 : ∀ k, (c1 k).Pairwise pl) (h2 : ∀ k, (c2 k).Pairwise pl) (n : Nat) (h21 : ∀ q, q.length = n → Good c2 o2 [] q → Good c1 o1 [] q)
    (h12 : ∀ q, q.length = n → Good c1 o1 [] q → (∀ q', q'.length = n → Good c1 o1 [] q' → ¬ lx q' q) → Good c2 o2 [] q) : dfs c2 o2 n [] = dfs c1 o1 n [] := by
  obtain ⟨a1, a2⟩ := dfs_spec (ok := o1) h1 n []
  obtain ⟨b1, b2⟩ := dfs_spec (ok := o2) h2 n []
  cases e1 : dfs c1 o1 n [] with
  | none =>
    cases e2 : dfs c2 o2 n [] with
    | none => rfl
    | some w =>
      obtain ⟨q, _, hl, g, _⟩ := b1 w e2
      exact absurd (h21 q hl g) (a2 e1 q hl)
  | some v =>
    obtain ⟨q1, ev, hl1, g1, m1⟩ := a1 v e1
    have g12 := h12 q1 hl1 g1 m1
    cases e2 : dfs c2 o2 n [] with
    | none => exact absurd g12 (b2 e2 q1 hl1)
    | some w =>
      obtain ⟨q, ew, hl, g, m⟩ := b1 w e2
      have : q = q1 := by
        rcases lx_tri (as := q) (bs := q1) (by rw [hl, hl1]) with z | z | z
        · exact absurd z (m1 q hl (h21 q hl g))
        · exact z
        · exact absurd z (m q1 hl1 g12)
      rw [ev, ew, this]
theorem good_at {cand : Nat → List Pt} {ok : List Pt → Pt → Bool} : ∀ {q p : List Pt}, Good cand ok p q ↔ ∀ k, k < q.length → q.getD k (0, 0) ∈ cand (p.length + k) ∧ ok (p ++ q.take k) (q.getD k (0, 0)) = true
  | [], p => ⟨fun _ k h => by simp at h, fun _ => trivial⟩
  | c :: q, p => by
    refine ⟨fun ⟨g1, g2, g3⟩ k h => ?_, fun h => ⟨?_, ?_, (good_at (q := q)).mpr fun k hk => ?_⟩⟩
    · cases k with
      | zero => exact ⟨by simpa using g1, by simpa using g2⟩
      | succ k =>
        have := good_at.mp g3 k (by simpa using h)
        rw [List.length_append, List.length_singleton] at this
        refine ⟨by simpa [Nat.add_assoc, Nat.add_comm 1 k] using this.1, by simpa [List.append_assoc] using this.2⟩
    · simpa using (h 0 (by simp)).1
    · simpa using (h 0 (by simp)).2
    · have := h (k + 1) (by simpa using hk)
      rw [List.length_append, List.length_singleton]
      exact ⟨by simpa [Nat.add_assoc, Nat.add_comm 1 k] using this.1, by simpa [List.append_assoc] using this.2⟩
/-- sums of choices -/
def mS : List Int → (Nat → Bool) → Int
  | [], _ => 0
  | n :: ns, f => (if f 0 = true then n else 0) + mS ns fun i => f (i + 1)
theorem mS_none : ∀ ns : List Int, mS ns (fun _ => false) = 0
  | [] => rfl
  | n :: ns => by simp [mS, mS_none ns]
theorem mS_set : ∀ {ns : List Int} {f : Nat → Bool} {j : Nat}, j < ns.length → f j = false → mS ns (fun i => if i = j then true else f i) = mS ns f + ns.getD j 0
  | n :: ns, f, 0, _, hf => by
    simp only [mS, hf, if_true, List.getD_cons_zero]
    have : (fun i => if i + 1 = 0 then true else f (i + 1)) = fun i => f (i + 1) := by funext i; rw [if_neg (by omega)]
    rw [this]
    simp
    omega
  | n :: ns, f, j + 1, h, hf => by
    simp only [mS, List.getD_cons_succ]
    have : (fun i => if i + 1 = j + 1 then true else f (i + 1)) = fun i => if i = j then true else (fun i => f (i + 1)) i := by
      funext i
      by_cases z : i = j
      · rw [if_pos (by omega), if_pos z]
      · rw [if_neg (by omega), if_neg z]
    rw [this, mS_set (f := fun i => f (i + 1)) (by simpa using h) hf]
    simp only [show (0 : Nat) = j + 1 ↔ False from ⟨fun z => by omega, False.elim⟩, if_false]
    omega
  | [], _, _, h, _ => by simp at h
end K22
end

section
set_option Elab.async false
set_option linter.all false
set_option maxRecDepth 100000
set_option maxHeartbeats 1000000
namespace K22
def at_ (q : List Pt) (k : Nat) : Pt := q.getD k (0, 0)
def ap (c s o t : Pt) : Prop := c.1 + s.1 ≤ o.1 ∨ o.1 + t.1 ≤ c.1 ∨ c.2 + s.2 ≤ o.2 ∨ o.2 + t.2 ≤ c.2
/-- rects of these sizes at these corners, on a bed, apart -/
def Lie (S : List Pt) (W D : Int) (q : List Pt) : Prop := ∀ k, k < S.length → 0 ≤ (at_ q k).1 ∧ (at_ q k).1 + (at_ S k).1 ≤ W ∧ 0 ≤ (at_ q k).2 ∧ (at_ q k).2 + (at_ S k).2 ≤ D ∧ ∀ j, j < k → ap (at_ q k) (at_ S k) (at_ q j) (at_ S j)
theorem at_set {q : List Pt} {k : Nat} {c : Pt} (h : k < q.length) (i : Nat) : at_ (q.set k c) i = if i = k then c else at_ q i := by
  unfold at_
  rw [List.getD_eq_getElem?_getD, List.getD_eq_getElem?_getD, List.getElem?_set]
  by_cases z : i = k
  · subst z; rw [if_pos rfl, if_pos rfl, if_pos h]; rfl
  · rw [if_neg (fun e => z e.symm), if_neg z]
theorem lx_set : ∀ {q : List Pt} {k : Nat} {c : Pt}, k < q.length → pl c (at_ q k) → lx (q.set k c) q
  | a :: q, 0, c, _, p => .inl p
  | a :: q, k + 1, c, h, p => .inr ⟨rfl, lx_set (by simpa using h) p⟩
  | [], _, _, h, _ => by simp at h
/-- a rect of the least one stands at the wall or beside another -/
theorem beside_x {S : List Pt} {W D : Int} {q : List Pt} (hl : q.length = S.length) (L : Lie S W D q) (m : ∀ q', q'.length = S.length → Lie S W D q' → ¬ lx q' q) {k : Nat} (hk : k < S.length) (hx : 0 < (at_ q k).1) : ∃ j, j < S.length ∧ j ≠ k ∧ (at_ q j).1 + (at_ S j).1 = (at_ q k).1 := by
  refine Classical.byContradiction fun hne => ?_
  have ne : ∀ j, j < S.length → j ≠ k → (at_ q j).1 + (at_ S j).1 ≠ (at_ q k).1 := fun j h1 h2 h3 => hne ⟨j, h1, h2, h3⟩
  refine m (q.set k ((at_ q k).1 - 1, (at_ q k).2)) (by rw [List.length_set]; exact hl) (fun i hi => ?_) (lx_set (by omega) (.inl (by show _ - 1 < _; omega)))
  have ek : ∀ i, at_ (q.set k ((at_ q k).1 - 1, (at_ q k).2)) i = if i = k then ((at_ q k).1 - 1, (at_ q k).2) else at_ q i := at_set (by omega)
  obtain ⟨b1, b2, b3, b4, b5⟩ := L i hi
  rw [ek i]
  by_cases z : i = k
  · subst z
    rw [if_pos rfl]
    refine ⟨?_, ?_, ?_, ?_, fun j hj => ?_⟩
    · show 0 ≤ _; omega
    · show _ + _ ≤ W; omega
    · show 0 ≤ _; omega
    · show _ + _ ≤ D; omega
    · rw [ek j, if_neg (by omega)]
      have := b5 j hj
      have n := ne j (by omega) (by omega)
      unfold ap at this ⊢
      simp only at this ⊢
      omega
  · rw [if_neg z]
    refine ⟨b1, b2, b3, b4, fun j hj => ?_⟩
    have := b5 j hj
    rw [ek j]
    by_cases z2 : j = k
    · subst z2
      rw [if_pos rfl]
      have n := ne i hi z
      unfold ap at this ⊢
      simp only at this ⊢
      omega
    · rw [if_neg z2]; exact this
theorem mask_x {S : List Pt} {W D : Int} {q : List Pt} (hl : q.length = S.length) (L : Lie S W D q) (m : ∀ q', q'.length = S.length → Lie S W D q' → ¬ lx q' q) (hp : ∀ k, k < S.length → 0 < (at_ S k).1) : ∀ (N : Nat) (k : Nat), k < S.length → (at_ q k).1 ≤ N → ∃ f, (at_ q k).1 = mS (S.map (·.1)) f ∧ ∀ i, f i = true → i < S.length ∧ (at_ q i).1 < (at_ q k).1
  | N, k, hk, hN => by
    by_cases hx : 0 < (at_ q k).1
    · obtain ⟨j, hj, jk, e⟩ := beside_x hl L m hk hx
      have pj := hp j hj
      match N, hN with
      | 0, hN => exact absurd hN (by omega)
      | N + 1, hN =>
        obtain ⟨f, ef, hf⟩ := mask_x hl L m hp N j hj (by omega)
        have nf : f j = false := by
          cases z : f j with
          | false => rfl
          | true => exact absurd (hf j z).2 (by omega)
        refine ⟨fun i => if i = j then true else f i, ?_, fun i hi => ?_⟩
        · rw [mS_set (by rw [List.length_map]; exact hj) nf, ← ef]
          have : (S.map (·.1)).getD j 0 = (at_ S j).1 := by
            unfold at_
            rw [List.getD_eq_getElem?_getD, List.getD_eq_getElem?_getD, List.getElem?_map, List.getElem?_eq_getElem hj]
            rfl
          rw [this]; omega
        · dsimp only at hi
          by_cases z : i = j
          · subst z; exact ⟨hj, by omega⟩
          · rw [if_neg z] at hi
            have := hf i hi
            exact ⟨this.1, by omega⟩
    · have b := L k hk
      refine ⟨fun _ => false, ?_, fun i hi => by cases hi⟩
      rw [mS_none]
      have b1 := b.1
      have b3 := b.2.2.1
      omega
/-- a rect of the least one stands at the wall or beside another -/
theorem beside_y {S : List Pt} {W D : Int} {q : List Pt} (hl : q.length = S.length) (L : Lie S W D q) (m : ∀ q', q'.length = S.length → Lie S W D q' → ¬ lx q' q) {k : Nat} (hk : k < S.length) (hx : 0 < (at_ q k).2) : ∃ j, j < S.length ∧ j ≠ k ∧ (at_ q j).2 + (at_ S j).2 = (at_ q k).2 := by
  refine Classical.byContradiction fun hne => ?_
  have ne : ∀ j, j < S.length → j ≠ k → (at_ q j).2 + (at_ S j).2 ≠ (at_ q k).2 := fun j h1 h2 h3 => hne ⟨j, h1, h2, h3⟩
  refine m (q.set k ((at_ q k).1, (at_ q k).2 - 1)) (by rw [List.length_set]; exact hl) (fun i hi => ?_) (lx_set (by omega) (.inr ⟨rfl, by show _ - 1 < _; omega⟩))
  have ek : ∀ i, at_ (q.set k ((at_ q k).1, (at_ q k).2 - 1)) i = if i = k then ((at_ q k).1, (at_ q k).2 - 1) else at_ q i := at_set (by omega)
  obtain ⟨b1, b2, b3, b4, b5⟩ := L i hi
  rw [ek i]
  by_cases z : i = k
  · subst z
    rw [if_pos rfl]
    refine ⟨?_, ?_, ?_, ?_, fun j hj => ?_⟩
    · show 0 ≤ _; omega
    · show _ + _ ≤ W; omega
    · show 0 ≤ _; omega
    · show _ + _ ≤ D; omega
    · rw [ek j, if_neg (by omega)]
      have := b5 j hj
      have n := ne j (by omega) (by omega)
      unfold ap at this ⊢
      simp only at this ⊢
      omega
  · rw [if_neg z]
    refine ⟨b1, b2, b3, b4, fun j hj => ?_⟩
    have := b5 j hj
    rw [ek j]
    by_cases z2 : j = k
    · subst z2
      rw [if_pos rfl]
      have n := ne i hi z
      unfold ap at this ⊢
      simp only at this ⊢
      omega
    · rw [if_neg z2]; exact this
theorem mask_y {S : List Pt} {W D : Int} {q : List Pt} (hl : q.length = S.length) (L : Lie S W D q) (m : ∀ q', q'.length = S.length → Lie S W D q' → ¬ lx q' q) (hp : ∀ k, k < S.length → 0 < (at_ S k).2) : ∀ (N : Nat) (k : Nat), k < S.length → (at_ q k).2 ≤ N → ∃ f, (at_ q k).2 = mS (S.map (·.2)) f ∧ ∀ i, f i = true → i < S.length ∧ (at_ q i).2 < (at_ q k).2
  | N, k, hk, hN => by
    by_cases hx : 0 < (at_ q k).2
    · obtain ⟨j, hj, jk, e⟩ := beside_y hl L m hk hx
      have pj := hp j hj
      match N, hN with
      | 0, hN => exact absurd hN (by omega)
      | N + 1, hN =>
        obtain ⟨f, ef, hf⟩ := mask_y hl L m hp N j hj (by omega)
        have nf : f j = false := by
          cases z : f j with
          | false => rfl
          | true => exact absurd (hf j z).2 (by omega)
        refine ⟨fun i => if i = j then true else f i, ?_, fun i hi => ?_⟩
        · rw [mS_set (by rw [List.length_map]; exact hj) nf, ← ef]
          have : (S.map (·.2)).getD j 0 = (at_ S j).2 := by
            unfold at_
            rw [List.getD_eq_getElem?_getD, List.getD_eq_getElem?_getD, List.getElem?_map, List.getElem?_eq_getElem hj]
            rfl
          rw [this]; omega
        · dsimp only at hi
          by_cases z : i = j
          · subst z; exact ⟨hj, by omega⟩
          · rw [if_neg z] at hi
            have := hf i hi
            exact ⟨this.1, by omega⟩
    · have b := L k hk
      refine ⟨fun _ => false, ?_, fun i hi => by cases hi⟩
      rw [mS_none]
      have b1 := b.1
      have b3 := b.2.2.1
      omega
end K22
end

section
set_option Elab.async false
set_option linter.all false
set_option maxRecDepth 100000
set_option maxHeartbeats 1000000
namespace K22
open PySem FX TY
/-! ### all_sums -/
abbrev keys (s : List (Int × Bool)) : List Int := s.map (·.1)
theorem keys_put (s : List (Int × Bool)) (k : Int) (v : Bool) : keys (dputA s k v) = if k ∈ keys s then keys s else keys s ++ [k] := by
  unfold dputA
  by_cases h : k ∈ keys s
  · have h2 : (s.any fun kv => decide (kv.1 = k)) = true := by
      obtain ⟨p, hp, e⟩ := List.mem_map.mp h
      exact List.any_eq_true.mpr ⟨p, hp, by simpa using e⟩
    rw [if_pos h2, if_pos h]
    unfold keys
    rw [List.map_map]
    refine List.map_congr_left fun p _ => ?_
    show (if p.1 = k then (p.1, v) else p).1 = p.1
    split <;> rfl
  · have h2 : ¬ (s.any fun kv => decide (kv.1 = k)) = true := fun z => by
      obtain ⟨p, hp, e⟩ := List.any_eq_true.mp z
      exact h (List.mem_map.mpr ⟨p, hp, by simpa using e⟩)
    rw [if_neg h2, if_neg h]
    simp [keys]
theorem inner_ok (n : Int) : ∀ (l : List Int) (s : List (Int × Bool)), s.length + l.length ≤ 1000000 → ∃ s', (forF (fun a4 s3 => bnd (putR s3 (a4 + n) true) fun l5 => (Fl.nx l5 : Fl (List (Int × Bool)) (List (Int × Bool)) (List Int))) l s : Fl (List (Int × Bool)) (List (Int × Bool)) (List Int)) = .nx s' ∧ s'.length ≤ s.length + l.length ∧ ((keys s).Nodup → (keys s').Nodup) ∧ ∀ x, x ∈ keys s' ↔ x ∈ keys s ∨ ∃ a ∈ l, x = a + n
  | [], s, _ => ⟨s, rfl, by simp, fun h => h, fun x => by simp⟩
  | a :: l, s, h => by
    simp only [List.length_cons] at h
    have e : putR s (a + n) true = .ok (dputA s (a + n) true) := if_pos (by omega)
    have ek := keys_put s (a + n) true
    have hl : (dputA s (a + n) true).length ≤ s.length + 1 := by
      have := congrArg List.length ek
      rw [List.length_map] at this
      rw [this]
      split <;> simp
    obtain ⟨s', e', l', d', m'⟩ := inner_ok n l (dputA s (a + n) true) (by omega)
    refine ⟨s', ?_, by rw [List.length_cons]; omega, fun d => d' ?_, fun x => ?_⟩
    · unfold forF
      rw [e, bnd_ok]
      exact e'
    · rw [ek]
      split
      · exact d
      · rename_i nk
        exact List.nodup_append.mpr ⟨d, by simp, fun x hx y hy z => nk (by rw [List.mem_singleton.mp hy] at z; rw [← z]; exact hx)⟩
    · rw [m', ek]
      constructor
      · rintro (z | ⟨b, hb, z⟩)
        · split at z
          · exact .inl z
          · rcases List.mem_append.mp z with z | z
            · exact .inl z
            · exact .inr ⟨a, List.mem_cons_self, by simpa using z⟩
        · exact .inr ⟨b, List.mem_cons_of_mem _ hb, z⟩
      · rintro (z | ⟨b, hb, z⟩)
        · left; split
          · exact z
          · exact List.mem_append_left _ z
        · rcases List.mem_cons.mp hb with q | q
          · subst q; left
            split
            · rename_i k; rw [z]; exact k
            · rw [z]; simp
          · exact .inr ⟨b, q, z⟩
theorem outer_ok : ∀ (ns : List Int) (s : List (Int × Bool)), s.length * 2 ^ ns.length ≤ 1000000 → ∃ s', (forF (fun a2 s1 => Fl.fb (forF (fun a4 s3 => bnd (putR s3 (a4 + a2) true) fun l5 =>
  .nx l5) ((s1).map (·.1)) s1) fun s3 => (.nx s3 : Fl (List (Int × Bool)) (List (Int × Bool)) (List Int))) ns s : Fl (List (Int × Bool)) Unit (List Int)) = .nx s' ∧ s'.length ≤ s.length * 2 ^ ns.length ∧ ((keys s).Nodup → (keys s').Nodup) ∧ ∀ x, x ∈ keys s' ↔ ∃ a ∈ keys s, ∃ f, x = a + mS ns f
  | [], s, _ => ⟨s, rfl, by simp, fun h => h, fun x => ⟨fun h => ⟨x, h, fun _ => false, by simp [mS]⟩, fun ⟨a, ha, f, e⟩ => by rw [e]; simpa [mS] using ha⟩⟩
  | n :: ns, s, h => by
    rw [List.length_cons, Nat.pow_succ] at h
    have hp : 1 ≤ 2 ^ ns.length := Nat.one_le_two_pow
    have h2 : s.length * 2 ≤ s.length * (2 ^ ns.length * 2) := Nat.mul_le_mul_left _ (by omega)
    obtain ⟨s1, e1, l1, d1, m1⟩ := inner_ok n (s.map (·.1)) s (by rw [List.length_map]; omega)
    rw [List.length_map] at l1
    have l2 : s1.length * 2 ^ ns.length ≤ s.length * (2 ^ ns.length * 2) := by
      have := Nat.mul_le_mul_right (2 ^ ns.length) (show s1.length ≤ s.length * 2 by omega)
      rw [Nat.mul_assoc, Nat.mul_comm 2] at this
      exact this
    obtain ⟨s', e', l', d', m'⟩ := outer_ok ns s1 (by omega)
    refine ⟨s', ?_, by rw [List.length_cons, Nat.pow_succ]; omega, fun d => d' (d1 d), fun x => ?_⟩
    · unfold forF
      rw [e1, fb_nx]
      exact e'
    · rw [m']
      constructor
      · rintro ⟨a, ha, f, e⟩
        rcases (m1 a).mp ha with z | ⟨b, hb, z⟩
        · exact ⟨a, z, fun i => if i = 0 then false else f (i - 1), by simp [mS, e]⟩
        · refine ⟨b, hb, fun i => if i = 0 then true else f (i - 1), ?_⟩
          have q : mS (n :: ns) (fun i => if i = 0 then true else f (i - 1)) = n + mS ns f := by simp [mS]
          rw [q]; omega
      · rintro ⟨a, ha, f, e⟩
        cases hf : f 0 with
        | false => exact ⟨a, (m1 a).mpr (.inl ha), fun i => f (i + 1), by simpa [mS, hf] using e⟩
        | true => exact ⟨a + n, (m1 _).mpr (.inr ⟨a, ha, rfl⟩), fun i => f (i + 1), by simp [mS, hf] at e; omega⟩
theorem sums_ok {ns : List Int} (h : ns.length ≤ 5) : ∃ A, F_all_sums ns = .ok A ∧ A.Pairwise (· < ·) ∧ A.length ≤ 32 ∧ ∀ x, x ∈ A ↔ ∃ f, x = mS ns f := by
  have hp : 2 ^ ns.length ≤ 2 ^ 5 := Nat.pow_le_pow_right (by omega) h
  obtain ⟨s, e, l, d, m⟩ := outer_ok ns [((0 : Int), true)] (by simp; omega)
  simp only [List.length_singleton, Nat.one_mul] at l
  have d := d (by simp)
  have hs : s.length < 64 := by omega
  have pm : (sortI (keys s)).Perm (keys s) := List.mergeSort_perm _ _
  refine ⟨sortI (keys s), ?_, ?_, by rw [pm.length_eq, List.length_map]; omega, fun x => ?_⟩
  · unfold F_all_sums F_all_sums_
    rw [e, fb_nx, if_pos hs, bnd_ok]
    rfl
  · have := List.pairwise_mergeSort (le := fun a b : Int => decide (a ≤ b)) (fun a b c h1 h2 => by simp only [decide_eq_true_eq] at *; omega) (fun a b => by simp only [Bool.or_eq_true, decide_eq_true_eq]; omega) (keys s)
    have nd : (sortI (keys s)).Nodup := pm.nodup_iff.mpr d
    exact (List.pairwise_and_iff.mpr ⟨this, nd⟩).imp fun ⟨h1, h2⟩ => by
      simp only [decide_eq_true_eq] at h1
      have h2 : _ ≠ _ := h2
      omega
  · rw [pm.mem_iff, m]
    simp
theorem asc_eq {A B : List Int} (hA : A.Pairwise (· < ·)) (hB : B.Pairwise (· < ·)) (h : ∀ x, x ∈ A ↔ x ∈ B) : A = B := by
  have dA : A.Nodup := hA.imp fun h => by omega
  have dB : B.Nodup := hB.imp fun h => by omega
  exact List.Perm.eq_of_pairwise (le := fun a b : Int => a ≤ b) (fun a b _ _ h1 h2 => Int.le_antisymm h1 h2) (hA.imp fun h => by omega) (hB.imp fun h => by omega) ((List.perm_ext_iff_of_nodup dA dB).mpr h)
end K22
end

section
set_option Elab.async false
set_option linter.all false
set_option maxRecDepth 100000
set_option maxHeartbeats 1000000
namespace K22
open PySem L2 FX TY
theorem ixR_at {S : List Pt} {k : Nat} (h : k < S.length) : ixR S (k : Int) = .ok (at_ S k) := by
  have e : ixN S.length (k : Int) = some k := by
    unfold ixN
    simp only [Int.toNat_natCast]
    rw [if_pos (by omega), if_pos (by omega)]
  unfold ixR atI at_
  rw [e]
  simp [List.getD_eq_getElem?_getD, List.getElem?_eq_getElem h]
theorem mem_enumP {α : Type} {d : α} : ∀ {l : List α} {k : Int} {a : Int × α}, a ∈ enumP k l ↔ ∃ j : Nat, j < l.length ∧ a = (k + j, l.getD j d)
  | [], k, a => by simp [enumP]
  | x :: l, k, a => by
    simp only [enumP, List.mem_cons, mem_enumP (l := l) (d := d), List.length_cons]
    constructor
    · rintro (rfl | ⟨j, hj, rfl⟩)
      · exact ⟨0, by omega, by simp⟩
      · exact ⟨j + 1, by omega, by simp; omega⟩
    · rintro ⟨j, hj, rfl⟩
      cases j with
      | zero => left; simp
      | succ j => right; exact ⟨j, by omega, by simp; omega⟩
def apB (c s o t : Pt) : Bool := decide (c.1 + s.1 ≤ o.1) || decide (o.1 + t.1 ≤ c.1) || decide (c.2 + s.2 ≤ o.2) || decide (o.2 + t.2 ≤ c.2)
theorem apB_iff {c s o t : Pt} : apB c s o t = true ↔ ap c s o t := by
  unfold apB ap
  simp only [Bool.or_eq_true, decide_eq_true_eq, or_assoc]
theorem apart_ok (c s o t : Pt) : F_are_apart c s o t = .ok (apB c s o t) := by
  unfold F_are_apart F_are_apart_ apB
  by_cases h1 : (decide (c.1 + s.1 ≤ o.1) || decide (o.1 + t.1 ≤ c.1)) = true
  · rw [if_pos h1, h1]; rfl
  · rw [if_neg h1]
    have h1' : (decide (c.1 + s.1 ≤ o.1) || decide (o.1 + t.1 ≤ c.1)) = false := by simpa using h1
    rw [h1', Bool.false_or]
    by_cases h2 : decide (c.2 + s.2 ≤ o.2) = true
    · rw [if_pos h2, h2]; rfl
    · have h2' : decide (c.2 + s.2 ≤ o.2) = false := by simpa using h2
      rw [if_neg h2, h2']; rfl
/-- apart from all that lie -/
def apAll (S : List Pt) (p : List Pt) (c : Pt) : Bool := (enumP 0 p).all fun a => apB c (at_ S p.length) a.2 (at_ S a.1.toNat)
theorem apAll_iff {S p : List Pt} {c : Pt} : apAll S p c = true ↔ ∀ j, j < p.length → ap c (at_ S p.length) (at_ p j) (at_ S j) := by
  unfold apAll
  rw [List.all_eq_true]
  constructor
  · intro h j hj
    have := h (0 + (j : Int), p.getD j (0, 0)) (mem_enumP.mpr ⟨j, hj, rfl⟩)
    rw [apB_iff] at this
    simpa [at_] using this
  · intro h a ha
    obtain ⟨j, hj, rfl⟩ := mem_enumP (d := ((0, 0) : Pt)).mp ha
    rw [apB_iff]
    simpa [at_] using h j hj
def okP (S : List Pt) (W D : Int) (p : List Pt) (c : Pt) : Bool := !(decide (W < c.1 + (at_ S p.length).1) || decide (D < c.2 + (at_ S p.length).2)) && apAll S p c
theorem can_ok {b : BedT} {p : List Pt} {c : Pt} (h : p.length < b.1.length) (h2 : b.1.length ≤ 1000) : F_Bed__can_lie__L b p c = .ok (okP b.1 b.2.2.1 b.2.2.2 p c) := by
  unfold F_Bed__can_lie__L F_Bed__can_lie__L_ okP
  rw [ixR_at h, bnd_ok]
  by_cases h1 : (decide (b.2.2.1 < c.1 + (at_ b.1 p.length).1) || decide (b.2.2.2 < c.2 + (at_ b.1 p.length).2)) = true
  · rw [if_pos h1, h1]; rfl
  · have h1' : (decide (b.2.2.1 < c.1 + (at_ b.1 p.length).1) || decide (b.2.2.2 < c.2 + (at_ b.1 p.length).2)) = false := by simpa using h1
    rw [if_neg h1, h1', Bool.not_false, Bool.true_and]
    have el : (enumP 0 p).length = p.length := by
      have : ∀ (l : List Pt) (k : Int), (enumP k l).length = l.length := fun l => by
        induction l with
        | nil => intro k; rfl
        | cons a l ih => intro k; simp [enumP, ih]
      exact this p 0
    rw [lcR_map (fun a : Int × Pt => apB c (at_ b.1 p.length) a.2 (at_ b.1 a.1.toNat)) (enumP 0 p) (fun a ha => ⟨rfl, ?_⟩) (by rw [el]; omega), bnd_ok]
    · unfold apAll
      rw [List.all_map]
      rfl
    · obtain ⟨j, hj, rfl⟩ := mem_enumP (d := ((0, 0) : Pt)).mp ha
      have e : (0 : Int) + (j : Int) = (j : Int) := by omega
      dsimp only
      rw [e, ixR_at (by omega), bnd_ok, apart_ok, bnd_ok]
      simp
/-- the first that gives something -/
theorem find_ok {α β σ : Type} {f : α → Unit → Fl Unit Unit (Option β)} {g : α → Option β} : ∀ {l : List α}, (∀ a ∈ l, f a () = match g a with | some w => .rt (some w) | none => .nx ()) → (forF f l () : Fl Unit σ (Option β)) = match l.findSome? g with | some w => .rt (some w) | none => .nx ()
  | [], _ => rfl
  | a :: l, h => by
    unfold forF
    rw [h a List.mem_cons_self, List.findSome?_cons]
    cases g a with
    | some w => rfl
    | none => exact find_ok fun b hb => h b (List.mem_cons_of_mem _ hb)
theorem filled_ok {b : BedT} (h2 : b.1.length ≤ 500) : ∀ (r m : Nat) (p : List Pt), p.length + r = b.1.length → r < m → F_Bed__filled__L m b p = .ok (dfs (fun _ => b.2.1) (okP b.1 b.2.2.1 b.2.2.2) r p)
  | _, 0, _, _, hm => by omega
  | 0, m + 1, p, hp, hm => by
    unfold F_Bed__filled__L F_Bed__filled__L_
    rw [if_pos (by simp; omega)]
    rfl
  | r + 1, m + 1, p, hp, hm => by
    unfold F_Bed__filled__L F_Bed__filled__L_
    rw [if_neg (by simp; omega)]
    rw [find_ok (g := fun c => if okP b.1 b.2.2.1 b.2.2.2 p c = true then dfs (fun _ => b.2.1) (okP b.1 b.2.2.1 b.2.2.2) r (p ++ [c]) else none) fun c _ => ?_]
    · show _ = Res.ok (b.2.1.findSome? _)
      generalize b.2.1.findSome? _ = x
      cases x <;> rfl
    · rw [can_ok (by omega) (by omega), bnd_ok]
      by_cases z : okP b.1 b.2.2.1 b.2.2.2 p c = true
      · rw [if_pos z, if_pos z, limR_ok (by simp; omega), bnd_ok, filled_ok h2 r m (p ++ [c]) (by simp; omega) (by omega), bnd_ok]
        cases dfs (fun _ => b.2.1) (okP b.1 b.2.2.1 b.2.2.2) r (p ++ [c]) <;> rfl
      · rw [if_neg z, if_neg z]; rfl
end K22
end

section
set_option Elab.async false
set_option linter.all false
set_option maxRecDepth 100000
set_option maxHeartbeats 1000000
namespace K22
open PySem L2 FX TY
theorem ext_ok {α γ : Type} {h : α → Res (List γ)} (g : α → List γ) : ∀ (l : List α) (acc : List γ), (∀ a ∈ l, h a = .ok (g a) ∧ (g a).length ≤ 32) → acc.length + 32 * l.length ≤ 1000000 → extF h l acc = .ok (acc ++ l.flatMap g)
  | [], acc, _, _ => by simp [extF]
  | a :: l, acc, hp, hl => by
    obtain ⟨h1, h2⟩ := hp a List.mem_cons_self
    rw [List.length_cons] at hl
    unfold extF
    rw [h1, bnd_ok, if_pos (by omega), ext_ok g l _ (fun b hb => hp b (List.mem_cons_of_mem _ hb)) (by rw [List.length_append]; omega)]
    simp
theorem bed_ok {S : List Pt} (h : S.length ≤ 5) : ∃ C : List Pt, (∀ W D, F_Bed____init____L S W D = .ok (S, C, W, D)) ∧ C.Pairwise pl ∧ ∀ c : Pt, c ∈ C ↔ (∃ f, c.1 = mS (S.map (·.1)) f) ∧ ∃ f, c.2 = mS (S.map (·.2)) f := by
  obtain ⟨SX, ex, px, lx', mx⟩ := sums_ok (ns := S.map (·.1)) (by rw [List.length_map]; exact h)
  obtain ⟨SY, ey, py, ly, my⟩ := sums_ok (ns := S.map (·.2)) (by rw [List.length_map]; exact h)
  refine ⟨SX.flatMap fun x => SY.map fun y => (x, y), fun W D => ?_, ?_, fun c => ?_⟩
  · unfold F_Bed____init____L F_Bed____init____L_
    rw [lcR_map (fun a : Pt => a.1) S (fun a _ => ⟨rfl, rfl⟩) (by omega), bnd_ok, ex, bnd_ok, ext_ok (fun x => SY.map fun y => (x, y)) SX [] (fun x _ => ⟨?_, by rw [List.length_map]; exact ly⟩) (by simp; omega), bnd_ok]
    · simp only [List.nil_append, res_rt]
    · rw [lcR_map (fun a : Pt => a.2) S (fun a _ => ⟨rfl, rfl⟩) (by omega), bnd_ok, ey, bnd_ok, lcR_map (fun y : Int => ((x, y) : Pt)) SY (fun a _ => ⟨rfl, rfl⟩) (by omega), bnd_ok]
  · rw [List.pairwise_flatMap]
    refine ⟨fun x _ => ?_, px.imp fun {x x'} hx a ha b hb => ?_⟩
    · rw [List.pairwise_map]
      exact py.imp fun {y y'} hy => .inr ⟨rfl, hy⟩
    · obtain ⟨y, _, rfl⟩ := List.mem_map.mp ha
      obtain ⟨y', _, rfl⟩ := List.mem_map.mp hb
      exact .inl hx
  · rw [List.mem_flatMap]
    constructor
    · rintro ⟨x, hx, hc⟩
      obtain ⟨y, hy, rfl⟩ := List.mem_map.mp hc
      exact ⟨(mx x).mp hx, (my y).mp hy⟩
    · rintro ⟨h1, h2⟩
      exact ⟨c.1, (mx _).mpr h1, List.mem_map.mpr ⟨c.2, (my _).mpr h2, rfl⟩⟩
/-! ### the law's own trial -/
def gridK (S : List Pt) (W D : Int) (k : Nat) : List Pt := (rngI 0 (W - (at_ S k).1 + 1)).flatMap fun x => (rngI 0 (D - (at_ S k).2 + 1)).map fun y => (x, y)
theorem mem_rngI {n x : Int} : x ∈ rngI 0 n ↔ 0 ≤ x ∧ x < n := by
  unfold rngI
  rw [List.mem_map]
  constructor
  · rintro ⟨i, hi, rfl⟩
    rw [List.mem_range] at hi
    omega
  · rintro ⟨h1, h2⟩
    exact ⟨x.toNat, by rw [List.mem_range]; omega, by omega⟩
theorem rngI_asc (n : Int) : (rngI 0 n).Pairwise (· < ·) := by
  unfold rngI
  rw [List.pairwise_map]
  exact (List.pairwise_lt_range).imp fun h => by omega
theorem grid_asc (S : List Pt) (W D : Int) (k : Nat) : (gridK S W D k).Pairwise pl := by
  unfold gridK
  rw [List.pairwise_flatMap]
  refine ⟨fun x _ => ?_, (rngI_asc _).imp fun {x x'} hx a ha b hb => ?_⟩
  · rw [List.pairwise_map]
    exact (rngI_asc _).imp fun {y y'} hy => .inr ⟨rfl, hy⟩
  · obtain ⟨y, _, rfl⟩ := List.mem_map.mp ha
    obtain ⟨y', _, rfl⟩ := List.mem_map.mp hb
    exact .inl hx
theorem mem_grid {S : List Pt} {W D : Int} {k : Nat} {c : Pt} : c ∈ gridK S W D k ↔ (0 ≤ c.1 ∧ c.1 + (at_ S k).1 ≤ W) ∧ (0 ≤ c.2 ∧ c.2 + (at_ S k).2 ≤ D) := by
  unfold gridK
  rw [List.mem_flatMap]
  constructor
  · rintro ⟨x, hx, hc⟩
    obtain ⟨y, hy, rfl⟩ := List.mem_map.mp hc
    rw [mem_rngI] at hx hy
    dsimp only
    omega
  · rintro ⟨h1, h2⟩
    exact ⟨c.1, mem_rngI.mpr (by omega), List.mem_map.mpr ⟨c.2, mem_rngI.mpr (by omega), rfl⟩⟩
theorem free_ok {α σ β : Type} {f : α → Bool → Fl Bool Bool β} {g : α → Bool} : ∀ {l : List α} {s : Bool}, (∀ a ∈ l, ∀ s, f a s = .nx (s && g a)) → (forF f l s : Fl Bool σ β) = .nx (s && l.all g)
  | [], s, _ => by simp [forF]
  | a :: l, s, h => by
    unfold forF
    rw [h a List.mem_cons_self s]
    simp only
    rw [free_ok (fun b hb => h b (List.mem_cons_of_mem _ hb))]
    simp [Bool.and_assoc]
theorem find_flat {β : Type} {g : Pt → Option β} {ys : List Int} : ∀ xs : List Int, (xs.flatMap fun x => ys.map fun y => (x, y)).findSome? g = xs.findSome? fun x => ys.findSome? fun y => g (x, y)
  | [] => rfl
  | x :: xs => by
    rw [List.flatMap_cons, List.findSome?_append, find_flat xs, List.findSome?_cons, List.findSome?_map]
    have : (g ∘ fun y => (x, y)) = fun y => g (x, y) := rfl
    rw [this]
    cases ys.findSome? fun y => g (x, y) <;> rfl
theorem lie_ok {S : List Pt} {W D : Int} (h2 : S.length ≤ 500) (hW : ∀ k, k < S.length → okR (W - (at_ S k).1 + 1) = true ∧ okR (D - (at_ S k).2 + 1) = true) : ∀ (r m : Nat) (p : List Pt), p.length + r = S.length → r < m → F__law_lie m S W D p = .ok (dfs (gridK S W D) (apAll S) r p)
  | _, 0, _, _, hm => by omega
  | 0, m + 1, p, hp, hm => by
    unfold F__law_lie F__law_lie_
    rw [if_pos (by simp; omega)]
    rfl
  | r + 1, m + 1, p, hp, hm => by
    obtain ⟨oW, oD⟩ := hW p.length (by omega)
    have o0 : okR 0 = true := by decide
    unfold F__law_lie F__law_lie_
    rw [if_neg (by simp; omega), ixR_at (by omega), bnd_ok]
    unfold rng
    rw [if_pos ⟨o0, oW⟩, bnd_ok]
    rw [find_ok (g := fun x => (rngI 0 (D - (at_ S p.length).2 + 1)).findSome? fun y => if apAll S p (x, y) = true then dfs (gridK S W D) (apAll S) r (p ++ [(x, y)]) else none) fun x _ => ?_]
    · show _ = Res.ok ((gridK S W D p.length).findSome? _)
      unfold gridK
      rw [find_flat]
      generalize (rngI 0 (W - (at_ S p.length).1 + 1)).findSome? _ = x
      cases x <;> rfl
    · rw [if_pos ⟨o0, oD⟩, bnd_ok]
      rw [find_ok (g := fun y => if apAll S p (x, y) = true then dfs (gridK S W D) (apAll S) r (p ++ [(x, y)]) else none) fun y _ => ?_]
      · generalize (rngI 0 (D - (at_ S p.length).2 + 1)).findSome? _ = z
        cases z <;> rfl
      · rw [free_ok (g := fun a : Int × Pt => apB (x, y) (at_ S p.length) a.2 (at_ S a.1.toNat)) fun a ha s => ?_, fb_nx, Bool.true_and]
        · show Fl.fb (if apAll S p (x, y) = true then _ else _) _ = _
          by_cases z : apAll S p (x, y) = true
          · rw [if_pos z, if_pos z, sizeR_ok (by simp; omega), bnd_ok, lie_ok h2 hW r m (p ++ [(x, y)]) (by simp; omega) (by omega), bnd_ok]
            cases dfs (gridK S W D) (apAll S) r (p ++ [(x, y)]) <;> rfl
          · rw [if_neg z, if_neg z]; rfl
        · obtain ⟨j, hj, rfl⟩ := mem_enumP (d := ((0, 0) : Pt)).mp ha
          have e : (0 : Int) + (j : Int) = (j : Int) := by omega
          dsimp only
          rw [e, ixR_at (by omega), bnd_ok, Int.toNat_natCast]
          generalize p.getD j (0, 0) = c
          generalize at_ S j = v
          generalize at_ S p.length = u
          have q : apB (x, y) u c v = !(decide (x < c.1 + v.1) && (decide (c.1 < x + u.1) && (decide (y < c.2 + v.2) && decide (c.2 < y + u.2)))) := by
            unfold apB
            rw [Bool.eq_iff_iff]
            simp only [Bool.or_eq_true, decide_eq_true_eq, Bool.not_eq_true', Bool.and_eq_false_iff, decide_eq_false_iff_not]
            omega
          rw [q]
          by_cases z : (decide (x < c.1 + v.1) && (decide (c.1 < x + u.1) && (decide (y < c.2 + v.2) && decide (c.2 < y + u.2)))) = true
          · rw [if_pos z, z]; simp [fb_nx]
          · rw [if_neg z]
            have z' : (decide (x < c.1 + v.1) && (decide (c.1 < x + u.1) && (decide (y < c.2 + v.2) && decide (c.2 < y + u.2)))) = false := by simpa using z
            rw [z']; simp [fb_nx]
end K22
end

section
set_option Elab.async false
set_option linter.all false
set_option maxRecDepth 100000
set_option maxHeartbeats 1000000
namespace K22
open PySem L2 FX TY
theorem at_take {q : List Pt} {k j : Nat} (h : j < k) : at_ (q.take k) j = at_ q j := by
  unfold at_
  rw [List.getD_eq_getElem?_getD, List.getD_eq_getElem?_getD, List.getElem?_take, if_pos h]
theorem ap_take {S q : List Pt} {k : Nat} (h : k ≤ q.length) {c : Pt} : apAll S ([] ++ q.take k) c = true ↔ ∀ j, j < k → ap c (at_ S k) (at_ q j) (at_ S j) := by
  have e : ([] ++ q.take k).length = k := by rw [List.nil_append, List.length_take]; omega
  rw [apAll_iff, e]
  refine ⟨fun z j hj => ?_, fun z j hj => ?_⟩
  · have := z j hj
    rw [List.nil_append, at_take hj] at this
    exact this
  · rw [List.nil_append, at_take hj]
    exact z j hj
theorem good_lie {S : List Pt} {W D : Int} {q : List Pt} (hl : q.length = S.length) : Good (gridK S W D) (apAll S) [] q ↔ Lie S W D q := by
  rw [good_at]
  unfold Lie
  rw [hl]
  refine ⟨fun z k hk => ?_, fun z k hk => ?_⟩
  · obtain ⟨z1, z2⟩ := z k hk
    rw [List.length_nil, Nat.zero_add] at z1
    obtain ⟨⟨m1, m2⟩, m3, m4⟩ := mem_grid.mp z1
    exact ⟨m1, m2, m3, m4, (ap_take (by omega)).mp z2⟩
  · obtain ⟨z1, z2, z3, z4, z5⟩ := z k hk
    rw [List.length_nil, Nat.zero_add]
    exact ⟨mem_grid.mpr ⟨⟨z1, z2⟩, z3, z4⟩, (ap_take (by omega)).mpr z5⟩
theorem good_p {S C : List Pt} {W D : Int} {q : List Pt} (hl : q.length = S.length) : Good (fun _ => C) (okP S W D) [] q ↔ ∀ k, k < S.length → at_ q k ∈ C ∧ (at_ q k).1 + (at_ S k).1 ≤ W ∧ (at_ q k).2 + (at_ S k).2 ≤ D ∧ ∀ j, j < k → ap (at_ q k) (at_ S k) (at_ q j) (at_ S j) := by
  rw [good_at, hl]
  have e : ∀ k, k < S.length → ([] ++ q.take k).length = k := fun k hk => by rw [List.nil_append, List.length_take]; omega
  have ok : ∀ k, k < S.length → (okP S W D ([] ++ q.take k) (at_ q k) = true ↔ (at_ q k).1 + (at_ S k).1 ≤ W ∧ (at_ q k).2 + (at_ S k).2 ≤ D ∧ ∀ j, j < k → ap (at_ q k) (at_ S k) (at_ q j) (at_ S j)) := fun k hk => by
    unfold okP
    rw [Bool.and_eq_true, ap_take (by omega), e k hk, ← and_assoc]
    refine and_congr_left fun _ => ?_
    simp only [Bool.not_eq_true', Bool.or_eq_false_iff, decide_eq_false_iff_not]
    omega
  refine ⟨fun z k hk => ?_, fun z k hk => ?_⟩
  · obtain ⟨z1, z2⟩ := z k hk
    exact ⟨z1, (ok k hk).mp z2⟩
  · obtain ⟨z1, z2⟩ := z k hk
    exact ⟨z1, (ok k hk).mpr z2⟩
def Pos (S : List Pt) : Prop := ∀ k, k < S.length → 0 < (at_ S k).1 ∧ 0 < (at_ S k).2
theorem mS_nn : ∀ {ns : List Int} {f : Nat → Bool}, (∀ n ∈ ns, 0 < n) → 0 ≤ mS ns f
  | [], f, _ => Int.le_refl _
  | n :: ns, f, h => by
    have h1 := h n List.mem_cons_self
    have h2 := mS_nn (f := fun i => f (i + 1)) fun m hm => h m (List.mem_cons_of_mem _ hm)
    unfold mS
    split <;> omega
theorem Pos.mem {S : List Pt} (h : Pos S) : ∀ s ∈ S, 0 < s.1 ∧ 0 < s.2 := fun s hs => by
  obtain ⟨k, hk, e⟩ := List.getElem_of_mem hs
  have := h k hk
  have ea : at_ S k = s := by unfold at_; rw [List.getD_eq_getElem?_getD, List.getElem?_eq_getElem hk, e]; rfl
  rwa [ea] at this
/-- the corners that the program looks at -/
def Crn (S C : List Pt) : Prop := C.Pairwise pl ∧ ∀ c : Pt, c ∈ C ↔ (∃ f, c.1 = mS (S.map (·.1)) f) ∧ ∃ f, c.2 = mS (S.map (·.2)) f
def bestL (S : List Pt) (W D : Int) : Option (List Pt) := dfs (gridK S W D) (apAll S) S.length []
theorem search_eq {S C : List Pt} {W D : Int} (hC : Crn S C) (hp : Pos S) : dfs (fun _ => C) (okP S W D) S.length [] = bestL S W D := by
  refine dfs_eq (fun k => grid_asc S W D k) (fun _ => hC.1) S.length (fun q hl g => ?_) fun q hl g m => ?_
  · rw [good_lie hl]
    rw [good_p hl] at g
    intro k hk
    obtain ⟨g1, g2, g3, g4⟩ := g k hk
    obtain ⟨⟨f1, e1⟩, f2, e2⟩ := (hC.2 _).mp g1
    refine ⟨?_, g2, ?_, g3, g4⟩
    · rw [e1]; exact mS_nn fun n hn => by obtain ⟨s, hs, rfl⟩ := List.mem_map.mp hn; exact (hp.mem s hs).1
    · rw [e2]; exact mS_nn fun n hn => by obtain ⟨s, hs, rfl⟩ := List.mem_map.mp hn; exact (hp.mem s hs).2
  · rw [good_lie hl] at g
    have m' : ∀ q', q'.length = S.length → Lie S W D q' → ¬ lx q' q := fun q' h1 h2 => m q' h1 ((good_lie h1).mpr h2)
    rw [good_p hl]
    intro k hk
    obtain ⟨b1, b2, b3, b4, b5⟩ := g k hk
    obtain ⟨f1, e1, _⟩ := mask_x hl g m' (fun k hk => (hp k hk).1) (at_ q k).1.toNat k hk (by omega)
    obtain ⟨f2, e2, _⟩ := mask_y hl g m' (fun k hk => (hp k hk).2) (at_ q k).2.toNat k hk (by omega)
    exact ⟨(hC.2 _).mpr ⟨⟨f1, e1⟩, f2, e2⟩, b2, b4, b5⟩
/-! ### scaled -/
def sc (t : Int) (c : Pt) : Pt := (c.1 * t, c.2 * t)
theorem at_sc (t : Int) (S : List Pt) (k : Nat) : at_ (S.map (sc t)) k = sc t (at_ S k) := by
  unfold at_
  rw [List.getD_eq_getElem?_getD, List.getD_eq_getElem?_getD, List.getElem?_map]
  cases S[k]? with
  | none => simp [sc]
  | some c => rfl
theorem mS_sc (t : Int) : ∀ (ns : List Int) (f : Nat → Bool), mS (ns.map (· * t)) f = mS ns f * t
  | [], f => by simp [mS]
  | n :: ns, f => by
    simp only [List.map_cons, mS, mS_sc t ns, Int.add_mul]
    split <;> simp
theorem pl_eq {A B : List Pt} (hA : A.Pairwise pl) (hB : B.Pairwise pl) (h : ∀ x, x ∈ A ↔ x ∈ B) : A = B := by
  have dA : A.Nodup := hA.imp fun {a b} h z => by subst z; exact pl_irr _ h
  have dB : B.Nodup := hB.imp fun {a b} h z => by subst z; exact pl_irr _ h
  exact List.Perm.eq_of_pairwise (le := fun a b => pl a b ∨ a = b) (fun a b _ _ h1 h2 => by
    rcases h1 with h1 | h1
    · rcases h2 with h2 | h2
      · exact absurd h2 (pl_asym h1)
      · exact h2.symm
    · exact h1) (hA.imp .inl) (hB.imp .inl) ((List.perm_ext_iff_of_nodup dA dB).mpr h)
theorem pl_sc {t : Int} (ht : 0 < t) {a b : Pt} (h : pl a b) : pl (sc t a) (sc t b) := by
  rcases h with h | ⟨h1, h2⟩
  · exact .inl (Int.mul_lt_mul_of_pos_right h ht)
  · exact .inr ⟨by show a.1 * t = b.1 * t; rw [h1], Int.mul_lt_mul_of_pos_right h2 ht⟩
theorem crn_sc {S C C' : List Pt} {t : Int} (ht : 0 < t) (h : Crn S C) (h' : Crn (S.map (sc t)) C') : C' = C.map (sc t) := by
  refine pl_eq h'.1 ?_ fun c => ?_
  · rw [List.pairwise_map]; exact h.1.imp fun h => pl_sc ht h
  · have e1 : (S.map (sc t)).map (·.1) = (S.map (·.1)).map (· * t) := by simp [sc]
    have e2 : (S.map (sc t)).map (·.2) = (S.map (·.2)).map (· * t) := by simp [sc]
    rw [h'.2, e1, e2, List.mem_map]
    constructor
    · rintro ⟨⟨f, ef⟩, g, eg⟩
      rw [mS_sc] at ef eg
      exact ⟨(mS (S.map fun s : Pt => s.1) f, mS (S.map fun s : Pt => s.2) g), (h.2 _).mpr ⟨⟨f, rfl⟩, g, rfl⟩, Prod.ext ef.symm eg.symm⟩
    · rintro ⟨c0, hc, rfl⟩
      obtain ⟨⟨f, ef⟩, g, eg⟩ := (h.2 _).mp hc
      exact ⟨⟨f, by rw [mS_sc, ← ef]; rfl⟩, g, by rw [mS_sc, ← eg]; rfl⟩
theorem le_sc {t a b c : Int} (ht : 0 < t) : a * t + b * t ≤ c * t ↔ a + b ≤ c := by
  rw [← Int.add_mul]
  exact ⟨fun h => Int.le_of_mul_le_mul_right h ht, fun h => Int.mul_le_mul_of_nonneg_right h (Int.le_of_lt ht)⟩
theorem lt_sc {t a b c : Int} (ht : 0 < t) : c * t < a * t + b * t ↔ c < a + b := by
  have := le_sc (a := a) (b := b) (c := c) ht
  omega
theorem ap_sc {t : Int} (ht : 0 < t) {c s o u : Pt} : ap (sc t c) (sc t s) (sc t o) (sc t u) ↔ ap c s o u := by
  unfold ap sc
  simp only [le_sc ht]
theorem okP_sc {S p : List Pt} {W D t : Int} (ht : 0 < t) (c : Pt) : okP (S.map (sc t)) (W * t) (D * t) (p.map (sc t)) (sc t c) = okP S W D p c := by
  unfold okP
  rw [List.length_map, at_sc]
  have e1 : (decide (W * t < (sc t c).1 + (sc t (at_ S p.length)).1) || decide (D * t < (sc t c).2 + (sc t (at_ S p.length)).2)) = (decide (W < c.1 + (at_ S p.length).1) || decide (D < c.2 + (at_ S p.length).2)) := by
    unfold sc
    simp only [lt_sc ht]
  have e2 : apAll (S.map (sc t)) (p.map (sc t)) (sc t c) = apAll S p c := by
    rw [Bool.eq_iff_iff, apAll_iff, apAll_iff, List.length_map]
    refine forall_congr' fun j => forall_congr' fun hj => ?_
    rw [at_sc, at_sc, at_sc, ap_sc ht]
  rw [e1, e2]
theorem dfs_sc {S C : List Pt} {W D t : Int} (ht : 0 < t) : ∀ (r : Nat) (p : List Pt), dfs (fun _ => C.map (sc t)) (okP (S.map (sc t)) (W * t) (D * t)) r (p.map (sc t)) = (dfs (fun _ => C) (okP S W D) r p).map (List.map (sc t))
  | 0, p => rfl
  | r + 1, p => by
    unfold dfs
    have : ∀ l : List Pt, (l.map (sc t)).findSome? (fun c => if okP (S.map (sc t)) (W * t) (D * t) (p.map (sc t)) c = true then dfs (fun _ => C.map (sc t)) (okP (S.map (sc t)) (W * t) (D * t)) r (p.map (sc t) ++ [c]) else none) = (l.findSome? fun c => if okP S W D p c = true then dfs (fun _ => C) (okP S W D) r (p ++ [c]) else none).map (List.map (sc t)) := fun l => by
      induction l with
      | nil => rfl
      | cons c l ih =>
        rw [List.map_cons, List.findSome?_cons, List.findSome?_cons, okP_sc ht]
        by_cases z : okP S W D p c = true
        · rw [if_pos z, if_pos z]
          have := dfs_sc (S := S) (C := C) (W := W) (D := D) ht r (p ++ [c])
          rw [List.map_append, List.map_singleton] at this
          rw [this]
          cases dfs (fun _ => C) (okP S W D) r (p ++ [c]) with
          | none => exact ih
          | some w => rfl
        · rw [if_neg z, if_neg z]; exact ih
    exact this C
theorem search_sc {S C' : List Pt} {W D t : Int} (ht : 0 < t) (h5 : S.length ≤ 5) (hp : Pos S) (h' : Crn (S.map (sc t)) C') : dfs (fun _ => C') (okP (S.map (sc t)) (W * t) (D * t)) S.length [] = (bestL S W D).map (List.map (sc t)) := by
  obtain ⟨C, _, h1, h2⟩ := bed_ok h5
  rw [crn_sc ht ⟨h1, h2⟩ h', ← search_eq ⟨h1, h2⟩ hp]
  exact dfs_sc ht S.length []
end K22
end

section
set_option Elab.async false
set_option linter.all false
set_option maxRecDepth 100000
set_option maxHeartbeats 1000000
namespace K22
open PySem L2 FX TY
/-! ### the least number of rows -/
theorem mS_mono : ∀ {ns : List Int} {f g : Nat → Bool}, (∀ n ∈ ns, 0 < n) → (∀ i, f i = true → g i = true) → mS ns f ≤ mS ns g
  | [], _, _, _, _ => Int.le_refl _
  | n :: ns, f, g, h, hf => by
    have h1 := h n List.mem_cons_self
    have h2 := mS_mono (f := fun i => f (i + 1)) (g := fun i => g (i + 1)) (fun m hm => h m (List.mem_cons_of_mem _ hm)) fun i => hf (i + 1)
    unfold mS
    by_cases z : f 0 = true
    · rw [if_pos z, if_pos (hf 0 z)]; omega
    · rw [if_neg z]; split <;> omega
abbrev hs (S : List Pt) : List Int := S.map (·.2)
theorem hs_at {S : List Pt} {k : Nat} (h : k < S.length) : (hs S).getD k 0 = (at_ S k).2 := by
  unfold at_
  rw [List.getD_eq_getElem?_getD, List.getD_eq_getElem?_getD, List.getElem?_map, List.getElem?_eq_getElem h]
  rfl
theorem hs_pos {S : List Pt} (hp : Pos S) : ∀ n ∈ hs S, 0 < n := fun n hn => by obtain ⟨s, hs, rfl⟩ := List.mem_map.mp hn; exact (hp.mem s hs).2
theorem mS_step {S : List Pt} {k : Nat} (h : k < S.length) : mS (hs S) (fun i => decide (i < k + 1)) = mS (hs S) (fun i => decide (i < k)) + (at_ S k).2 := by
  rw [← hs_at h, ← mS_set (by rw [List.length_map]; exact h) (by simp)]
  congr 1
  funext i
  by_cases z : i = k
  · subst z; simp
  · rw [if_neg z]
    rw [Bool.eq_iff_iff]
    simp only [decide_eq_true_eq]
    omega
def Fs (S : List Pt) (W D : Int) : Prop := ∃ q, q.length = S.length ∧ Lie S W D q
theorem best_none {S : List Pt} {W D : Int} : bestL S W D = none ↔ ¬ Fs S W D := by
  obtain ⟨a1, a2⟩ := dfs_spec (ok := apAll S) (fun k => grid_asc S W D k) S.length []
  constructor
  · rintro h ⟨q, hl, g⟩
    exact a2 h q hl ((good_lie hl).mpr g)
  · intro h
    cases e : bestL S W D with
    | none => rfl
    | some w =>
      obtain ⟨q, _, hl, g, _⟩ := a1 w e
      exact absurd ⟨q, hl, (good_lie hl).mp g⟩ h
theorem stack_lie {S : List Pt} {W : Int} (hp : Pos S) (hw : ∀ k, k < S.length → (at_ S k).1 ≤ W) : Fs S W (mS (hs S) fun _ => true) := by
  have ea : ∀ k, k < S.length → at_ ((List.range S.length).map fun k => ((0 : Int), mS (hs S) fun i => decide (i < k))) k = (0, mS (hs S) fun i => decide (i < k)) := fun k hk => by
    unfold at_
    rw [List.getD_eq_getElem?_getD, List.getElem?_map, List.getElem?_range hk]
    rfl
  refine ⟨(List.range S.length).map fun k => ((0 : Int), mS (hs S) fun i => decide (i < k)), by simp, fun k hk => ?_⟩
  rw [ea k hk]
  refine ⟨Int.le_refl _, ?_, mS_nn (hs_pos hp), ?_, fun j hj => ?_⟩
  · have := hw k hk
    show 0 + _ ≤ W
    omega
  · show mS (hs S) _ + (at_ S k).2 ≤ _
    rw [← mS_step hk]
    exact mS_mono (hs_pos hp) fun i _ => rfl
  · rw [ea j (by omega)]
    refine .inr (.inr (.inr ?_))
    show mS (hs S) _ + (at_ S j).2 ≤ mS (hs S) _
    rw [← mS_step (by omega)]
    exact mS_mono (hs_pos hp) fun i hi => by simp only [decide_eq_true_eq] at hi ⊢; omega
theorem fs_wide {S : List Pt} {W D : Int} (h : Fs S W D) : ∀ k, k < S.length → (at_ S k).1 ≤ W := fun k hk => by
  obtain ⟨q, _, L⟩ := h
  have := L k hk
  omega
theorem fs_pos {S : List Pt} {W D : Int} (hp : Pos S) (h1 : 0 < S.length) (h : Fs S W D) : 1 ≤ D := by
  obtain ⟨q, _, L⟩ := h
  have := L 0 h1
  have := hp 0 h1
  omega
/-- the least number of rows, where there is one -/
theorem least_row {S : List Pt} {W : Int} (hp : Pos S) (h1 : 0 < S.length) (hw : ∀ k, k < S.length → (at_ S k).1 ≤ W) : ∃ ρ, Fs S W ρ ∧ (∀ D, Fs S W D → ρ ≤ D) ∧ ∃ f, ρ = mS (hs S) f := by
  have mn : ∀ N : Nat, Fs S W (N : Int) → ∃ ρ : Nat, Fs S W (ρ : Int) ∧ ∀ M : Nat, Fs S W (M : Int) → ρ ≤ M := by
    intro N
    induction N using Nat.strongRecOn with
    | _ N ih =>
      intro hN
      refine Classical.byCases (fun z : ∃ M : Nat, M < N ∧ Fs S W (M : Int) => ?_) fun z => ?_
      · obtain ⟨M, hM, hf⟩ := z
        exact ih M hM hf
      · exact ⟨N, hN, fun M hM => Classical.byContradiction fun q => z ⟨M, by omega, hM⟩⟩
  have s0 := stack_lie hp hw
  have p0 := fs_pos hp h1 s0
  obtain ⟨ρ, r1, r2⟩ := mn (mS (hs S) fun _ => true).toNat (by rw [Int.toNat_of_nonneg (by omega)]; exact s0)
  have r2' : ∀ D, Fs S W D → (ρ : Int) ≤ D := fun D hD => by
    have := fs_pos hp h1 hD
    have := r2 D.toNat (by rw [Int.toNat_of_nonneg (by omega)]; exact hD)
    omega
  refine ⟨ρ, r1, r2', ?_⟩
  have pρ := fs_pos hp h1 r1
  obtain ⟨a1, a2⟩ := dfs_spec (ok := apAll S) (fun k => grid_asc S W (ρ : Int) k) S.length []
  cases e : bestL S W ρ with
  | none => exact absurd r1 (best_none.mp e)
  | some w =>
    obtain ⟨q, _, hl, g, m⟩ := a1 w e
    rw [good_lie hl] at g
    have m' : ∀ q', q'.length = S.length → Lie S W ρ q' → ¬ lx q' q := fun q' h1 h2 => m q' h1 ((good_lie h1).mpr h2)
    refine Classical.byCases (fun z : ∃ k, k < S.length ∧ (at_ q k).2 + (at_ S k).2 = ρ => ?_) fun z => ?_
    · obtain ⟨k, hk, ek⟩ := z
      have gk := g k hk
      obtain ⟨f, ef, hf⟩ := mask_y hl g m' (fun k hk => (hp k hk).2) (at_ q k).2.toNat k hk (by omega)
      have nf : f k = false := by
        cases z : f k with
        | false => rfl
        | true => exact absurd (hf k z).2 (by omega)
      exact ⟨fun i => if i = k then true else f i, by rw [mS_set (by rw [List.length_map]; exact hk) nf, hs_at hk, ← ef, ek]⟩
    · have : Fs S W ((ρ : Int) - 1) := ⟨q, hl, fun k hk => by
        obtain ⟨b1, b2, b3, b4, b5⟩ := g k hk
        refine ⟨b1, b2, b3, ?_, b5⟩
        have : (at_ q k).2 + (at_ S k).2 ≠ ρ := fun e => z ⟨k, hk, e⟩
        omega⟩
      have := r2' _ this
      omega
theorem find_least {S : List Pt} {W ρ : Int} (h1 : Fs S W ρ) (h2 : ∀ D, Fs S W D → ρ ≤ D) : ∀ {L : List Int}, L.Pairwise (· < ·) → ρ ∈ L → L.findSome? (fun r => if (bestL S W r).isSome = true then some r else none) = some ρ
  | a :: L, p, m => by
    rw [List.findSome?_cons]
    rcases List.mem_cons.mp m with z | z
    · subst z
      have : (bestL S W ρ).isSome = true := by
        cases e : bestL S W ρ with
        | none => exact absurd h1 (best_none.mp e)
        | some w => rfl
      rw [if_pos this]
    · have lt := (List.pairwise_cons.mp p).1 ρ z
      have : ¬ (bestL S W a).isSome = true := fun q => by
        have : Fs S W a := Classical.byContradiction fun n => by rw [best_none.mpr n] at q; cases q
        have := h2 a this
        omega
      rw [if_neg this]
      exact find_least h1 h2 (List.pairwise_cons.mp p).2 z
theorem find_no {S : List Pt} {W : Int} (h : ∀ D, ¬ Fs S W D) (L : List Int) : L.findSome? (fun r => if (bestL S W r).isSome = true then some r else none) = none := by
  rw [List.findSome?_eq_none_iff]
  intro a _
  rw [best_none.mpr (h a)]
  rfl
end K22
end

section
set_option Elab.async false
set_option linter.all false
set_option maxRecDepth 100000
set_option maxHeartbeats 1000000
namespace K22
open PySem L2 FX TY
theorem within_ok (i a b : Int) : F_is_within i a b = .ok (decide (a ≤ i) && decide (i ≤ b)) := by
  unfold F_is_within F_is_within_ F_is_integer
  rfl
theorem number_ok {n : Int} (h1 : 1 ≤ n) (h2 : n ≤ 100000) : F_check_number n = .ok () := by
  unfold F_check_number F_check_number_
  rw [within_ok, bnd_ok, decide_eq_true h1, decide_eq_true h2]
  rfl
theorem unit_ok {α σ β : Type} {f : α → Unit → Fl Unit Unit β} : ∀ {l : List α}, (∀ a ∈ l, f a () = .nx ()) → (forF f l () : Fl Unit σ β) = .nx ()
  | [], _ => rfl
  | a :: l, h => by
    unfold forF
    rw [h a List.mem_cons_self]
    exact unit_ok fun b hb => h b (List.mem_cons_of_mem _ hb)
/-- sizes that suit -/
def Vd (S : List Pt) : Prop := 1 ≤ S.length ∧ S.length ≤ 5 ∧ ∀ k, k < S.length → (1 ≤ (at_ S k).1 ∧ (at_ S k).1 ≤ 10000) ∧ 1 ≤ (at_ S k).2 ∧ (at_ S k).2 ≤ 10000
theorem Vd.pos {S : List Pt} (h : Vd S) : Pos S := fun k hk => by have := h.2.2 k hk; omega
theorem sizes_ok {S : List Pt} (h : Vd S) : F_check_sizes__L S = .ok () := by
  obtain ⟨h1, h2, h3⟩ := h
  unfold F_check_sizes__L F_check_sizes__L_ F_is_row__L
  have e1 : decide ((1 : Int) ≤ (S.length : Int)) = true := decide_eq_true (by omega)
  have e2 : decide ((S.length : Int) ≤ 5) = true := decide_eq_true (by omega)
  rw [bnd_ok, e1, e2, if_neg (by decide), unit_ok fun a ha => ?_]
  · rfl
  · obtain ⟨j, hj, rfl⟩ := mem_enumP (d := ((0, 0) : Pt)).mp ha
    obtain ⟨⟨b1, b2⟩, b3, b4⟩ := h3 j hj
    unfold at_ at b1 b2 b3 b4
    dsimp only
    generalize S.getD j (0, 0) = c at b1 b2 b3 b4 ⊢
    unfold F_is_tuple_of__P
    rw [if_pos rfl, bnd_ok, if_neg (by decide), lcR_map (fun i : Int => decide (1 ≤ i) && decide (i ≤ 10000)) [c.1, c.2] (fun a _ => ⟨rfl, by rw [within_ok, bnd_ok]⟩) (by simp), bnd_ok]
    simp only [List.map_cons, List.map_nil, decide_eq_true b1, decide_eq_true b2, decide_eq_true b3, decide_eq_true b4]
    rfl
theorem bed_on {S : List Pt} {W D : Int} (h : Vd S) (hW : 1 ≤ W ∧ W ≤ 100000) (hD : 1 ≤ D ∧ D ≤ 100000) : ∃ C, Crn S C ∧ F_on_bed__L S W D = .ok (dfs (fun _ => C) (okP S W D) S.length []) := by
  obtain ⟨C, e, c1, c2⟩ := bed_ok h.2.1
  refine ⟨C, ⟨c1, c2⟩, ?_⟩
  unfold F_on_bed__L F_on_bed__L_
  have h5 := h.2.1
  rw [sizes_ok h, bnd_ok, number_ok hW.1 hW.2, bnd_ok, number_ok hD.1 hD.2, bnd_ok, e, bnd_ok, filled_ok (by show S.length ≤ 500; omega) S.length 6 [] (by simp) (by omega), bnd_ok, res_rt]
theorem on_bed_ok {S : List Pt} {W D : Int} (h : Vd S) (hW : 1 ≤ W ∧ W ≤ 100000) (hD : 1 ≤ D ∧ D ≤ 100000) : F_on_bed__L S W D = .ok (bestL S W D) := by
  obtain ⟨C, c, e⟩ := bed_on h hW hD
  rw [e, search_eq c h.pos]
theorem on_bed_sc {S : List Pt} {W D t : Int} (ht : 0 < t) (hp : Pos S) (h5 : S.length ≤ 5) (h : Vd (S.map (sc t))) (hW : 1 ≤ W * t ∧ W * t ≤ 100000) (hD : 1 ≤ D * t ∧ D * t ≤ 100000) : F_on_bed__L (S.map (sc t)) (W * t) (D * t) = .ok ((bestL S W D).map (List.map (sc t))) := by
  obtain ⟨C, c, e⟩ := bed_on h hW hD
  rw [e, List.length_map, search_sc ht h5 hp c]
theorem filled_QL : ∀ (m : Nat) (b : BedT) (p : List Pt), F_Bed__filled__Q m b p = F_Bed__filled__L m b p
  | 0, _, _ => rfl
  | m + 1, b, p => by
    have ih : F_Bed__filled__Q m = F_Bed__filled__L m := by funext b p; exact filled_QL m b p
    show (F_Bed__filled__Q_ (F_Bed__filled__Q m) b p).res = (F_Bed__filled__L_ (F_Bed__filled__L m) b p).res
    rw [ih]
    rfl
theorem on_bed_Q (S : List Pt) (W D : Int) : F_on_bed__Q S W D = F_on_bed__L S W D := by
  unfold F_on_bed__Q F_on_bed__L F_on_bed__Q_ F_on_bed__L_
  simp only [filled_QL]
  rfl
theorem max_ok : ∀ {l : List Int} {a : Int}, ∃ m, maxF (fun a b : Int => decide (a < b)) a l = m ∧ (m = a ∨ m ∈ l) ∧ a ≤ m ∧ ∀ x ∈ l, x ≤ m
  | [], a => ⟨a, rfl, .inl rfl, Int.le_refl _, fun x hx => (List.not_mem_nil hx).elim⟩
  | b :: l, a => by
    have e : maxF (fun a b : Int => decide (a < b)) a (b :: l) = maxF (fun a b : Int => decide (a < b)) (if a < b then b else a) l := by
      unfold maxF
      rw [List.foldl_cons]
      simp only [decide_eq_true_eq]
    obtain ⟨m, em, h1, h2, h3⟩ := max_ok (l := l) (a := if a < b then b else a)
    refine ⟨m, e.trans em, ?_, ?_, fun x hx => ?_⟩
    · split at h1
      · rcases h1 with h1 | h1
        · exact .inr (by rw [h1]; exact List.mem_cons_self)
        · exact .inr (List.mem_cons_of_mem _ h1)
      · exact h1.imp id (List.mem_cons_of_mem _)
    · split at h2 <;> omega
    · rcases List.mem_cons.mp hx with z | z
      · split at h2 <;> omega
      · exact h3 x z
theorem maxR_ok {l : List Int} (h : l ≠ []) : ∃ m, maxR (fun a b : Int => decide (a < b)) l = .ok m ∧ m ∈ l ∧ ∀ x ∈ l, x ≤ m := by
  match l, h with
  | a :: l, _ =>
    obtain ⟨m, em, h1, h2, h3⟩ := max_ok (l := l) (a := a)
    refine ⟨m, congrArg Res.ok em, ?_, fun x hx => ?_⟩
    · rcases h1 with z | z
      · rw [z]; exact List.mem_cons_self
      · exact List.mem_cons_of_mem _ z
    · rcases List.mem_cons.mp hx with z | z
      · rw [z]; exact h2
      · exact h3 x z
theorem rows_run {S : List Pt} {W : Int} (h : Vd S) (hW : 1 ≤ W ∧ W ≤ 100000) : ∃ (m : Int) (SY : List Int), (m ∈ S.map (·.1) ∧ ∀ x ∈ S.map (·.1), x ≤ m) ∧ SY.Pairwise (· < ·) ∧ (∀ x, x ∈ SY ↔ ∃ f, x = mS (hs S) f) ∧
    F_least_rows__L S W = .ok (if W < m then none else SY.findSome? fun r => if (bestL S W r).isSome = true then some r else none) := by
  obtain ⟨C, e, c1, c2⟩ := bed_ok h.2.1
  have h5 := h.2.1
  have h1 := h.1
  obtain ⟨m, em, m1, m2⟩ := maxR_ok (l := S.map (·.1)) (by intro z; have := congrArg List.length z; rw [List.length_map, List.length_nil] at this; omega)
  obtain ⟨SY, ey, py, ly, my⟩ := sums_ok (ns := S.map (·.2)) (by rw [List.length_map]; exact h.2.1)
  refine ⟨m, SY, ⟨m1, m2⟩, py, my, ?_⟩
  unfold F_least_rows__L F_least_rows__L_
  rw [sizes_ok h, bnd_ok, number_ok hW.1 hW.2, bnd_ok, lcR_map (fun a : Pt => a.1) S (fun a _ => ⟨rfl, rfl⟩) (by omega), bnd_ok, em, bnd_ok]
  by_cases z : W < m
  · rw [if_pos (decide_eq_true z), if_pos z]; rfl
  · rw [if_neg (by simpa using z), if_neg z, lcR_map (fun a : Pt => a.2) S (fun a _ => ⟨rfl, rfl⟩) (by omega), bnd_ok, ey, bnd_ok]
    rw [find_ok (g := fun r => if (bestL S W r).isSome = true then some r else none) fun r _ => ?_]
    · generalize SY.findSome? _ = x
      cases x <;> rfl
    · rw [e, bnd_ok, filled_ok (by show S.length ≤ 500; omega) S.length 6 [] (by simp) (by omega), bnd_ok]
      dsimp only
      rw [search_eq ⟨c1, c2⟩ h.pos]
      cases bestL S W r <;> rfl
theorem wide_max {S : List Pt} {W m : Int} (h : m ∈ S.map (·.1) ∧ ∀ x ∈ S.map (·.1), x ≤ m) : ¬ W < m ↔ ∀ k, k < S.length → (at_ S k).1 ≤ W := by
  constructor
  · intro z k hk
    have : (at_ S k).1 ∈ S.map (·.1) := by
      unfold at_
      rw [List.getD_eq_getElem?_getD, List.getElem?_eq_getElem hk]
      exact List.mem_map.mpr ⟨S[k], List.getElem_mem hk, rfl⟩
    have := h.2 _ this
    omega
  · intro z q
    obtain ⟨s, hs, e⟩ := List.mem_map.mp h.1
    obtain ⟨k, hk, e2⟩ := List.getElem_of_mem hs
    have := z k hk
    unfold at_ at this
    rw [List.getD_eq_getElem?_getD, List.getElem?_eq_getElem hk, e2] at this
    have : s.1 ≤ W := this
    omega
theorem rows_some {S : List Pt} {W : Int} (h : Vd S) (hW : 1 ≤ W ∧ W ≤ 100000) (hw : ∀ k, k < S.length → (at_ S k).1 ≤ W) : ∃ ρ, F_least_rows__L S W = .ok (some ρ) ∧ Fs S W ρ ∧ (∀ D, Fs S W D → ρ ≤ D) ∧ ∃ f, ρ = mS (hs S) f := by
  obtain ⟨m, SY, hm, py, my, e⟩ := rows_run h hW
  obtain ⟨ρ, r1, r2, r3⟩ := least_row h.pos h.1 hw
  refine ⟨ρ, ?_, r1, r2, r3⟩
  rw [e, if_neg ((wide_max hm).mpr hw), find_least r1 r2 py ((my ρ).mpr r3)]
theorem rows_none {S : List Pt} {W : Int} (h : Vd S) (hW : 1 ≤ W ∧ W ≤ 100000) (hw : ¬ ∀ k, k < S.length → (at_ S k).1 ≤ W) : F_least_rows__L S W = .ok none := by
  obtain ⟨m, SY, hm, py, my, e⟩ := rows_run h hW
  rw [e, if_pos (Classical.byContradiction fun z => hw ((wide_max hm).mp z))]
theorem best_sc {S : List Pt} {W D t : Int} (ht : 0 < t) (h : Vd S) (h' : Vd (S.map (sc t))) : bestL (S.map (sc t)) (W * t) (D * t) = (bestL S W D).map (List.map (sc t)) := by
  obtain ⟨C, _, c1, c2⟩ := bed_ok h'.2.1
  have := search_sc (W := W) (D := D) ht h.2.1 h.pos ⟨c1, c2⟩
  have e2 := search_eq (W := W * t) (D := D * t) ⟨c1, c2⟩ h'.pos
  rw [List.length_map] at e2
  rw [← e2, this]
theorem fs_sc {S : List Pt} {W D t : Int} (ht : 0 < t) (h : Vd S) (h' : Vd (S.map (sc t))) : Fs (S.map (sc t)) (W * t) (D * t) ↔ Fs S W D := by
  have e := best_sc (W := W) (D := D) ht h h'
  constructor
  · intro z
    refine Classical.byContradiction fun n => ?_
    rw [best_none.mpr n] at e
    exact best_none.mp e z
  · intro z
    refine Classical.byContradiction fun n => ?_
    rw [best_none.mpr n] at e
    cases q : bestL S W D with
    | none => exact best_none.mp q z
    | some w => rw [q] at e; cases e
theorem hs_sc (t : Int) (S : List Pt) : hs (S.map (sc t)) = (hs S).map (· * t) := by simp [hs, sc]
/-- the law's question: rows, and scaled rows -/
theorem rows_both {S : List Pt} {W t : Int} (ht : 0 < t) (h : Vd S) (h' : Vd (S.map (sc t))) (hW : 1 ≤ W ∧ W ≤ 100000) (hW' : 1 ≤ W * t ∧ W * t ≤ 100000) : ∃ o : Option Int, F_least_rows__L S W = .ok o ∧ F_least_rows__L (S.map (sc t)) (W * t) = .ok (o.map (· * t)) ∧
    ∀ {L : List Int}, L.Pairwise (· < ·) → (∀ x, 1 ≤ x → x ≤ mS (hs S) (fun _ => true) → x ∈ L) → L.findSome? (fun r => if (bestL S W r).isSome = true then some r else none) = o := by
  by_cases hw : ∀ k, k < S.length → (at_ S k).1 ≤ W
  · obtain ⟨ρ, e1, r1, r2, f, rf⟩ := rows_some h hW hw
    have hw' : ∀ k, k < (S.map (sc t)).length → (at_ (S.map (sc t)) k).1 ≤ W * t := fun k hk => by
      rw [at_sc]
      rw [List.length_map] at hk
      exact Int.mul_le_mul_of_nonneg_right (hw k hk) (Int.le_of_lt ht)
    obtain ⟨ρ', e1', r1', r2', f', rf'⟩ := rows_some h' hW' hw'
    have eρ : ρ' = ρ * t := by
      have a : ρ' ≤ ρ * t := r2' _ ((fs_sc ht h h').mpr r1)
      rw [hs_sc, mS_sc] at rf'
      rw [rf'] at r1' a ⊢
      have b := r2 _ ((fs_sc ht h h').mp r1')
      have := Int.mul_le_mul_of_nonneg_right b (Int.le_of_lt ht)
      omega
    refine ⟨some ρ, e1, by rw [e1', eρ]; rfl, fun {L} pL mL => find_least r1 r2 pL (mL ρ (fs_pos h.pos h.1 r1) ?_)⟩
    exact r2 _ (stack_lie h.pos hw)
  · refine ⟨none, rows_none h hW hw, ?_, fun {L} _ _ => find_no (fun D z => hw (fs_wide z)) L⟩
    refine rows_none h' hW' fun z => hw fun k hk => ?_
    have := z k (by rw [List.length_map]; exact hk)
    rw [at_sc] at this
    exact Int.le_of_mul_le_mul_right this ht
end K22
end

section
set_option Elab.async false
set_option linter.all false
set_option maxRecDepth 100000
set_option maxHeartbeats 1000000
namespace K22
open PySem L2 FX TY
/-! ### the law's body: what is drawn -/
def Sm3 (S : List Pt) : Prop := ∀ s ∈ S, (1 ≤ s.1 ∧ s.1 ≤ 3) ∧ 1 ≤ s.2 ∧ s.2 ≤ 3
theorem draw_ok : ∀ (l : List Int) (acc : List Pt) (row : Row), 0 ≤ row.2.1 → acc.length + l.length ≤ 1000000 → Sm3 acc → ∃ acc' row', (forF (fun a5 s4 => bndN (F__law_taken s4.2 (3 : Int)) fun p6 =>
  bndN (F__law_taken p6.1 (3 : Int)) fun p7 =>
  bnd (appR s4.1 (((1 : Int) + p6.2), ((1 : Int) + p7.2))) fun l8 =>
  (.nx (l8, p7.1) : Fl (List Pt × Row) (List Pt × Row) Bool)) l (acc, row) : Fl (List Pt × Row) Unit Bool) = .nx (acc', row') ∧ 0 ≤ row'.2.1 ∧ acc'.length = acc.length + l.length ∧ Sm3 acc'
  | [], acc, row, h, _, ha => ⟨acc, row, rfl, h, by simp, ha⟩
  | a :: l, acc, row, h, hl, ha => by
    rw [List.length_cons] at hl
    obtain ⟨r1, v1, e1, _, g1, p1, q1⟩ := taken_val h (show (0 : Int) < 3 by decide) (by decide)
    obtain ⟨r2, v2, e2, _, g2, p2, q2⟩ := taken_val g1 (show (0 : Int) < 3 by decide) (by decide)
    have ea : appR acc (((1 : Int) + v1), ((1 : Int) + v2)) = .ok (acc ++ [((1 : Int) + v1, (1 : Int) + v2)]) := if_pos (by omega)
    obtain ⟨acc', row', e, h1, h2, h3⟩ := draw_ok l (acc ++ [((1 : Int) + v1, (1 : Int) + v2)]) r2 g2 (by simp; omega) (fun s hs => by
      rcases List.mem_append.mp hs with z | z
      · exact ha s z
      · rw [List.mem_singleton.mp z]; exact ⟨⟨by show 1 ≤ 1 + v1; omega, by show 1 + v1 ≤ 3; omega⟩, by show 1 ≤ 1 + v2; omega, by show 1 + v2 ≤ 3; omega⟩)
    refine ⟨acc', row', ?_, h1, by rw [h2]; simp; omega, h3⟩
    unfold forF
    have f1 : F__law_taken row 3 = .ok (r1, v1) := e1
    have f2 : F__law_taken r1 3 = .ok (r2, v2) := e2
    simp only [f1, f2, bndN_ok, ea, bnd_ok]
    exact e
end K22
end

section
set_option Elab.async false
set_option linter.all false
set_option maxRecDepth 100000
set_option maxHeartbeats 1000000
namespace K22
open PySem L2 FX TY
theorem first_ok {S : List Pt} {W : Int} : ∀ (l : List Int) (s : Option Int), (∀ r ∈ l, F__law_lie 6 S W r [] = .ok (bestL S W r)) → (forF (fun a33 s32 => bnd (if ((s32).isNone) = true then bnd (F__law_lie 6 S W a33 ([] : (List (Int × Int)))) fun v34 =>
  .ok (!(v34).isNone) else .ok false) fun b35 =>
  Fl.fb (if b35 = true then bnd (.ok (some a33)) fun best37 =>
  .nx best37 else .nx s32) fun s36 =>
  (.nx s36 : Fl (Option Int) (Option Int) Bool)) l s : Fl (Option Int) Unit Bool) = .nx (match s with | some x => some x | none => l.findSome? fun r => if (bestL S W r).isSome = true then some r else none)
  | [], s, _ => by cases s <;> rfl
  | a :: l, s, h => by
    have ih := fun s => first_ok l s fun r hr => h r (List.mem_cons_of_mem _ hr)
    unfold forF
    cases s with
    | some x =>
      have e : (some x : Option Int).isNone = false := rfl
      simp only [e, Bool.false_eq_true, if_false, bnd_ok, fb_nx]
      exact ih (some x)
    | none =>
      have e : (none : Option Int).isNone = true := rfl
      simp only [e, if_true, h a List.mem_cons_self, bnd_ok, List.findSome?_cons]
      cases hb : bestL S W a with
      | none =>
        have e2 : (!(none : Option (List Pt)).isNone) = false := rfl
        have e3 : (none : Option (List Pt)).isSome = false := rfl
        simp only [e2, e3, Bool.false_eq_true, if_false, fb_nx]
        exact ih none
      | some w =>
        have e2 : (!(some w : Option (List Pt)).isNone) = true := rfl
        have e3 : (some w : Option (List Pt)).isSome = true := rfl
        simp only [e2, e3, if_true, bnd_ok, fb_nx]
        exact ih (some a)
end K22
end

section
set_option Elab.async false
set_option linter.all false
set_option maxRecDepth 100000
set_option maxHeartbeats 1000000
namespace K22
open PySem L2 FX TY
def Odd (t : T) : Prop := t = .int 0 ∨ t = .int 100001 ∨ t = .non ∨ t = .bl true
theorem odd_no {t : T} (h : Odd t) : F_check_number__D t = .er ⟨"BadNumber", [("value", t)]⟩ := by
  rcases h with rfl | rfl | rfl | rfl <;> rfl
theorem five_ok : F_check_number__D (.int 5) = .ok .non := rfl
theorem bed_odd {S : List Pt} (h : Vd S) {t : T} (ht : Odd t) : F_on_bed__LD S t t = .er ⟨"BadNumber", [("value", t)]⟩ := by
  unfold F_on_bed__LD F_on_bed__LD_
  rw [sizes_ok h, bnd_ok, odd_no ht]
  rfl
theorem bed_odd5 {S : List Pt} (h : Vd S) {t : T} (ht : Odd t) : F_on_bed__LD S (.int 5) t = .er ⟨"BadNumber", [("value", t)]⟩ := by
  unfold F_on_bed__LD F_on_bed__LD_
  rw [sizes_ok h, bnd_ok, five_ok, bnd_ok, odd_no ht]
  rfl
theorem rows_odd {S : List Pt} (h : Vd S) {t : T} (ht : Odd t) : F_least_rows__LD S t = .er ⟨"BadNumber", [("value", t)]⟩ := by
  unfold F_least_rows__LD F_least_rows__LD_
  rw [sizes_ok h, bnd_ok, odd_no ht]
  rfl
end K22
end

section
set_option Elab.async false
set_option linter.all false
set_option maxRecDepth 100000
set_option maxHeartbeats 1000000
namespace K22
open PySem L2 FX TY
def BadS (t : T) : Prop := t = .non ∨ t = .tup [.int 0, .int 1] ∨ t = .tup [.int 1, .int 10001] ∨ t = .lst [.int 1, .int 1] ∨ t = .tup [.int 1] ∨ t = .tup [.bl true, .int 1]
theorem bed_bad {t : T} (h : BadS t) : F_on_bed__D (.lst [.tup [.int 1, .int 1], t]) .non .non = .er ⟨"BadSizes", [("value", .int 1)]⟩ := by
  rcases h with rfl | rfl | rfl | rfl | rfl | rfl <;> rfl
theorem rows_bad {t : T} (h : BadS t) : F_least_rows__D (.lst [.tup [.int 1, .int 1], t]) .non = .er ⟨"BadSizes", [("value", .int 1)]⟩ := by
  rcases h with rfl | rfl | rfl | rfl | rfl | rfl <;> rfl
def BadR (t : T) : Prop := t = .non ∨ t = .lst [] ∨ t = .lst [.tup [.int 1, .int 1], .tup [.int 1, .int 1], .tup [.int 1, .int 1], .tup [.int 1, .int 1], .tup [.int 1, .int 1], .tup [.int 1, .int 1]] ∨ t = .int 5
theorem bed_row {t : T} (h : BadR t) : F_on_bed__D t .non .non = .er ⟨"BadSizes", [("value", .int (-1))]⟩ := by
  rcases h with rfl | rfl | rfl | rfl <;> rfl
end K22
end

section
set_option Elab.async false
set_option linter.all false
set_option maxRecDepth 100000
set_option maxHeartbeats 1000000
namespace K22
open PySem L2 FX TY
theorem alike_eq : ∀ n (ts : List T), m__law_alike n ts = mAlike n ts
  | 0, _ => rfl
  | n + 1, ts => by
    have e : m__law_alike n = mAlike n := by funext ts; exact alike_eq n ts
    show mkP 2 4 (g__law_alike (m__law_alike n)) ts = mkP 2 4 (gAlike (mAlike n)) ts
    rw [e]
    rfl
theorem alike_yes {t : T} (h : alC 10 t = true) : F__law_alike 10 t t = .ok true := by
  unfold F__law_alike embB
  rw [alike_eq, alike_ok 10 t h]
theorem alC_pts (n : Nat) {L : List Pt} (h : L.length ≤ 1000000) : alC (n + 3) (eQ (e2 T.int T.int) L) = true := by
  show (decide ((L.map (e2 T.int T.int)).length ≤ 1000000) && (L.map (e2 T.int T.int)).all (alC (n + 2))) = true
  rw [Bool.and_eq_true, decide_eq_true_eq, List.length_map, List.all_eq_true]
  refine ⟨h, fun t ht => ?_⟩
  obtain ⟨p, _, rfl⟩ := List.mem_map.mp ht
  rfl
theorem alike_best {o : Option (List Pt)} (h : ∀ L, o = some L → L.length ≤ 1000000) : F__law_alike 10 ((eO (eQ (e2 T.int T.int))) o) ((eO (eQ (e2 T.int T.int))) o) = .ok true := by
  refine alike_yes ?_
  cases o with
  | none => rfl
  | some L => exact alC_pts 7 (h L rfl)
theorem alike_row (o : Option Int) : F__law_alike 10 ((eO T.int) o) ((eO T.int) o) = .ok true := by
  refine alike_yes ?_
  cases o <;> rfl
end K22
end

section
set_option Elab.async false
set_option linter.all false
set_option maxRecDepth 100000
set_option maxHeartbeats 2000000
namespace K22
open PySem L2 FX TY
theorem rng_ok {a b : Int} (h1 : -1000000000000 ≤ a ∧ a ≤ 1000000000000) (h2 : -1000000000000 ≤ b ∧ b ≤ 1000000000000) : rng a b = .ok (rngI a b) := by
  unfold rng okR
  rw [if_pos (by simp; omega)]
theorem rngI_len (a b : Int) : (rngI a b).length = (b - a).toNat := by simp [rngI]
theorem rngI_up (a b : Int) : (rngI a b).Pairwise (· < ·) := by
  unfold rngI
  rw [List.pairwise_map]
  exact (List.pairwise_lt_range).imp fun h => by omega
theorem mem_rngI2 {a b x : Int} : x ∈ rngI a b ↔ a ≤ x ∧ x < b := by
  unfold rngI
  rw [List.mem_map]
  constructor
  · rintro ⟨i, hi, rfl⟩; rw [List.mem_range] at hi; omega
  · intro ⟨h1, h2⟩; exact ⟨(x - a).toNat, List.mem_range.mpr (by omega), by omega⟩
theorem mul_ok {a b : Int} (h : CMul a b) : mulR a b = .ok (a * b) := if_pos h
theorem repr_val {t : T} {d : PyData} (h : tD t = some d) (h2 : d.shown.length ≤ sizeLine ∧ d.depth ≤ 50) : nvR (bRepr [t]) = .ok (.str d.shown) := by
  unfold bRepr
  simp only [h]
  rw [if_pos h2]
  rfl
theorem ne_sz : optR (cNe (.tup [.str "sizes", .int 1]) (.tup [.str "sizes", .int 1])) = .ok false := congrArg optR (show _ = some false by decide +kernel)
theorem eq_sz : optR (cEq (.tup [.str "sizes", .int (-1)]) (.tup [.str "sizes", .int (-1)])) = .ok true := congrArg optR (show _ = some true by decide +kernel)
theorem odd_repr {t : T} (h : Odd t) : ∃ s, nvR (bRepr [(e2 T.str eD) ("number", t)]) = .ok (.str s) ∧ PyData.strOk s = true := by
  rcases h with rfl | rfl | rfl | rfl <;> exact ⟨_, repr_val rfl (by decide +kernel), by decide +kernel⟩
theorem vd3 {S : List Pt} (h1 : 1 ≤ S.length) (h5 : S.length ≤ 5) (h : Sm3 S) : Vd S := ⟨h1, h5, fun k hk => by
  have : at_ S k ∈ S := by unfold at_; rw [List.getD_eq_getElem?_getD, List.getElem?_eq_getElem hk]; exact List.getElem_mem hk
  have := h _ this
  omega⟩
theorem le_mul {a t b c : Int} (ha : 1 ≤ a) (hb : a ≤ b) (ht : 1 ≤ t) (hc : t ≤ c) : 1 ≤ a * t ∧ a * t ≤ b * c := by
  constructor
  · have := Int.mul_le_mul ha ht (by omega) (by omega); omega
  · exact Int.mul_le_mul hb hc (by omega) (by omega)
theorem vd_sc {S : List Pt} {t : Int} (h1 : 1 ≤ S.length) (h5 : S.length ≤ 5) (h : Sm3 S) (ht : 1 ≤ t ∧ t ≤ 3000) : Vd (S.map (sc t)) := ⟨by simpa using h1, by simpa using h5, fun k hk => by
  rw [List.length_map] at hk
  have : at_ S k ∈ S := by unfold at_; rw [List.getD_eq_getElem?_getD, List.getElem?_eq_getElem hk]; exact List.getElem_mem hk
  have := h _ this
  rw [at_sc]
  have a := le_mul this.1.1 this.1.2 ht.1 ht.2
  have b := le_mul this.2.1 this.2.2 ht.1 ht.2
  show (1 ≤ (at_ S k).1 * t ∧ (at_ S k).1 * t ≤ 10000) ∧ 1 ≤ (at_ S k).2 * t ∧ (at_ S k).2 * t ≤ 10000
  omega⟩
theorem mS_le {c : Int} (hc : 0 ≤ c) : ∀ {ns : List Int} {f : Nat → Bool}, (∀ n ∈ ns, 0 ≤ n ∧ n ≤ c) → mS ns f ≤ c * ns.length
  | [], _, _ => by simp [mS]
  | n :: ns, f, h => by
    have ih := mS_le hc (f := fun i => f (i + 1)) fun m hm => h m (List.mem_cons_of_mem _ hm)
    have := h n List.mem_cons_self
    have e : c * ((n :: ns).length : Int) = c * (ns.length : Int) + c := by rw [List.length_cons, Int.natCast_add, Int.mul_add]; simp
    simp only [mS]
    rw [e]
    split <;> omega
theorem grown_ok {t : Int} (hm : ∀ a, CMul a t) (o : Option (List Pt)) (h : ∀ L, o = some L → L.length ≤ 1000000) : (if ((o).isNone) = true then .ok none else bnd (optR o) fun l20 =>
  bnd (lcR (fun a21 => .ok true) (fun a21 => bnd (mulR a21.1 t) fun v22 =>
  bnd (mulR a21.2 t) fun v23 =>
  .ok (v22, v23)) l20 []) fun l24 =>
  (.ok (some l24) : Res (Option (List Pt)))) = .ok (o.map (List.map (sc t))) := by
  cases o with
  | none => rfl
  | some L => exact goOn rfl (nxtR (a := L) rfl (nxtR (lcR_map (sc t) L (fun a _ => ⟨rfl, nxtR (mul_ok (hm _)) (nxtR (mul_ok (hm _)) rfl)⟩) (h L rfl)) rfl))
theorem grown_row {t : Int} (hm : ∀ a, CMul a t) (o : Option Int) : (if ((o).isNone) = true then .ok none else bnd (optR o) fun l42 =>
  bnd (mulR l42 t) fun v43 =>
  (.ok (some v43) : Res (Option Int))) = .ok (o.map (· * t)) := by
  cases o with
  | none => rfl
  | some L => exact goOn rfl (nxtR (a := L) rfl (nxtR (mul_ok (hm _)) rfl))
theorem ne_row (o : Option Int) : optR (cNe ((eO T.int) o) ((eO T.int) o)) = .ok false := by
  cases o with
  | none => rfl
  | some a => 
    show optR (cNe (T.int a) (T.int a)) = _
    unfold cNe
    rw [cEq_dt dtI (by decide)]
    simp [optR]
theorem best_len {S : List Pt} {W D : Int} {L : List Pt} (h : bestL S W D = some L) : L.length = S.length := by
  obtain ⟨q, e, l, _⟩ := (dfs_spec (grid_asc S W D) (ok := apAll S) S.length []).1 L h
  rw [e]; simpa using l
theorem law_val (ns : List Int) : F_law_ ns = .rt true := by
  unfold F_law_
  obtain ⟨r1, v1, ta1, _, g1, p1, q1⟩ := taken_val (r := ((ns, (0 : Int), (122 : Int), (0 : Int)) : Row)) (show (0 : Int) ≤ 0 by decide) (show (0 : Int) < 4 by decide) (by decide)
  refine nxtN ta1 ?_
  obtain ⟨r2, v2, ta2, _, g2, p2, q2⟩ := taken_val g1 (show (0 : Int) < 6 by decide) (by decide)
  refine nxtN ta2 ?_
  have hN : ∃ N : Int, N = ((1 : Int) + v1) + (if (decide (v2 = (0 : Int))) = true then (1 : Int) else (0 : Int)) ∧ 1 ≤ N ∧ N ≤ 5 := by
    refine ⟨_, rfl, ?_⟩
    by_cases h : v2 = 0 <;> simp [h] <;> omega
  obtain ⟨N, eN, n1, n5⟩ := hN
  refine nxt (a := rngI 0 N) (by show rng 0 (((1 : Int) + v1) + (if (decide (v2 = (0 : Int))) = true then (1 : Int) else (0 : Int))) = _; rw [← eN]; exact rng_ok (by decide) (by omega)) ?_
  obtain ⟨S, r3, ta3, g3, l3, s3⟩ := draw_ok (rngI 0 N) [] r2 g2 (by rw [rngI_len]; simp; omega) (fun _ h => nomatch h)
  refine nxtF ta3 ?_
  dsimp only
  have hl1 : 1 ≤ S.length := by rw [l3, rngI_len]; simp; omega
  have hl5 : S.length ≤ 5 := by rw [l3, rngI_len]; simp; omega
  obtain ⟨r4, w, ta4, _, g4, p4, q4⟩ := taken_val g3 (show (0 : Int) < 6 by decide) (by decide)
  refine nxtN ta4 ?_
  obtain ⟨r5, d, ta5, _, g5, p5, q5⟩ := taken_val g4 (show (0 : Int) < 5 by decide) (by decide)
  refine nxtN ta5 ?_
  have hV := vd3 hl1 hl5 s3
  have small : ∀ {W D : Int}, (1 ≤ W ∧ W ≤ 100) → (1 ≤ D ∧ D ≤ 100) → F__law_lie 6 S W D [] = .ok (bestL S W D) := fun {W D} hW hD => lie_ok (by omega) (fun k hk => by
    have := hV.2.2 k hk
    unfold okR
    simp
    omega) S.length 6 [] (by simp) (by omega)
  refine nxt (small (W := 1 + w) (D := 1 + d) (by omega) (by omega)) ?_
  refine nxt ((on_bed_Q S (1 + w) (1 + d)).trans (on_bed_ok hV (by omega) (by omega))) ?_
  refine nxt (alike_best fun L h => by rw [best_len h]; omega) ?_
  refine goOn rfl ?_
  obtain ⟨r6, t, ta6, _, g6, p6, q6⟩ := taken_val g5 (show (0 : Int) < 3000 by decide) (by decide)
  refine nxtN ta6 ?_
  refine nxt rfl ?_
  have ht1 : 1 ≤ 1 + t := by omega
  have hS' := vd_sc (t := 1 + t) hl1 hl5 s3 (by omega)
  have hm : ∀ a, CMul a (1 + t) := fun a => Or.inr ⟨by omega, by omega⟩
  have hw := le_mul (a := 1 + w) (b := 6) (c := 3000) (by omega) (by omega) ht1 (by omega)
  have hd := le_mul (a := 1 + d) (b := 5) (c := 3000) (by omega) (by omega) ht1 (by omega)
  refine nxt (lcR_map (sc (1 + t)) S (fun a _ => ⟨rfl, nxtR (mul_ok (hm _)) (nxtR (mul_ok (hm _)) rfl)⟩) (by omega)) ?_
  refine nxt (grown_ok hm _ fun L h => by rw [best_len h]; omega) ?_
  refine nxt (mul_ok (hm _)) ?_
  refine nxt (mul_ok (hm _)) ?_
  refine nxt (on_bed_sc (W := 1 + w) (D := 1 + d) (by omega) hV.pos hl5 hS' (by omega) (by omega)) ?_
  refine nxt (alike_best fun L h => by
    cases hb : bestL S (1 + w) (1 + d) with
    | none => rw [hb] at h; cases h
    | some M => rw [hb] at h; cases h; rw [List.length_map, best_len hb]; omega) ?_
  refine goOn rfl ?_
  refine nxt (mul_ok (Or.inl ⟨by decide, by decide⟩)) ?_
  refine nxt (rng_ok (by decide) (by omega)) ?_
  obtain ⟨o, o1, o2, o3⟩ := rows_both (W := 1 + w) (t := 1 + t) (by omega) hV hS' (by omega) (by omega)
  refine nxtF ((first_ok (S := S) (W := 1 + w) _ none fun r hr => small (by omega) (by rw [mem_rngI2] at hr; omega)).trans (congrArg Fl.nx (o3 (rngI_up _ _) fun x h1 h2 => mem_rngI2.mpr ⟨h1, ?_⟩))) ?_
  · have := mS_le (c := 3) (by decide) (ns := hs S) (f := fun _ => true) (fun n hn => by
      obtain ⟨s, hs, rfl⟩ := List.mem_map.mp hn
      have := s3 s hs
      omega)
    rw [show (hs S).length = S.length by simp [hs]] at this
    omega
  refine nxt o1 ?_
  refine nxt (alike_row o) ?_
  refine nxt (a := false) (goOn rfl (nxtR (mul_ok (hm _)) (nxtR o2 (nxtR (grown_row hm o) (nxtR (ne_row _) rfl))))) ?_
  refine goOn rfl ?_
  refine nxt (a := 100000) rfl ?_
  obtain ⟨r7, x, ta7, _, g7, m7⟩ := pick_val (xs := [T.int (0 : Int), T.int ((100000 : Int) + 1), eU (), T.bl true]) g6 (by simp) (by simp)
  have hx : Odd x := by simpa [Odd] using m7
  refine nxtN (a := (r7, x)) ta7 ?_
  obtain ⟨sx, ex, eo⟩ := odd_repr hx
  have c1 : ref3 [("BadNumber", "number"), ("BadSizes", "sizes")] "" (.ok ((), (F_on_bed__LD S x x).map fun _ => ())) = .ok ((), "number", x) := by rw [bed_odd hV hx]; rfl
  have c2 : ref3 [("BadNumber", "number"), ("BadSizes", "sizes")] "" (.ok ((), (F_on_bed__LD S (.int 5) x).map fun _ => ())) = .ok ((), "number", x) := by rw [bed_odd5 hV hx]; rfl
  have c3 : ref3 [("BadNumber", "number"), ("BadSizes", "sizes")] "" (.ok ((), (F_least_rows__LD S x).map fun _ => ())) = .ok ((), "number", x) := by rw [rows_odd hV hx]; rfl
  refine nxt c1 (nxt ex (nxt ex (nxt (cNe_str eo) (goOn rfl ?_))))
  refine nxt c2 (nxt ex (nxt ex (nxt (cNe_str eo) (goOn rfl ?_))))
  refine nxt c3 (nxt ex (nxt ex (nxt (cNe_str eo) (goOn rfl ?_))))
  refine nxt (a := 10000) rfl ?_
  obtain ⟨r8, y, ta8, _, g8, m8⟩ := pick_val (xs := [(eU ()), ((e2 T.int T.int) ((0 : Int), (1 : Int))), ((e2 T.int T.int) ((1 : Int), ((10000 : Int) + (1 : Int)))), ((eL T.int) ([(1 : Int), (1 : Int)] : (List Int))), ((eQ T.int) [(1 : Int)]), ((e2 T.bl T.int) (true, (1 : Int)))]) g7 (by simp) (by simp)
  have hy : BadS y := by simp only [List.mem_cons, List.not_mem_nil, or_false] at m8; exact m8
  refine nxtN (a := (r8, y)) ta8 ?_
  have c4 : ref3 [("BadNumber", "number"), ("BadSizes", "sizes")] "" (.ok ((), (F_on_bed__D ((eL eD) ([((e2 T.int T.int) ((1 : Int), (1 : Int))), y] : (List T))) (eU ()) (eU ())).map fun _ => ())) = .ok ((), "sizes", .int 1) := by
    show ref3 _ _ (.ok ((), (F_on_bed__D (T.lst [T.tup [T.int 1, T.int 1], y]) T.non T.non).map fun _ => ())) = _
    rw [bed_bad hy]; rfl
  have c5 : ref3 [("BadNumber", "number"), ("BadSizes", "sizes")] "" (.ok ((), (F_least_rows__D ((eL eD) ([((e2 T.int T.int) ((1 : Int), (1 : Int))), y] : (List T))) (eU ())).map fun _ => ())) = .ok ((), "sizes", .int 1) := by
    show ref3 _ _ (.ok ((), (F_least_rows__D (T.lst [T.tup [T.int 1, T.int 1], y]) T.non).map fun _ => ())) = _
    rw [rows_bad hy]; rfl
  refine nxt c4 (nxt (a := false) ne_sz (goOn rfl ?_))
  refine nxt c5 (nxt (a := false) ne_sz (goOn rfl ?_))
  obtain ⟨r9, z, ta9, _, g9, m9⟩ := pick_val (xs := [(eU ()), ((eL T.int) ([] : (List Int))), .lst [.tup [.int 1, .int 1], .tup [.int 1, .int 1], .tup [.int 1, .int 1], .tup [.int 1, .int 1], .tup [.int 1, .int 1], .tup [.int 1, .int 1]], (T.int (5 : Int))]) g8 (by simp) (by simp)
  have hz : BadR z := by simp only [List.mem_cons, List.not_mem_nil, or_false] at m9; exact m9
  refine nxt (a := ((r9, "sizes", T.int (-1)) : Row × Str × T)) ?_ ?_
  rotate_left
  · exact nxt (a := true) eq_sz rfl
  have c6 : (bnd (nvO (aMul ((eL (e2 T.int T.int)) ([((1 : Int), (1 : Int))] : (List (Int × Int)))) (T.int (6 : Int)))) fun v67 =>
    bndN (F__law_pick r8 ([(eU ()), ((eL T.int) ([] : (List Int))), v67, (T.int (5 : Int))] : (List T))) fun p68 =>
    (.ok (p68.1, (F_on_bed__D p68.2 (eU ()) (eU ())).map fun _ => ()) : Res (Row × Res Unit))) = .ok (r9, .er ⟨"BadSizes", [("value", .int (-1))]⟩) := by
    refine nxtR (a := .lst [.tup [.int 1, .int 1], .tup [.int 1, .int 1], .tup [.int 1, .int 1], .tup [.int 1, .int 1], .tup [.int 1, .int 1], .tup [.int 1, .int 1]]) rfl ?_
    refine nxtNR (a := (r9, z)) ta9 ?_
    show Res.ok (r9, (F_on_bed__D z .non .non).map fun _ => ()) = _
    rw [bed_row hz]
    rfl
  rw [show _ = _ from c6]
  rfl
theorem plain (ns : List Int) (hl : ns.length ≤ 63) (hb : ∀ z ∈ ns, Builtin.Int.intBits z ≤ 1048576) : GoodEnd (g_law (startL 18 ns)) := law_plain (t_law ns) (law_val ns)
end K22
end

section
set_option Elab.async false
set_option linter.all false
set_option maxRecDepth 100000
set_option maxHeartbeats 4000000
namespace K22
open PySem PySem.Spec PyProof.Rows L2 FX
abbrev s_PE : Stmt := inClass (top 6) 0
theorem sc_PE : FnScope ["self", "value"] ["self", "value"] (defScope s_PE) := ⟨rfl, rfl, rfl, by decide +kernel, rfl, by decide +kernel, by decide +kernel⟩
theorem all_mk {l : PySem.W.OpenLaw} {w : World} {K : PySem.W.Frag} {h : Heap} {mg : Str → Option Value} {fa fL c P_ : Addr} {kV doc pm ct oc : Value} {an od : Option Addr} {osl : Array (Option Value)} {C_Bed : Addr} {fI Td : Addr} {kV1 doc1 pm1 cd1 ct1 oc1 oc2 : Value} {an1 od1 od2 : Option Addr} {osl1 osl2 : Array (Option Value)} {n2 : Nat} {C_BadSizes : Addr} {C_BadNumber : Addr} (X : K.In h) (G : h.Ns mainGlobals mg) (hfa : mg "law" = some (.ref fa))
    (h_is_integer : Fct K "is_integer" s_is_integer)
    (h_is_within : Fct K "is_within" s_is_within)
    (h_is_row : Fct K "is_row" s_is_row)
    (h_is_tuple_of : Fct K "is_tuple_of" s_is_tuple_of)
    (h_check_sizes : Fct K "check_sizes" s_check_sizes)
    (h_check_number : Fct K "check_number" s_check_number)
    (h_all_sums : Fct K "all_sums" s_all_sums)
    (h_are_apart : Fct K "are_apart" s_are_apart)
    (h_on_bed : Fct K "on_bed" s_on_bed)
    (h_least_rows : Fct K "least_rows" s_least_rows)
    (h__law_taken : Fct K "_law_taken" s__law_taken)
    (h__law_pick : Fct K "_law_pick" s__law_pick)
    (h__law_alike : Fct K "_law_alike" s__law_alike)
    (h__law_lie : Fct K "_law_lie" s__law_lie)
    (h__law_refused : Fct K "_law_refused" s_ref)
    (b_all : PySem.W.nsIn K mainGlobals "all" = some none)
    (b_bool : PySem.W.nsIn K mainGlobals "bool" = some none)
    (b_dict : PySem.W.nsIn K mainGlobals "dict" = some none)
    (b_enumerate : PySem.W.nsIn K mainGlobals "enumerate" = some none)
    (b_int : PySem.W.nsIn K mainGlobals "int" = some none)
    (b_isinstance : PySem.W.nsIn K mainGlobals "isinstance" = some none)
    (b_len : PySem.W.nsIn K mainGlobals "len" = some none)
    (b_list : PySem.W.nsIn K mainGlobals "list" = some none)
    (b_max : PySem.W.nsIn K mainGlobals "max" = some none)
    (b_range : PySem.W.nsIn K mainGlobals "range" = some none)
    (b_repr : PySem.W.nsIn K mainGlobals "repr" = some none)
    (b_sorted : PySem.W.nsIn K mainGlobals "sorted" = some none)
    (b_str : PySem.W.nsIn K mainGlobals "str" = some none)
    (b_tuple : PySem.W.nsIn K mainGlobals "tuple" = some none)
    (c_MOST_BED : ∃ tk, PySem.W.nsIn K mainGlobals "MOST_BED" = some (some (.int 100000 tk)))
    (c_MOST_SIZE : ∃ tk, PySem.W.nsIn K mainGlobals "MOST_SIZE" = some (some (.int 10000 tk)))
    (c_MOST_SIZES : ∃ tk, PySem.W.nsIn K mainGlobals "MOST_SIZES" = some (some (.int 5 tk)))
    (cl_Bed : ClF K "Bed" C_Bed)
    (mk_Bed : PySem.W.makesIn K C_Bed = true)
    (kp_Bed : PySem.W.keepIn K (.ref C_Bed) = true)
    (m_Bed____init__ : MtF K C_Bed "__init__" "Bed.__init__" s_Bed____init__)
    (m_Bed__can_lie : MtF K C_Bed "can_lie" "Bed.can_lie" s_Bed__can_lie)
    (m_Bed__filled : MtF K C_Bed "filled" "Bed.filled" s_Bed__filled)
    (fl_Bed_sizes : PySem.W.findIn K (.ref C_Bed) "sizes" = some none)
    (fl_Bed_corners : PySem.W.findIn K (.ref C_Bed) "corners" = some none)
    (fl_Bed_columns : PySem.W.findIn K (.ref C_Bed) "columns" = some none)
    (fl_Bed_rows : PySem.W.findIn K (.ref C_Bed) "rows" = some none)
    (E_BadSizes : ExcF K "BadSizes" C_BadSizes fI)
    (E_BadNumber : ExcF K "BadNumber" C_BadNumber fI)
    (lI : K.lookup fI = some ⟨oc1, od1, .func (PySem.W.fnOf "__init__" "PartError.__init__" (defArgs s_PE) (defBody s_PE) (defScope s_PE) (.ref Td) kV1 doc1 pm1 an1 cd1 ct1), osl1⟩)
    (cI : PySem.W.codeIn K cd1 "PartError.__init__" = true)
    (kI : PySem.W.keepIn K (.ref fI) = true)
    (lT : K.lookup Td = some ⟨oc2, od2, .seq #[.none] n2, osl2⟩)
    (XF_BadNumber : XfC K C_BadNumber)
    (exm_BadNumber : PySem.W.exmOne K (.ref C_BadNumber) (.ref C_BadNumber) = some true)
    (XF_BadSizes : XfC K C_BadSizes)
    (exm_BadSizes : PySem.W.exmOne K (.ref C_BadSizes) (.ref C_BadSizes) = some true)
    (ne_BadNumber_BadSizes : PySem.W.exmOne K (.ref C_BadSizes) (.ref C_BadNumber) = some false)
    (aL : PySem.W.nsIn K mainGlobals "law" = some (some (.ref fL)))
    (lL : K.lookup fL = some ⟨oc, od, .func (PySem.W.fnOf "law" "law" (defArgs s_law) (defBody s_law) (defScope s_law) .none kV doc pm an (.ref c) ct), osl⟩)
    (cL : PySem.W.codeIn K (.ref c) "law" = true)
    (hdc : PySem.W.codeHdIn K c P_ = true)
    (noP : K.lookup P_ = none) (tab : h.get? P_ = some { cls := .none, data := .fields #[] }) : LawAtG l w K 63 mg fa h := by
  have e := hfa.symm.trans (PySem.W.mg_of X G aL)
  cases e
  have F_is_integer := h_is_integer.fn0 (ps := ["thing"]) X G fun _ _ _ _ _ _ us hl => match us, hl with | [_], _ => rfl
  have F_is_within := h_is_within.fn0 (ps := ["thing", "least", "most"]) X G fun _ _ _ _ _ _ us hl => match us, hl with | [_, _, _], _ => rfl
  have F_is_row := h_is_row.fn0 (ps := ["thing"]) X G fun _ _ _ _ _ _ us hl => match us, hl with | [_], _ => rfl
  have F_is_tuple_of := h_is_tuple_of.fn0 (ps := ["thing", "many"]) X G fun _ _ _ _ _ _ us hl => match us, hl with | [_, _], _ => rfl
  have F_check_sizes := h_check_sizes.fn0 (ps := ["sizes"]) X G fun _ _ _ _ _ _ us hl => match us, hl with | [_], _ => rfl
  have F_check_number := h_check_number.fn0 (ps := ["number"]) X G fun _ _ _ _ _ _ us hl => match us, hl with | [_], _ => rfl
  have F_all_sums := h_all_sums.fn0 (ps := ["numbers"]) X G fun _ _ _ _ _ _ us hl => match us, hl with | [_], _ => rfl
  have F_are_apart := h_are_apart.fn0 (ps := ["corner", "size", "other", "other_size"]) X G fun _ _ _ _ _ _ us hl => match us, hl with | [_, _, _, _], _ => rfl
  have F_on_bed := h_on_bed.fn0 (ps := ["sizes", "columns", "rows"]) X G fun _ _ _ _ _ _ us hl => match us, hl with | [_, _, _], _ => rfl
  have F_least_rows := h_least_rows.fn0 (ps := ["sizes", "columns"]) X G fun _ _ _ _ _ _ us hl => match us, hl with | [_, _], _ => rfl
  have F__law_taken := h__law_taken.fn0 (ps := ["row", "many"]) X G fun _ _ _ _ _ _ us hl => match us, hl with | [_, _], _ => rfl
  have F__law_pick := h__law_pick.fn0 (ps := ["row", "some"]) X G fun _ _ _ _ _ _ us hl => match us, hl with | [_, _], _ => rfl
  have F__law_alike := h__law_alike.fn0 (ps := ["found", "due"]) X G fun _ _ _ _ _ _ us hl => match us, hl with | [_, _], _ => rfl
  have F__law_lie := h__law_lie.fn0 (ps := ["sizes", "wide", "deep", "found"]) X G fun _ _ _ _ _ _ us hl => match us, hl with | [_, _, _, _], _ => rfl
  have T : TX mg := { b_all := none_of X G b_all, b_bool := none_of X G b_bool, b_dict := none_of X G b_dict, b_enumerate := none_of X G b_enumerate, b_int := none_of X G b_int, b_isinstance := none_of X G b_isinstance, b_len := none_of X G b_len, b_list := none_of X G b_list, b_max := none_of X G b_max, b_range := none_of X G b_range, b_repr := none_of X G b_repr, b_sorted := none_of X G b_sorted, b_str := none_of X G b_str, b_tuple := none_of X G b_tuple, c_MOST_BED := int_of X G c_MOST_BED, c_MOST_SIZE := int_of X G c_MOST_SIZE, c_MOST_SIZES := int_of X G c_MOST_SIZES }
  have D_Bed_sizes := fld_of cl_Bed X G fl_Bed_sizes
  have D_Bed_corners := fld_of cl_Bed X G fl_Bed_corners
  have D_Bed_columns := fld_of cl_Bed X G fl_Bed_columns
  have D_Bed_rows := fld_of cl_Bed X G fl_Bed_rows
  have R : RefDM K mg "_law_refused" s_ref "ask" "e" (h0_ref :: ht_ref) [("BadNumber", "number"), ("BadSizes", "sizes")] := refM_of h__law_refused X G (fun _ _ _ _ _ _ us hl => match us, hl with | [_], _ => rfl) (.cons (w := "number") (by rfl) (PySem.W.mg_of X G E_BadNumber.m) (by decide) XF_BadNumber E_BadNumber.nv exm_BadNumber (List.forall_mem_cons.mpr ⟨ne_BadNumber_BadSizes, fun _ h => absurd h List.not_mem_nil⟩) (.cons (w := "sizes") (by rfl) (PySem.W.mg_of X G E_BadSizes.m) (by decide) XF_BadSizes E_BadSizes.nv exm_BadSizes (fun _ h => absurd h List.not_mem_nil) .nil)) rfl
  refine ⟨[(c, P_)], fun p hp => ?_, fun p hp => ?_, fun p hp => ?_, fun base s H a ns hk hn hT e0 ht hs hl hb => ?_⟩
  · rw [List.mem_singleton.mp hp]; exact tab
  · rw [List.mem_singleton.mp hp]; exact noP
  · rw [List.mem_singleton.mp hp]; exact PySem.W.codeHd_of_K X hdc
  · have X_BadSizes : Exc1 l.prog w K mg base "BadSizes" := exc1_of (st := s_PE) lI cI kI lT sc_PE rfl (fun T kV doc pm an cdv ct us its h1 h2 => match us, its, h1, h2 with | [_, _], [_], _, _ => ⟨_, rfl, rfl⟩) rfl rfl E_BadSizes.ox E_BadSizes.nv E_BadSizes.init E_BadSizes.tyI (PySem.W.mg_of X G E_BadSizes.m)
    have X_BadNumber : Exc1 l.prog w K mg base "BadNumber" := exc1_of (st := s_PE) lI cI kI lT sc_PE rfl (fun T kV doc pm an cdv ct us its h1 h2 => match us, its, h1, h2 with | [_, _], [_], _, _ => ⟨_, rfl, rfl⟩) rfl rfl E_BadNumber.ox E_BadNumber.nv E_BadNumber.init E_BadNumber.tyI (PySem.W.mg_of X G E_BadNumber.m)
    have c_is_integer := ok_is_integer (P := l.prog) (w := w) (K := K) (base := base) T F_is_integer 
    have c_is_within := ok_is_within (P := l.prog) (w := w) (K := K) (base := base) T F_is_within c_is_integer
    have c_is_row := ok_is_row (P := l.prog) (w := w) (K := K) (base := base) T F_is_row 
    have c_is_tuple_of := ok_is_tuple_of (P := l.prog) (w := w) (K := K) (base := base) T F_is_tuple_of 
    have c_check_sizes := ok_check_sizes (P := l.prog) (w := w) (K := K) (base := base) T F_check_sizes c_is_row X_BadSizes c_is_tuple_of c_is_within
    have c_check_number := ok_check_number (P := l.prog) (w := w) (K := K) (base := base) T F_check_number c_is_within X_BadNumber
    have c_all_sums := ok_all_sums (P := l.prog) (w := w) (K := K) (base := base) T F_all_sums 
    have c_are_apart := ok_are_apart (P := l.prog) (w := w) (K := K) (base := base) T F_are_apart 
    have K_Bed____init__ := ok_Bed____init__ T (MtF.mk0 (P := l.prog) (w := w) (base := base) (ps := ["self", "sizes", "columns", "rows"]) m_Bed____init__ cl_Bed X G sc_Bed____init__ mk_Bed kp_Bed (fun _ _ _ _ _ _ us hl => match us, hl with | [_, _, _, _], _ => rfl)) D_Bed_sizes D_Bed_corners c_all_sums D_Bed_columns D_Bed_rows
    have M_Bed__can_lie := ok_Bed__can_lie (P := l.prog) (w := w) (K := K) (base := base) T (MtF.mt0 (ps := ["self", "found", "corner"]) m_Bed__can_lie cl_Bed X G (fun _ _ _ _ _ _ us hl => match us, hl with | [_, _, _], _ => rfl)) D_Bed_sizes D_Bed_columns D_Bed_rows c_are_apart
    have M_Bed__filled := ok_Bed__filled (P := l.prog) (w := w) (K := K) (base := base) T (MtF.mt0 (ps := ["self", "found"]) m_Bed__filled cl_Bed X G (fun _ _ _ _ _ _ us hl => match us, hl with | [_, _], _ => rfl)) D_Bed_sizes D_Bed_corners M_Bed__can_lie 6
    have c_on_bed := ok_on_bed (P := l.prog) (w := w) (K := K) (base := base) T F_on_bed c_check_sizes c_check_number K_Bed____init__ M_Bed__filled
    have c_least_rows := ok_least_rows (P := l.prog) (w := w) (K := K) (base := base) T F_least_rows c_check_sizes c_check_number c_all_sums K_Bed____init__ M_Bed__filled
    have c__law_taken := ok__law_taken (P := l.prog) (w := w) (K := K) (base := base) T F__law_taken 
    have c__law_pick := ok__law_pick (P := l.prog) (w := w) (K := K) (base := base) T F__law_pick c__law_taken
    have c__law_alike := ok__law_alike (P := l.prog) (w := w) (K := K) (base := base) T F__law_alike  10
    have c__law_lie := ok__law_lie (P := l.prog) (w := w) (K := K) (base := base) T F__law_lie  6
    exact law_at T c__law_taken c__law_lie c_on_bed c__law_alike c_least_rows c__law_pick R (hT (c, P_) List.mem_cons_self) lL cL e0 ht hs (plain ns hl hb)
end K22
open PySem PySem.W PyProof.Rows in
set_option maxRecDepth 100000 in
set_option maxHeartbeats 0 in
theorem PySem.Challenge.cw_layerstand_k22_whole_beds_holds : PySem.Challenge.rw_layerstand_k22_whole_beds.Holds := by
  w_on; o_law; k_head; (case hw => w_witness2)
  k_fill
  refine FX.walk_ofG (l := PySem.Challenge.rw_layerstand_k22_whole_beds) (n := 63) rfl (by decide) rfl (fun w h Y => PySem.W.km_in_of Y) ?F
  case F =>
    intro w mg fa h Y KX G hmg
    refine' K22.all_mk KX G hmg ?h_is_integer ?h_is_within ?h_is_row ?h_is_tuple_of ?h_check_sizes ?h_check_number ?h_all_sums ?h_are_apart ?h_on_bed ?h_least_rows ?h__law_taken ?h__law_pick ?h__law_alike ?h__law_lie ?h__law_refused ?b_all ?b_bool ?b_dict ?b_enumerate ?b_int ?b_isinstance ?b_len ?b_list ?b_max ?b_range ?b_repr ?b_sorted ?b_str ?b_tuple ?c_MOST_BED ?c_MOST_SIZE ?c_MOST_SIZES ?cl_Bed ?mk_Bed ?kp_Bed ?m_Bed____init__ ?m_Bed__can_lie ?m_Bed__filled ?fl_Bed_sizes ?fl_Bed_corners ?fl_Bed_columns ?fl_Bed_rows ?E_BadSizes ?E_BadNumber ?lI ?cI ?kI ?lT ?XF_BadNumber ?exm_BadNumber ?XF_BadSizes ?exm_BadSizes ?ne_BadNumber_BadSizes ?aL ?lL ?cL ?hdc (FX.no_of Y ?noP) (PySem.W.km_tabs_of Y _ ?tab)
    (case h_is_integer => refine' FX.Fct.mk ?a ?l ?c ?k; (case a => k_is); (case l => k_is); (case c => k_is); (case k => k_is))
    (case h_is_within => refine' FX.Fct.mk ?a ?l ?c ?k; (case a => k_is); (case l => k_is); (case c => k_is); (case k => k_is))
    (case h_is_row => refine' FX.Fct.mk ?a ?l ?c ?k; (case a => k_is); (case l => k_is); (case c => k_is); (case k => k_is))
    (case h_is_tuple_of => refine' FX.Fct.mk ?a ?l ?c ?k; (case a => k_is); (case l => k_is); (case c => k_is); (case k => k_is))
    (case h_check_sizes => refine' FX.Fct.mk ?a ?l ?c ?k; (case a => k_is); (case l => k_is); (case c => k_is); (case k => k_is))
    (case h_check_number => refine' FX.Fct.mk ?a ?l ?c ?k; (case a => k_is); (case l => k_is); (case c => k_is); (case k => k_is))
    (case h_all_sums => refine' FX.Fct.mk ?a ?l ?c ?k; (case a => k_is); (case l => k_is); (case c => k_is); (case k => k_is))
    (case h_are_apart => refine' FX.Fct.mk ?a ?l ?c ?k; (case a => k_is); (case l => k_is); (case c => k_is); (case k => k_is))
    (case h_on_bed => refine' FX.Fct.mk ?a ?l ?c ?k; (case a => k_is); (case l => k_is); (case c => k_is); (case k => k_is))
    (case h_least_rows => refine' FX.Fct.mk ?a ?l ?c ?k; (case a => k_is); (case l => k_is); (case c => k_is); (case k => k_is))
    (case h__law_taken => refine' FX.Fct.mk ?a ?l ?c ?k; (case a => k_is); (case l => k_is); (case c => k_is); (case k => k_is))
    (case h__law_pick => refine' FX.Fct.mk ?a ?l ?c ?k; (case a => k_is); (case l => k_is); (case c => k_is); (case k => k_is))
    (case h__law_alike => refine' FX.Fct.mk ?a ?l ?c ?k; (case a => k_is); (case l => k_is); (case c => k_is); (case k => k_is))
    (case h__law_lie => refine' FX.Fct.mk ?a ?l ?c ?k; (case a => k_is); (case l => k_is); (case c => k_is); (case k => k_is))
    (case h__law_refused => refine' FX.Fct.mk ?a ?l ?c ?k; (case a => k_is); (case l => k_is); (case c => k_is); (case k => k_is))
    (case b_all => k_is)
    (case b_bool => k_is)
    (case b_dict => k_is)
    (case b_enumerate => k_is)
    (case b_int => k_is)
    (case b_isinstance => k_is)
    (case b_len => k_is)
    (case b_list => k_is)
    (case b_max => k_is)
    (case b_range => k_is)
    (case b_repr => k_is)
    (case b_sorted => k_is)
    (case b_str => k_is)
    (case b_tuple => k_is)
    (case c_MOST_BED => refine' FX.int_mk ?a; (case a => k_is))
    (case c_MOST_SIZE => refine' FX.int_mk ?a; (case a => k_is))
    (case c_MOST_SIZES => refine' FX.int_mk ?a; (case a => k_is))
    (case cl_Bed => refine' ⟨?m, ?pg, ?hd, ?po, ?sa⟩; (case m => k_is); (case pg => k_is); (case hd => k_is); (case po => k_is); (case sa => k_is))
    (case mk_Bed => k_is)
    (case kp_Bed => k_is)
    (case m_Bed____init__ => refine' FX.MtF.mk ?a ?n ?k ?l ?c; (case a => k_is); (case n => k_is); (case k => k_is); (case l => k_is); (case c => k_is))
    (case m_Bed__can_lie => refine' FX.MtF.mk ?a ?n ?k ?l ?c; (case a => k_is); (case n => k_is); (case k => k_is); (case l => k_is); (case c => k_is))
    (case m_Bed__filled => refine' FX.MtF.mk ?a ?n ?k ?l ?c; (case a => k_is); (case n => k_is); (case k => k_is); (case l => k_is); (case c => k_is))
    (case fl_Bed_sizes => k_is)
    (case fl_Bed_corners => k_is)
    (case fl_Bed_columns => k_is)
    (case fl_Bed_rows => k_is)
    (case E_BadSizes => refine' ⟨?m, ?ox, ?nv, ?init, ?tyI⟩; (case m => k_is); (case ox => refine' FX.oex_mk ?a ?b ?c ?d ?e ?f; (case a => k_is); (case b => rfl); (case c => k_is); (case d => k_is); (case e => k_is); (case f => k_is)); (case nv => k_is); (case init => k_is); (case tyI => k_is))
    (case E_BadNumber => refine' ⟨?m, ?ox, ?nv, ?init, ?tyI⟩; (case m => k_is); (case ox => refine' FX.oex_mk ?a ?b ?c ?d ?e ?f; (case a => k_is); (case b => rfl); (case c => k_is); (case d => k_is); (case e => k_is); (case f => k_is)); (case nv => k_is); (case init => k_is); (case tyI => k_is))
    (case lI => k_is)
    (case cI => k_is)
    (case kI => k_is)
    (case lT => k_is)
    (case XF_BadNumber => refine' ⟨?a, ?b, ?c, ?d⟩; (case a => k_is); (case b => k_is); (case c => k_is); (case d => k_is))
    (case exm_BadNumber => refine' FX.exm_mk ?a ?t ?l ?s; (case a => k_is); (case t => k_is); (case l => k_is); (case s => k_is))
    (case XF_BadSizes => refine' ⟨?a, ?b, ?c, ?d⟩; (case a => k_is); (case b => k_is); (case c => k_is); (case d => k_is))
    (case exm_BadSizes => refine' FX.exm_mk ?a ?t ?l ?s; (case a => k_is); (case t => k_is); (case l => k_is); (case s => k_is))
    (case ne_BadNumber_BadSizes => refine' FX.exm_no ?a ?t ?l ?s; (case a => k_is); (case t => k_is); (case l => k_is); (case s => k_is))
    (case aL => k_is)
    (case lL => k_is)
    (case cL => k_is)
    (case hdc => refine' FX.chd_mk ?l ?v ?e; (case l => k_is); (case v => rfl); (case e => rfl))
    (case noP => decide)
    (case tab => decide)
end
