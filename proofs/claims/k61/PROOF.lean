import PyProof.Rows.All
import Wide.All
import OpenK.AllK
import Wide.FinOn
import HandS.ForMost
import HandS.Exc
import HandS.TupAny
import HandS.Deep
import HandS.Style
import HandS.TupLe
import HandS.IsInst
import HandS.TupLen
import HandS.RaiseMore
import HandS.Conv
import HandS.More
import KE.GoesMore
import HandS.Zip
import HandS.TryOnly
import HandS.Small
import HandS.Defaults
import HandS.Words
import HandS.CallSlots
import HandS.Ends
import HandS.HeadEnd
import HandS.Head0
import HandS.Head1
import HandS.Head2
import HandS.HeadHook1
import HandS.HeadHook2
import HandS.DictComp
import KE.KDictList
import HandS.TryMany
import HandS.ExcInit
import HandS.ExcField
import HandS.ExcIs
import HandS.ClsMeth
import KE.KExcIs
import KE.KDictPairs
import KE.KDictCopyH
import PyProof.ReprLen
import PyProof.P3Eq
import PySem.Challenge.RW_operatortables_k61_joined_tables_of_all
import KE.KStateDown
import Lean
set_option Elab.async false
set_option linter.all false
set_option maxRecDepth 100000
set_option maxHeartbeats 0
section
/-! PVA1: own values D, cells, the relation to the hand layer's values and heap. -/
namespace PV
open PySem PySem.Spec PyProof.Rows L2

/-- a value: pure data, a list just made (tl), a tracked cell (ref), a def, a class, a built-in type -/
inductive D where
  | non | bl (b : Bool) | int (i : Int) | str (x : Str) | tup (ws : List D) | kt (ws : List D) | tl (ws : List D) | fl (ws : List D) | ref (i : Nat)
  | ty (n : String) | fn (f : Nat) | cls (c : Nat) | xc (c : Nat) (ks : List Str) (ws : List D)
  deriving Inhabited

mutual
def D.beq : D → D → Bool
  | .non, .non => true
  | .bl a, .bl b => a == b
  | .int a, .int b => a == b
  | .str a, .str b => decide (a = b)
  | .tup a, .tup b => D.beqs a b
  | .tl a, .tl b => D.beqs a b
  | .fl a, .fl b => D.beqs a b
  | .kt a, .kt b => D.beqs a b
  | .ref a, .ref b => a == b
  | .ty a, .ty b => decide (a = b)
  | .fn a, .fn b => a == b
  | .cls a, .cls b => a == b
  | .xc a k v, .xc b l w => (a == b && decide (k = l)) && D.beqs v w
  | _, _ => false
def D.beqs : List D → List D → Bool
  | [], [] => true
  | a :: as, b :: bs => D.beq a b && D.beqs as bs
  | _, _ => false
end
mutual
theorem D.beq_eq : ∀ {a b : D}, D.beq a b = true → a = b
  | .non, .non, _ => rfl
  | .bl a, .bl b, h => by simp [D.beq] at h; rw [h]
  | .int a, .int b, h => by simp [D.beq] at h; rw [h]
  | .str a, .str b, h => by simp [D.beq] at h; rw [h]
  | .tup a, .tup b, h => by simp only [D.beq] at h; rw [D.beqs_eq h]
  | .tl a, .tl b, h => by simp only [D.beq] at h; rw [D.beqs_eq h]
  | .fl a, .fl b, h => by simp only [D.beq] at h; rw [D.beqs_eq h]
  | .kt a, .kt b, h => by simp only [D.beq] at h; rw [D.beqs_eq h]
  | .ref a, .ref b, h => by simp [D.beq] at h; rw [h]
  | .ty a, .ty b, h => by simp [D.beq] at h; rw [h]
  | .fn a, .fn b, h => by simp [D.beq] at h; rw [h]
  | .cls a, .cls b, h => by simp [D.beq] at h; rw [h]
  | .non, .bl _, h => by simp [D.beq] at h
  | .non, .int _, h => by simp [D.beq] at h
  | .non, .str _, h => by simp [D.beq] at h
  | .non, .tup _, h => by simp [D.beq] at h
  | .non, .kt _, h => by simp [D.beq] at h
  | .non, .tl _, h => by simp [D.beq] at h
  | .non, .fl _, h => by simp [D.beq] at h
  | .non, .ref _, h => by simp [D.beq] at h
  | .non, .ty _, h => by simp [D.beq] at h
  | .non, .fn _, h => by simp [D.beq] at h
  | .non, .cls _, h => by simp [D.beq] at h
  | .bl _, .non, h => by simp [D.beq] at h
  | .bl _, .int _, h => by simp [D.beq] at h
  | .bl _, .str _, h => by simp [D.beq] at h
  | .bl _, .tup _, h => by simp [D.beq] at h
  | .bl _, .kt _, h => by simp [D.beq] at h
  | .bl _, .tl _, h => by simp [D.beq] at h
  | .bl _, .fl _, h => by simp [D.beq] at h
  | .bl _, .ref _, h => by simp [D.beq] at h
  | .bl _, .ty _, h => by simp [D.beq] at h
  | .bl _, .fn _, h => by simp [D.beq] at h
  | .bl _, .cls _, h => by simp [D.beq] at h
  | .int _, .non, h => by simp [D.beq] at h
  | .int _, .bl _, h => by simp [D.beq] at h
  | .int _, .str _, h => by simp [D.beq] at h
  | .int _, .tup _, h => by simp [D.beq] at h
  | .int _, .kt _, h => by simp [D.beq] at h
  | .int _, .tl _, h => by simp [D.beq] at h
  | .int _, .fl _, h => by simp [D.beq] at h
  | .int _, .ref _, h => by simp [D.beq] at h
  | .int _, .ty _, h => by simp [D.beq] at h
  | .int _, .fn _, h => by simp [D.beq] at h
  | .int _, .cls _, h => by simp [D.beq] at h
  | .str _, .non, h => by simp [D.beq] at h
  | .str _, .bl _, h => by simp [D.beq] at h
  | .str _, .int _, h => by simp [D.beq] at h
  | .str _, .tup _, h => by simp [D.beq] at h
  | .str _, .kt _, h => by simp [D.beq] at h
  | .str _, .tl _, h => by simp [D.beq] at h
  | .str _, .fl _, h => by simp [D.beq] at h
  | .str _, .ref _, h => by simp [D.beq] at h
  | .str _, .ty _, h => by simp [D.beq] at h
  | .str _, .fn _, h => by simp [D.beq] at h
  | .str _, .cls _, h => by simp [D.beq] at h
  | .tup _, .non, h => by simp [D.beq] at h
  | .tup _, .bl _, h => by simp [D.beq] at h
  | .tup _, .int _, h => by simp [D.beq] at h
  | .tup _, .str _, h => by simp [D.beq] at h
  | .tup _, .kt _, h => by simp [D.beq] at h
  | .tup _, .tl _, h => by simp [D.beq] at h
  | .tup _, .fl _, h => by simp [D.beq] at h
  | .tup _, .ref _, h => by simp [D.beq] at h
  | .tup _, .ty _, h => by simp [D.beq] at h
  | .tup _, .fn _, h => by simp [D.beq] at h
  | .tup _, .cls _, h => by simp [D.beq] at h
  | .kt _, .non, h => by simp [D.beq] at h
  | .kt _, .bl _, h => by simp [D.beq] at h
  | .kt _, .int _, h => by simp [D.beq] at h
  | .kt _, .str _, h => by simp [D.beq] at h
  | .kt _, .tup _, h => by simp [D.beq] at h
  | .kt _, .tl _, h => by simp [D.beq] at h
  | .kt _, .fl _, h => by simp [D.beq] at h
  | .kt _, .ref _, h => by simp [D.beq] at h
  | .kt _, .ty _, h => by simp [D.beq] at h
  | .kt _, .fn _, h => by simp [D.beq] at h
  | .kt _, .cls _, h => by simp [D.beq] at h
  | .tl _, .non, h => by simp [D.beq] at h
  | .tl _, .bl _, h => by simp [D.beq] at h
  | .tl _, .int _, h => by simp [D.beq] at h
  | .tl _, .str _, h => by simp [D.beq] at h
  | .tl _, .tup _, h => by simp [D.beq] at h
  | .tl _, .kt _, h => by simp [D.beq] at h
  | .tl _, .fl _, h => by simp [D.beq] at h
  | .tl _, .ref _, h => by simp [D.beq] at h
  | .tl _, .ty _, h => by simp [D.beq] at h
  | .tl _, .fn _, h => by simp [D.beq] at h
  | .tl _, .cls _, h => by simp [D.beq] at h
  | .fl _, .non, h => by simp [D.beq] at h
  | .fl _, .bl _, h => by simp [D.beq] at h
  | .fl _, .int _, h => by simp [D.beq] at h
  | .fl _, .str _, h => by simp [D.beq] at h
  | .fl _, .tup _, h => by simp [D.beq] at h
  | .fl _, .kt _, h => by simp [D.beq] at h
  | .fl _, .tl _, h => by simp [D.beq] at h
  | .fl _, .ref _, h => by simp [D.beq] at h
  | .fl _, .ty _, h => by simp [D.beq] at h
  | .fl _, .fn _, h => by simp [D.beq] at h
  | .fl _, .cls _, h => by simp [D.beq] at h
  | .ref _, .non, h => by simp [D.beq] at h
  | .ref _, .bl _, h => by simp [D.beq] at h
  | .ref _, .int _, h => by simp [D.beq] at h
  | .ref _, .str _, h => by simp [D.beq] at h
  | .ref _, .tup _, h => by simp [D.beq] at h
  | .ref _, .kt _, h => by simp [D.beq] at h
  | .ref _, .tl _, h => by simp [D.beq] at h
  | .ref _, .fl _, h => by simp [D.beq] at h
  | .ref _, .ty _, h => by simp [D.beq] at h
  | .ref _, .fn _, h => by simp [D.beq] at h
  | .ref _, .cls _, h => by simp [D.beq] at h
  | .ty _, .non, h => by simp [D.beq] at h
  | .ty _, .bl _, h => by simp [D.beq] at h
  | .ty _, .int _, h => by simp [D.beq] at h
  | .ty _, .str _, h => by simp [D.beq] at h
  | .ty _, .tup _, h => by simp [D.beq] at h
  | .ty _, .kt _, h => by simp [D.beq] at h
  | .ty _, .tl _, h => by simp [D.beq] at h
  | .ty _, .fl _, h => by simp [D.beq] at h
  | .ty _, .ref _, h => by simp [D.beq] at h
  | .ty _, .fn _, h => by simp [D.beq] at h
  | .ty _, .cls _, h => by simp [D.beq] at h
  | .fn _, .non, h => by simp [D.beq] at h
  | .fn _, .bl _, h => by simp [D.beq] at h
  | .fn _, .int _, h => by simp [D.beq] at h
  | .fn _, .str _, h => by simp [D.beq] at h
  | .fn _, .tup _, h => by simp [D.beq] at h
  | .fn _, .kt _, h => by simp [D.beq] at h
  | .fn _, .tl _, h => by simp [D.beq] at h
  | .fn _, .fl _, h => by simp [D.beq] at h
  | .fn _, .ref _, h => by simp [D.beq] at h
  | .fn _, .ty _, h => by simp [D.beq] at h
  | .fn _, .cls _, h => by simp [D.beq] at h
  | .cls _, .non, h => by simp [D.beq] at h
  | .cls _, .bl _, h => by simp [D.beq] at h
  | .cls _, .int _, h => by simp [D.beq] at h
  | .cls _, .str _, h => by simp [D.beq] at h
  | .cls _, .tup _, h => by simp [D.beq] at h
  | .cls _, .kt _, h => by simp [D.beq] at h
  | .cls _, .tl _, h => by simp [D.beq] at h
  | .cls _, .fl _, h => by simp [D.beq] at h
  | .cls _, .ref _, h => by simp [D.beq] at h
  | .cls _, .ty _, h => by simp [D.beq] at h
  | .cls _, .fn _, h => by simp [D.beq] at h
  | .xc a k v, .xc b l w, h => by simp only [D.beq, Bool.and_eq_true, beq_iff_eq, decide_eq_true_eq] at h; rw [h.1.1, h.1.2, D.beqs_eq h.2]
  | .xc _ _ _, .non, h => by simp [D.beq] at h
  | .non, .xc _ _ _, h => by simp [D.beq] at h
  | .xc _ _ _, .bl _, h => by simp [D.beq] at h
  | .bl _, .xc _ _ _, h => by simp [D.beq] at h
  | .xc _ _ _, .int _, h => by simp [D.beq] at h
  | .int _, .xc _ _ _, h => by simp [D.beq] at h
  | .xc _ _ _, .str _, h => by simp [D.beq] at h
  | .str _, .xc _ _ _, h => by simp [D.beq] at h
  | .xc _ _ _, .tup _, h => by simp [D.beq] at h
  | .tup _, .xc _ _ _, h => by simp [D.beq] at h
  | .xc _ _ _, .kt _, h => by simp [D.beq] at h
  | .kt _, .xc _ _ _, h => by simp [D.beq] at h
  | .xc _ _ _, .tl _, h => by simp [D.beq] at h
  | .tl _, .xc _ _ _, h => by simp [D.beq] at h
  | .xc _ _ _, .fl _, h => by simp [D.beq] at h
  | .fl _, .xc _ _ _, h => by simp [D.beq] at h
  | .xc _ _ _, .ref _, h => by simp [D.beq] at h
  | .ref _, .xc _ _ _, h => by simp [D.beq] at h
  | .xc _ _ _, .ty _, h => by simp [D.beq] at h
  | .ty _, .xc _ _ _, h => by simp [D.beq] at h
  | .xc _ _ _, .fn _, h => by simp [D.beq] at h
  | .fn _, .xc _ _ _, h => by simp [D.beq] at h
  | .xc _ _ _, .cls _, h => by simp [D.beq] at h
  | .cls _, .xc _ _ _, h => by simp [D.beq] at h
theorem D.beqs_eq : ∀ {a b : List D}, D.beqs a b = true → a = b
  | [], [], _ => rfl
  | a :: as, b :: bs, h => by
    simp only [D.beqs, Bool.and_eq_true] at h
    rw [D.beq_eq h.1, D.beqs_eq h.2]
  | [], _ :: _, h => by simp [D.beqs] at h
  | _ :: _, [], h => by simp [D.beqs] at h
end
mutual
theorem D.beq_refl : ∀ a : D, D.beq a a = true
  | .non => rfl
  | .bl a => by simp [D.beq]
  | .int a => by simp [D.beq]
  | .str a => by simp [D.beq]
  | .tup a => by simp only [D.beq]; exact D.beqs_refl a
  | .tl a => by simp only [D.beq]; exact D.beqs_refl a
  | .fl a => by simp only [D.beq]; exact D.beqs_refl a
  | .kt a => by simp only [D.beq]; exact D.beqs_refl a
  | .ref a => by simp [D.beq]
  | .ty a => by simp [D.beq]
  | .fn a => by simp [D.beq]
  | .cls a => by simp [D.beq]
  | .xc a k v => by simp only [D.beq, D.beqs_refl v]; simp
theorem D.beqs_refl : ∀ a : List D, D.beqs a a = true
  | [] => rfl
  | a :: as => by simp only [D.beqs, D.beq_refl a, D.beqs_refl as, Bool.and_self]
end
instance : DecidableEq D := fun a b => if h : D.beq a b = true then isTrue (D.beq_eq h) else isFalse fun e => h (e ▸ D.beq_refl a)
inductive Cl where
  | lst (ws : List D) | dK (kvs : List (Key × D)) | dT (kvs : List (List Key × D)) | ins (c : Nat) (fs : List (Str × D))
  deriving Inhabited, DecidableEq
abbrev Hh := List Cl
abbrev Sg := List (Option D)
end PV
end
section
/-! PVA2: the relation between own values and heaps and the hand layer's. -/
namespace PV
open PySem PySem.Spec PyProof.Rows L2

/-- where the module's defs and classes stand -/
structure Gx where
  K : PySem.W.Frag
  fa : Nat → Option Addr
  ca : Nat → Option Addr

/-- a list that is never written -/
def SqF (K : PySem.W.Frag) (H : Hp) (a : Addr) (xs : List V) : Prop := (∃ o, H a = some (.frz o (.lst xs))) ∨
    ∃ (o : Obj) (its : Array Value) (n : Nat), K.lookup a = some o ∧ o.cls = .type "list" ∧ o.dict = none ∧ o.data = .seq its n ∧ its.size ≤ sizeLine ∧ Vals xs its.toList
theorem SqF.sq {K : PySem.W.Frag} {H : Hp} {a : Addr} {xs : List V} (h : SqF K H a xs) : SqL K H a xs := by
  rcases h with h | h
  · exact .inl (.inr h)
  · exact .inr h
/-- a list just made, not yet kept by anyone -/
def D.isTl : D → Bool
  | .tl _ => true
  | _ => false
/-- an exception that was caught, at a: its class, its dict -/
def ExV (cls : Value) (d : Option Addr) (a : Addr) : HO := .ext fun h => ∃ (oe : Obj) (vs : Array Value), h.get? a = some oe ∧ Zc cls d oe ∧ oe.data = .fields vs
/-- the attributes of an exception -/
def XdV (H : Hp) (ks : List Str) (vs : List V) (d : Option Addr) : Prop := (ks = [] ∧ d = none) ∨ ∃ dx, d = some dx ∧ H dx = some (.xd (ks.zip vs))
mutual
def RV (g : Gx) (μ : List Addr) (H : Hp) : D → V → Prop
  | .non, v => v = .non
  | .bl b, v => v = .bl b
  | .int i, v => v = .int i
  | .str x, v => v = .str x
  | .ty n, v => v = .ty n
  | .fn f, v => ∃ a, g.fa f = some a ∧ v = .ref a
  | .cls c, v => ∃ a, g.ca c = some a ∧ v = .ref a
  | .ref i, v => ∃ a, μ[i]? = some a ∧ v = .ref a
  | .xc c ks ws, v => ∃ a C d vs, v = .ref a ∧ g.ca c = some C ∧ H a = some (ExV (.ref C) d a) ∧ ks.length = ws.length ∧ XdV H ks vs d ∧ RVs g μ H ws vs
  | .tup ws, v => ∃ a vs, v = .ref a ∧ H a = some (.tup vs) ∧ RVs g μ H ws vs
  | .kt ws, v => ∃ a vs, v = .ref a ∧ SqT g.K H a vs ∧ RVs g μ H ws vs
  | .fl ws, v => ∃ a vs, v = .ref a ∧ SqF g.K H a vs ∧ RVs g μ H ws vs
  | .tl ws, v => ∃ a vs, v = .ref a ∧ H a = some (.lst vs) ∧ a ∉ μ ∧ RVs g μ H ws vs
def RVs (g : Gx) (μ : List Addr) (H : Hp) : List D → List V → Prop
  | [], vs => vs = []
  | w :: ws, vs => ∃ v r, vs = v :: r ∧ w.isTl = false ∧ RV g μ H w v ∧ RVs g μ H ws r
end
/-- pairs by key -/
def RKs {κ : Type} (g : Gx) (μ : List Addr) (H : Hp) : List (κ × D) → List (κ × V) → Prop
  | [], vs => vs = []
  | w :: ws, vs => ∃ v r, vs = (w.1, v) :: r ∧ w.2.isTl = false ∧ RV g μ H w.2 v ∧ RKs g μ H ws r
def RC (g : Gx) (μ : List Addr) (H : Hp) (a : Addr) : Cl → Prop
  | .lst ws => ∃ vs, H a = some (.lst vs) ∧ RVs g μ H ws vs
  | .dK kvs => ∃ vs, H a = some (.dK vs) ∧ RKs g μ H kvs vs
  | .dT kvs => ∃ vs, H a = some (.dT vs) ∧ RKs g μ H kvs vs
  | .ins c fs => ∃ C dx vs, g.ca c = some C ∧ H a = some (.ins C dx vs) ∧ RKs g μ H fs vs
structure RH (g : Gx) (μ : List Addr) (h : Hh) (H : Hp) : Prop where
  len : μ.length = h.length
  nd : μ.Nodup
  cell : ∀ (i : Nat) (c : Cl), h[i]? = some c → ∃ a, μ[i]? = some a ∧ RC g μ H a c
def isMut : HO → Bool
  | .lst _ => true
  | .dK _ => true
  | .dT _ => true
  | .ins _ _ _ => true
  | _ => false
/-- what is tracked is of the kinds that may be written -/
def Trk (μ : List Addr) (H : Hp) : Prop := ∀ a ∈ μ, ∃ o, H a = some o ∧ isMut o = true
structure Ext (μ : List Addr) (H : Hp) (μ' : List Addr) (H' : Hp) : Prop where
  pre : ∃ e, μ' = μ ++ e ∧ ∀ x ∈ e, H x = none
  fr : ∀ b o, H b = some o → b ∉ μ → H' b = some o
  lv : ∀ x ∈ μ, H' x ≠ none

section
variable {g : Gx} {μ μ' μ1 μ2 : List Addr} {h h' : Hh} {H H' H1 H2 : Hp}
theorem RC.mut {a : Addr} {c : Cl} (r : RC g μ H a c) : ∃ o, H a = some o ∧ isMut o = true := by
  cases c with
  | lst ws => obtain ⟨vs, e, _⟩ := r; exact ⟨_, e, rfl⟩
  | dK ws => obtain ⟨vs, e, _⟩ := r; exact ⟨_, e, rfl⟩
  | dT ws => obtain ⟨vs, e, _⟩ := r; exact ⟨_, e, rfl⟩
  | ins c fs => obtain ⟨C, dx, vs, _, e, _⟩ := r; exact ⟨_, e, rfl⟩
theorem RH.trk (r : RH g μ h H) : Trk μ H := fun a ha => by
  obtain ⟨i, hi, e⟩ := List.getElem_of_mem ha
  have hl : i < h.length := by rw [← r.len]; exact hi
  obtain ⟨b, eb, rc⟩ := r.cell i h[i] (List.getElem?_eq_getElem hl)
  rw [List.getElem?_eq_getElem hi, e] at eb
  cases eb
  exact rc.mut
theorem Ext.refl (t : Trk μ H) : Ext μ H μ H := ⟨⟨[], by simp, by simp⟩, fun _ _ h _ => h, fun x hx => by obtain ⟨o, e, _⟩ := t x hx; rw [e]; simp⟩
theorem Ext.trans (a : Ext μ H μ1 H1) (b : Ext μ1 H1 μ2 H2) : Ext μ H μ2 H2 := by
  obtain ⟨⟨e1, rfl, f1⟩, r1, l1⟩ := a
  obtain ⟨⟨e2, rfl, f2⟩, r2, l2⟩ := b
  refine ⟨⟨e1 ++ e2, by simp, fun x hx => ?_⟩, fun b o q n => r2 b o (r1 b o q n) ?_, fun x hx => l2 x (List.mem_append_left _ hx)⟩
  · rcases List.mem_append.mp hx with hx | hx
    · exact f1 x hx
    · cases q : H x with
      | none => rfl
      | some o =>
        by_cases hm : x ∈ μ
        · exact absurd (f2 x hx) (l1 x hm)
        · have z := r1 x o q hm
          rw [f2 x hx] at z; cases z
  · intro hm
    rcases List.mem_append.mp hm with hm | hm
    · exact n hm
    · rw [f1 b hm] at q; cases q
theorem Ext.get (x : Ext μ H μ' H') {i : Nat} {a : Addr} (e : μ[i]? = some a) : μ'[i]? = some a := by
  obtain ⟨⟨e1, rfl, _⟩, _, _⟩ := x
  rw [List.getElem?_append_left (by
    rcases Nat.lt_or_ge i μ.length with z | z
    · exact z
    · rw [List.getElem?_eq_none z] at e; cases e)]
  exact e
theorem Ext.notin (x : Ext μ H μ' H') {a : Addr} {o : HO} (q : H a = some o) (n : a ∉ μ) : a ∉ μ' := by
  obtain ⟨⟨e1, rfl, f1⟩, _, _⟩ := x
  intro hm
  rcases List.mem_append.mp hm with hm | hm
  · exact n hm
  · rw [f1 a hm] at q; cases q
theorem sqT_ext {a : Addr} {vs : List V} (t : Trk μ H) (x : Ext μ H μ' H') (q : SqT g.K H a vs) : SqT g.K H' a vs := by
  rcases q with (q | ⟨o, q⟩) | q
  · refine .inl (.inl (x.fr _ _ q fun hm => ?_))
    obtain ⟨o, e, k⟩ := t a hm
    rw [q] at e; cases e; cases k
  · refine .inl (.inr ⟨o, x.fr _ _ q fun hm => ?_⟩)
    obtain ⟨o', e, k⟩ := t a hm
    rw [q] at e; cases e; cases k
  · exact .inr q
theorem sqF_ext {a : Addr} {vs : List V} (t : Trk μ H) (x : Ext μ H μ' H') (q : SqF g.K H a vs) : SqF g.K H' a vs := by
  rcases q with ⟨o, q⟩ | q
  · refine .inl ⟨o, x.fr _ _ q fun hm => ?_⟩
    obtain ⟨o', e, k⟩ := t a hm
    rw [q] at e; cases e; cases k
  · exact .inr q
theorem nofrz {a : Addr} (t : Trk μ H) {o : Obj} {u : HO} (q : H a = some (.frz o u)) : a ∉ μ := fun hm => by
  obtain ⟨o', e, k⟩ := t a hm
  rw [q] at e; cases e; cases k
end
mutual
theorem RV.ext {g : Gx} {μ μ' : List Addr} {H H' : Hp} (t : Trk μ H) (x : Ext μ H μ' H') : ∀ {w : D} {v : V}, RV g μ H w v → RV g μ' H' w v
  | .non, _, r => r
  | .bl _, _, r => r
  | .int _, _, r => r
  | .str _, _, r => r
  | .ty _, _, r => r
  | .fn _, _, r => r
  | .cls _, _, r => r
  | .ref i, _, r => by
    obtain ⟨a, e, q⟩ := r
    exact ⟨a, x.get e, q⟩
  | .xc c ks ws, _, r => by
    obtain ⟨a, C, d, vs, e, hC, q, hl, hd, z⟩ := r
    refine ⟨a, C, d, vs, e, hC, x.fr _ _ q fun hm => ?_, hl, ?_, RVs.ext t x z⟩
    · obtain ⟨o, eo, k⟩ := t a hm
      rw [q] at eo; cases eo; cases k
    · rcases hd with hd | ⟨dx, e1, e2⟩
      · exact .inl hd
      · refine .inr ⟨dx, e1, x.fr _ _ e2 fun hm => ?_⟩
        obtain ⟨o, eo, k⟩ := t dx hm
        rw [e2] at eo; cases eo; cases k
  | .tup ws, _, r => by
    obtain ⟨a, vs, e, q, z⟩ := r
    refine ⟨a, vs, e, x.fr _ _ q fun hm => ?_, RVs.ext t x z⟩
    obtain ⟨o, eo, k⟩ := t a hm
    rw [q] at eo; cases eo; cases k
  | .kt ws, _, r => by
    obtain ⟨a, vs, e, q, z⟩ := r
    exact ⟨a, vs, e, sqT_ext t x q, RVs.ext t x z⟩
  | .fl ws, _, r => by
    obtain ⟨a, vs, e, q, z⟩ := r
    exact ⟨a, vs, e, sqF_ext t x q, RVs.ext t x z⟩
  | .tl ws, _, r => by
    obtain ⟨a, vs, e, q, n, z⟩ := r
    exact ⟨a, vs, e, x.fr _ _ q n, x.notin q n, RVs.ext t x z⟩
theorem RVs.ext {g : Gx} {μ μ' : List Addr} {H H' : Hp} (t : Trk μ H) (x : Ext μ H μ' H') : ∀ {ws : List D} {vs : List V}, RVs g μ H ws vs → RVs g μ' H' ws vs
  | [], _, r => r
  | w :: ws, _, r => by
    obtain ⟨v, rr, e, nt, q, z⟩ := r
    exact ⟨v, rr, e, nt, RV.ext t x q, RVs.ext t x z⟩
end
theorem get_app {l e : List Addr} {i : Nat} {a : Addr} (h : l[i]? = some a) : (l ++ e)[i]? = some a := by
  rw [List.getElem?_append_left (by
    rcases Nat.lt_or_ge i l.length with z | z
    · exact z
    · rw [List.getElem?_eq_none z] at h; cases h)]
  exact h
mutual
theorem RV.pre {g : Gx} {μ e : List Addr} {H : Hp} : ∀ {w : D} {v : V}, w.isTl = false → RV g μ H w v → RV g (μ ++ e) H w v
  | .non, _, _, r => r
  | .bl _, _, _, r => r
  | .int _, _, _, r => r
  | .str _, _, _, r => r
  | .ty _, _, _, r => r
  | .fn _, _, _, r => r
  | .cls _, _, _, r => r
  | .ref i, _, _, r => by
    obtain ⟨a, e, q⟩ := r
    exact ⟨a, get_app e, q⟩
  | .xc c ks ws, _, _, r => by
    obtain ⟨a, C, d, vs, e, hC, q, hl, hd, z⟩ := r
    exact ⟨a, C, d, vs, e, hC, q, hl, hd, RVs.pre z⟩
  | .tup ws, _, _, r => by
    obtain ⟨a, vs, e, q, z⟩ := r
    exact ⟨a, vs, e, q, RVs.pre z⟩
  | .fl ws, _, _, r => by
    obtain ⟨a, vs, e, q, z⟩ := r
    exact ⟨a, vs, e, q, RVs.pre z⟩
  | .kt ws, _, _, r => by
    obtain ⟨a, vs, e, q, z⟩ := r
    exact ⟨a, vs, e, q, RVs.pre z⟩
  | .tl ws, _, n, _ => by cases n
theorem RVs.pre {g : Gx} {μ e : List Addr} {H : Hp} : ∀ {ws : List D} {vs : List V}, RVs g μ H ws vs → RVs g (μ ++ e) H ws vs
  | [], _, r => r
  | w :: ws, _, r => by
    obtain ⟨v, rr, e, nt, q, z⟩ := r
    exact ⟨v, rr, e, nt, RV.pre nt q, RVs.pre z⟩
end
theorem RKs.pre {κ : Type} {g : Gx} {μ e : List Addr} {H : Hp} : ∀ {ws : List (κ × D)} {vs : List (κ × V)}, RKs g μ H ws vs → RKs g (μ ++ e) H ws vs
  | [], _, r => r
  | w :: ws, _, r => by
    obtain ⟨v, rr, e, nt, q, z⟩ := r
    exact ⟨v, rr, e, nt, q.pre nt, RKs.pre z⟩
theorem RC.pre {g : Gx} {μ e : List Addr} {H : Hp} {a : Addr} {c : Cl} (r : RC g μ H a c) : RC g (μ ++ e) H a c := by
  cases c with
  | lst ws => obtain ⟨vs, q, z⟩ := r; exact ⟨vs, q, z.pre⟩
  | dK ws => obtain ⟨vs, q, z⟩ := r; exact ⟨vs, q, z.pre⟩
  | dT ws => obtain ⟨vs, q, z⟩ := r; exact ⟨vs, q, z.pre⟩
  | ins c fs => obtain ⟨C, dx, vs, k, q, z⟩ := r; exact ⟨C, dx, vs, k, q, z.pre⟩
section
variable {g : Gx} {μ μ' : List Addr} {h : Hh} {H H' : Hp} {p a : Addr} {o : HO} {ws : List D} {vs : List V} {w : D} {v : V}
theorem RKs.ext {κ : Type} (t : Trk μ H) (x : Ext μ H μ' H') : ∀ {ws : List (κ × D)} {vs : List (κ × V)}, RKs g μ H ws vs → RKs g μ' H' ws vs
  | [], _, r => r
  | w :: ws, _, r => by
    obtain ⟨v, rr, e, nt, q, z⟩ := r
    exact ⟨v, rr, e, nt, q.ext t x, RKs.ext t x z⟩
theorem RC.ext {c : Cl} (t : Trk μ H) (x : Ext μ H μ' H') (e : H' a = H a) (r : RC g μ H a c) : RC g μ' H' a c := by
  cases c with
  | lst ws => obtain ⟨vs, q, z⟩ := r; exact ⟨vs, e.trans q, z.ext t x⟩
  | dK ws => obtain ⟨vs, q, z⟩ := r; exact ⟨vs, e.trans q, z.ext t x⟩
  | dT ws => obtain ⟨vs, q, z⟩ := r; exact ⟨vs, e.trans q, z.ext t x⟩
  | ins c fs => obtain ⟨C, dx, vs, k, q, z⟩ := r; exact ⟨C, dx, vs, k, e.trans q, z.ext t x⟩
theorem Trk.ne (t : Trk μ H) (n : H p = none) (ha : a ∈ μ) : a ≠ p := fun e => by
  obtain ⟨o, q, _⟩ := t a ha
  rw [e, n] at q; cases q
/-- something new that is not tracked -/
theorem Ext.new (t : Trk μ H) (n : H p = none) : Ext μ H μ (upd H p o) :=
  ⟨⟨[], by simp, by simp⟩, fun b u q _ => by rw [upd_ne (ne_of_none q n)]; exact q, fun x hx => by
    rw [upd_ne (t.ne n hx)]
    obtain ⟨o, q, _⟩ := t x hx
    rw [q]; simp⟩
theorem mem_of_get {α : Type} {l : List α} {i : Nat} {a : α} (e : l[i]? = some a) : a ∈ l := List.mem_of_getElem? e
theorem RH.new (r : RH g μ h H) (n : H p = none) : RH g μ h (upd H p o) :=
  ⟨r.len, r.nd, fun i c e => by
    obtain ⟨a, ea, rc⟩ := r.cell i c e
    exact ⟨a, ea, rc.ext r.trk (.new r.trk n) (upd_ne (r.trk.ne n (mem_of_get ea)))⟩⟩
theorem RV.newT (r : RH g μ h H) (n : H p = none) (q : RVs g μ H ws vs) : RV g μ (upd H p (.tup vs)) (.tup ws) (.ref p) :=
  ⟨p, vs, rfl, upd_same, q.ext r.trk (.new r.trk n)⟩
theorem RV.newL (r : RH g μ h H) (n : H p = none) (q : RVs g μ H ws vs) : RV g μ (upd H p (.lst vs)) (.tl ws) (.ref p) :=
  ⟨p, vs, rfl, upd_same, fun hm => r.trk.ne n hm rfl, q.ext r.trk (.new r.trk n)⟩
/-- a cell is written -/
theorem Ext.wr {i : Nat} (t : Trk μ H) (e : μ[i]? = some a) (m : isMut o = true) : Ext μ H μ (upd H a o) :=
  ⟨⟨[], by simp, by simp⟩, fun b u q nb => by
    rw [upd_ne (fun z => nb (by rw [z]; exact mem_of_get e))]; exact q, fun x hx => by
    by_cases hx' : x = a
    · subst hx'; rw [upd_same]; simp
    · rw [upd_ne hx']
      obtain ⟨o, q, _⟩ := t x hx
      rw [q]; simp⟩
theorem get_inj {l : List Addr} (nd : l.Nodup) {i j : Nat} {a : Addr} (hi : l[i]? = some a) (hj : l[j]? = some a) : i = j := by
  have h1 : i < l.length := by
    rcases Nat.lt_or_ge i l.length with z | z
    · exact z
    · rw [List.getElem?_eq_none z] at hi; cases hi
  exact (List.getElem?_inj h1 nd).mp (hi.trans hj.symm)
theorem RH.wr {i : Nat} {c : Cl} (r : RH g μ h H) (e : μ[i]? = some a) (m : isMut o = true) (k : RC g μ (upd H a o) a c) : RH g μ (h.set i c) (upd H a o) := by
  refine ⟨by rw [List.length_set]; exact r.len, r.nd, fun j d ej => ?_⟩
  by_cases hj : i = j
  · subst hj
    by_cases hl : i < h.length
    · rw [List.getElem?_set_self hl] at ej
      cases ej
      exact ⟨a, e, k⟩
    · rw [List.getElem?_eq_none (by simpa using hl)] at ej; cases ej
  · rw [List.getElem?_set_ne hj] at ej
    obtain ⟨b, eb, rc⟩ := r.cell j d ej
    refine ⟨b, eb, rc.ext r.trk (.wr r.trk e m) (upd_ne fun z => hj ?_)⟩
    subst z
    exact get_inj r.nd e eb
/-- one more cell -/
theorem RH.track {c : Cl} (r : RH g μ h H) (na : a ∉ μ) (k : RC g μ H a c) : RH g (μ ++ [a]) (h ++ [c]) H := by
  refine ⟨by simp [r.len], ?_, fun i d ei => ?_⟩
  · rw [List.nodup_append]
    exact ⟨r.nd, by simp, fun x hx y hy z => by
      have : y = a := by simpa using hy
      subst this; subst z; exact na hx⟩
  · rcases Nat.lt_or_ge i h.length with hl | hl
    · rw [List.getElem?_append_left hl] at ei
      obtain ⟨b, eb, rc⟩ := r.cell i d ei
      exact ⟨b, get_app eb, rc.pre⟩
    · rw [List.getElem?_append_right hl] at ei
      have hi : i = h.length := by
        rcases Nat.lt_or_ge (i - h.length) 1 with z | z
        · omega
        · rw [List.getElem?_eq_none (by simpa using z)] at ei; cases ei
      subst hi
      simp at ei
      subst ei
      exact ⟨a, by rw [← r.len]; simp, k.pre⟩
/-- a value whose list is young -/
def Fr (H : Hp) (w : D) (v : V) : Prop := match w with
  | .tl _ => ∀ a, v = .ref a → H a = none
  | _ => True
theorem Fr.of (e : w.isTl = false) : Fr H w v := by
  cases w <;> first | exact True.intro | cases e
theorem Fr.back (x : Ext μ H μ' H') (f : Fr H' w v) : Fr H w v := by
  cases w <;> first | exact True.intro | skip
  rename_i ws
  intro a e
  have z := f a e
  cases q : H a with
  | none => rfl
  | some o =>
    by_cases hm : a ∈ μ
    · exact absurd z (x.lv a hm)
    · rw [x.fr a o q hm] at z; cases z
/-- from now on it is kept -/
def stash (w : D) (h : Hh) : D × Hh := match w with
  | .tl ws => (.ref h.length, h ++ [.lst ws])
  | w => (w, h)
theorem stash_of (e : w.isTl = false) : stash w h = (w, h) := by
  cases w <;> first | rfl | cases e
theorem stash_isTl : (stash w h).1.isTl = false := by cases w <;> rfl
theorem stash_ok {μ0 : List Addr} {H0 : Hp} (r : RH g μ h H) (q : RV g μ H w v) (f : Fr H0 w v) (x : Ext μ0 H0 μ H) : ∃ μ', Ext μ0 H0 μ' H ∧ RH g μ' (stash w h).2 H ∧ RV g μ' H (stash w h).1 v ∧ ∃ e, μ' = μ ++ e := by
  by_cases e : w.isTl = false
  · rw [stash_of e]; exact ⟨μ, x, r, q, [], by simp⟩
  · cases w <;> first | exact absurd rfl e | skip
    rename_i ws
    obtain ⟨a, vs, rfl, ha, na, z⟩ := q
    have f' : H0 a = none := f a rfl
    -- an extension that keeps the heap as it is
    have x0 : Ext μ0 H0 (μ ++ [a]) H := by
      obtain ⟨⟨e0, rfl, fe⟩, fr, lv⟩ := x
      refine ⟨⟨e0 ++ [a], by simp, fun y hy => ?_⟩, fr, lv⟩
      rcases List.mem_append.mp hy with hy | hy
      · exact fe y hy
      · have : y = a := by simpa using hy
        subst this; exact f'
    refine ⟨μ ++ [a], x0, RH.track r na ⟨vs, ha, z⟩, ⟨a, ?_, rfl⟩, [a], rfl⟩
    show (μ ++ [a])[h.length]? = some a
    rw [← r.len]
    simp
end
end PV
end
section
/-! PVA3: results, judgements. -/
namespace PV
open PySem PySem.Spec PyProof.Rows L2

inductive R (α : Type) where
  | ok (a : α) (h : Hh)
  | exc (c : Nat) (fs : List (Str × D)) (h : Hh)
  | bad
  deriving Inhabited
def R.bind {α β : Type} (r : R α) (f : α → Hh → R β) : R β := match r with
  | .ok a h => f a h
  | .exc c fs h => .exc c fs h
  | .bad => .bad
@[simp] theorem R.bind_ok {α β : Type} (a : α) (h : Hh) (f : α → Hh → R β) : (R.ok a h).bind f = f a h := id rfl
@[simp] theorem R.bind_exc {α β : Type} (c : Nat) (fs : List (Str × D)) (h : Hh) (f : α → Hh → R β) : (R.exc c fs h : R α).bind f = .exc c fs h := id rfl
@[simp] theorem R.bind_bad {α β : Type} (f : α → Hh → R β) : (R.bad : R α).bind f = .bad := id rfl
abbrev M (α : Type) := Sg → Hh → R α

/-- an exception of the own class c, its attributes fs -/
def XV (g : Gx) (μ : List Addr) (H : Hp) (c : Nat) (fs : List (Str × D)) (cv : Value) (d : Option Addr) : Prop :=
  ∃ C vs, g.ca c = some C ∧ cv = .ref C ∧ ((fs = [] ∧ d = none) ∨ ∃ dx, d = some dx ∧ H dx = some (.xd vs)) ∧ RKs g μ H fs vs

/-- what is wanted of a result -/
def Po {α : Type} (g : Gx) (Wx : WX) (σ : L2.St) (μ : List Addr) (H : Hp) (r : R α) (Q : α → Hh → List Addr → Hp → Prop) : Prop := match r with
  | .ok a h' => ∀ μ' H', Ext μ H μ' H' → RH g μ' h' H' → Q a h' μ' H'
  | .exc c fs h' => ∀ μ' H' cv d, Ext μ H μ' H' → RH g μ' h' H' → XV g μ' H' c fs cv d → Wx cv d σ H'
  | .bad => False
section
variable {α β : Type} {g : Gx} {Wx : WX} {σ : L2.St} {μ μ' : List Addr} {H H' : Hp} {r : R α} {f : α → Hh → R β}
theorem Po.ext {Q : α → Hh → List Addr → Hp → Prop} (p : Po g Wx σ μ H r Q) (x : Ext μ H μ' H') : Po g Wx σ μ' H' r Q := by
  cases r with
  | ok a h' => exact fun μ2 H2 x2 r2 => p μ2 H2 (x.trans x2) r2
  | exc c fs h' => exact fun μ2 H2 cv d x2 r2 v2 => p μ2 H2 cv d (x.trans x2) r2 v2
  | bad => exact p
theorem Po.bind {Q : β → Hh → List Addr → Hp → Prop} (p : Po g Wx σ μ H (r.bind f) Q) : Po g Wx σ μ H r fun a h1 μ1 H1 => Po g Wx σ μ1 H1 (f a h1) Q := by
  cases r with
  | ok a h' => exact fun μ2 H2 x2 r2 => Po.ext (r := f a h') p x2
  | exc c fs h' => exact p
  | bad => exact p
theorem Po.bind2 {Q : β → Hh → List Addr → Hp → Prop} (p : Po g Wx σ μ H (r.bind f) Q) : Po g Wx σ μ H r fun a h1 μ1 H1 => ∀ μ2 H2, Ext μ H μ2 H2 → Po g Wx σ μ2 H2 (f a h1) Q := by
  cases r with
  | ok a h' => exact fun _ _ _ _ μ2 H2 x2 => Po.ext (r := f a h') p x2
  | exc c fs h' => exact p
  | bad => exact p
theorem Po.imp {Q Q' : α → Hh → List Addr → Hp → Prop} (p : Po g Wx σ μ H r Q) (i : ∀ a h1 μ1 H1, Ext μ H μ1 H1 → RH g μ1 h1 H1 → Q a h1 μ1 H1 → Q' a h1 μ1 H1) : Po g Wx σ μ H r Q' := by
  cases r with
  | ok a h' => exact fun μ2 H2 x2 r2 => i _ _ _ _ x2 r2 (p μ2 H2 x2 r2)
  | exc c fs h' => exact p
  | bad => exact p
theorem Po.at {a : α} {h : Hh} {Q : α → Hh → List Addr → Hp → Prop} (p : Po g Wx σ μ H (.ok a h) Q) (rh : RH g μ h H) : Q a h μ H := p μ H (Ext.refl rh.trk) rh
end

/-- the slots -/
def RS (g : Gx) (μ : List Addr) (H : Hp) (σw : Sg) (σ : L2.St) : Prop := σw.length = σ.length ∧ ∀ (i : Nat) (w : D), σw[i]? = some (some w) → ∃ v, σ[i]? = some (some v) ∧ w.isTl = false ∧ RV g μ H w v
theorem RS.ext {g : Gx} {μ μ' : List Addr} {H H' : Hp} {σw : Sg} {σ : L2.St} (t : Trk μ H) (x : Ext μ H μ' H') (r : RS g μ H σw σ) : RS g μ' H' σw σ :=
  ⟨r.1, fun i w e => let ⟨v, q, nt, z⟩ := r.2 i w e; ⟨v, q, nt, z.ext t x⟩⟩
theorem RS.pre {g : Gx} {μ e : List Addr} {H : Hp} {σw : Sg} {σ : L2.St} (r : RS g μ H σw σ) : RS g (μ ++ e) H σw σ :=
  ⟨r.1, fun i w e => let ⟨v, q, nt, z⟩ := r.2 i w e; ⟨v, q, nt, z.pre nt⟩⟩
theorem RS.set {g : Gx} {μ : List Addr} {H : Hp} {σw : Sg} {σ : L2.St} (r : RS g μ H σw σ) {w : D} {v : V} (nt : w.isTl = false) (q : RV g μ H w v) (i : Nat) : RS g μ H (σw.set i (some w)) (σ.set i (some v)) := by
  refine ⟨by simp [r.1], fun j w' e => ?_⟩
  by_cases hj : i = j
  · subst hj
    by_cases hl : i < σw.length
    · rw [List.getElem?_set_self hl] at e
      cases e
      exact ⟨v, List.getElem?_set_self (by rw [← r.1]; exact hl), nt, q⟩
    · rw [List.getElem?_eq_none (by simpa using hl)] at e; cases e
  · rw [List.getElem?_set_ne hj] at e ⊢
    exact r.2 j w' e

/-- the weakest readings -/
def tOf (X : Cx) (e : Expr) : TE := fun σ H Q => ∀ pins s, Inv X pins σ H s → wpAny (model X.prog X.w) X.A (eval e X.env) (EP X pins σ Q) X.xe s
theorem pe_of {X : Cx} {e : Expr} : PE X e (tOf X e) := ⟨fun pins s σ H Q I h => h pins s I⟩
theorem peAt {X : Cx} {e : Expr} {t : TE} (p : PE X e t) {σ : L2.St} {H : Hp} {Q : VK} (h : t σ H Q) : tOf X e σ H Q := fun pins s I => p.run pins s σ H Q I h
def tOfT (X : Cx) (e : Expr) : TT := fun σ H Q => ∀ pins s, Inv X pins σ H s → wpAny (model X.prog X.w) X.A (isTrue e X.env (eval e X.env)) (TP X pins σ Q) X.xe s
theorem pt_of {X : Cx} {e : Expr} : PT X e (tOfT X e) := ⟨fun pins s σ H Q I h => h pins s I⟩
theorem ptAt {X : Cx} {e : Expr} {t : TT} (p : PT X e t) {σ : L2.St} {H : Hp} {Q : Bool → Hp → Prop} (h : t σ H Q) : tOfT X e σ H Q := fun pins s I => p.run pins s σ H Q I h
/-- a test whatever its whole is -/
def tOfW (X : Cx) (e : Expr) : TT := fun σ H Q => ∀ whole pins s, Inv X pins σ H s → wpAny (model X.prog X.w) X.A (isTrue e X.env whole) (TP X pins σ Q) X.xe s
theorem pw_of {X : Cx} {e : Expr} : PW X e (tOfW X e) := ⟨fun whole pins s σ H Q I h => h whole pins s I⟩
theorem pwAt {X : Cx} {e : Expr} {t : TT} (p : PW X e t) {σ : L2.St} {H : Hp} {Q : Bool → Hp → Prop} (h : t σ H Q) : tOfW X e σ H Q := fun whole pins s I => p.run whole pins s σ H Q I h
def tOfA (X : Cx) (es : List Expr) : TA := fun σ H Q => ∀ pos pins s, Inv X pins σ H s → wpAny (model X.prog X.w) X.A (spliced (backTo pos (starEach es X.env))) (AP X pins σ Q) X.xe s
theorem pa_of {X : Cx} {es : List Expr} : PA X es (tOfA X es) := ⟨fun pos pins s σ H Q I h => h pos pins s I⟩
theorem paAt {X : Cx} {es : List Expr} {t : TA} (p : PA X es t) {σ : L2.St} {H : Hp} {Q : List V → Hp → Prop} (h : t σ H Q) : tOfA X es σ H Q := fun pos pins s I => p.run pos pins s σ H Q I h
def rOf (X : Cx) (f : Value → Value → Sem Value) : R2 := fun x y H Q => ∀ pins s σ v u, Inv X pins σ H s → RelV x v → RelV y u → wpAny (model X.prog X.w) X.A (f v u) (EP X pins σ Q) X.xe s
theorem op_of {X : Cx} {f : Value → Value → Sem Value} : OpR X f (rOf X f) := fun pins s σ H x y v u Q I rx ry h => h pins s σ v u I rx ry
theorem opAt {X : Cx} {f : Value → Value → Sem Value} {r : R2} (p : OpR X f r) {x y : V} {H : Hp} {Q : VK} (h : r x y H Q) : rOf X f x y H Q := fun pins s σ v u I rx ry => p pins s σ H x y v u Q I rx ry h

section
variable (g : Gx) (X : Cx) (Wx : WX)
/-- an expression does what m does -/
def SE (e : Expr) (m : M D) : Prop := ∀ (σw : Sg) (h : Hh) (σ : L2.St) (H : Hp) (μ : List Addr) (Q : VK), RS g μ H σw σ → RH g μ h H →
  Po g Wx σ μ H (m σw h) (fun w h' μ' H' => ∀ v, RV g μ' H' w v → Fr H w v → Q v H') → tOf X e σ H Q
def ST (e : Expr) (m : M Bool) : Prop := ∀ (σw : Sg) (h : Hh) (σ : L2.St) (H : Hp) (μ : List Addr) (Q : Bool → Hp → Prop), RS g μ H σw σ → RH g μ h H →
  Po g Wx σ μ H (m σw h) (fun b h' μ' H' => Q b H') → tOfT X e σ H Q
def SW (e : Expr) (m : M Bool) : Prop := ∀ (σw : Sg) (h : Hh) (σ : L2.St) (H : Hp) (μ : List Addr) (Q : Bool → Hp → Prop), RS g μ H σw σ → RH g μ h H →
  Po g Wx σ μ H (m σw h) (fun b h' μ' H' => Q b H') → tOfW X e σ H Q
def SA (es : List Expr) (m : M (List D)) : Prop := ∀ (σw : Sg) (h : Hh) (σ : L2.St) (H : Hp) (μ : List Addr) (Q : List V → Hp → Prop), RS g μ H σw σ → RH g μ h H →
  Po g Wx σ μ H (m σw h) (fun ws h' μ' H' => ∀ vs, RVs g μ' H' ws vs → Q vs H') → tOfA X es σ H Q
end
theorem SW.st {g : Gx} {X : Cx} {Wx : WX} {e : Expr} {m : M Bool} (s : SW g X Wx e m) : ST g X Wx e m := fun σw h σ H μ Q rs rh p pins t I => s σw h σ H μ Q rs rh p _ pins t I

/-! ### the simplest expressions -/
section
variable {g : Gx} {X : Cx} {Wx : WX}
def mC (w : D) : M D := fun _ h => .ok w h
def mV (i : Nat) : M D := fun σ h => match σ[i]? with
  | some (some w) => .ok w h
  | _ => .bad
theorem se_c {e : Expr} {v : V} {w : D} (p : PE X e (tC v)) (nt : w.isTl = false) (r : ∀ μ H, RV g μ H w v) : SE g X Wx e (mC w) := fun σw h σ H μ Q rs rh po =>
  peAt p (show Q v H from po.at rh v (r μ H) (.of nt))
theorem se_int {i j pos} : SE g X Wx (.Constant (.int i) j pos) (mC (.int i)) := se_c pe_int rfl fun _ _ => rfl
theorem se_bl {i j pos} : SE g X Wx (.Constant (.bool i) j pos) (mC (.bl i)) := se_c pe_bl rfl fun _ _ => rfl
theorem se_non {j pos} : SE g X Wx (.Constant .none j pos) (mC .non) := se_c pe_non rfl fun _ _ => rfl
theorem se_str {x j pos} : SE g X Wx (.Constant (.str x) j pos) (mC (.str x)) := se_c pe_str rfl fun _ _ => rfl
theorem se_var {i : Nat} {x : Str} {pos : Pos} (hN : X.N[i]? = some x) (hv : Vis X.env.scope x) (hd : (x == ("__debug__" : Str)) = false) (hcd : (x == ("__classdict__" : Str)) = false) : SE g X Wx (.Name x pos) (mV i) := by
  intro σw h σ H μ Q rs rh po
  unfold mV at po
  cases e : σw[i]? with
  | none => rw [e] at po; exact po.elim
  | some o =>
    cases o with
    | none => rw [e] at po; exact po.elim
    | some w =>
      rw [e] at po
      obtain ⟨v, q, nt, r⟩ := rs.2 i w e
      exact peAt (pe_var hN hv hd hcd) ⟨v, q, po.at rh v r (.of nt)⟩
end
end PV
end
section
/-! PVA4: operators, comparisons. -/
namespace PV
open PySem PySem.Spec PyProof.Rows L2

/-- a list that may be read: just made, tracked, or frozen -/
def asL (h : Hh) : D → Option (List D)
  | .tl ws => some ws
  | .fl ws => some ws
  | .ref i => match h[i]? with
    | some (.lst ws) => some ws
    | _ => none
  | _ => none
/-- a tuple -/
def asT : D → Option (List D)
  | .tup ws => some ws
  | .kt ws => some ws
  | _ => none
/-- a list that is tracked by the hand layer's heap -/
def asM (h : Hh) : D → Option (List D)
  | .tl ws => some ws
  | .ref i => match h[i]? with
    | some (.lst ws) => some ws
    | _ => none
  | _ => none
section
variable {g : Gx} {μ : List Addr} {h : Hh} {H : Hp} {w : D} {v : V} {ws : List D}
theorem asM_ok (r : RH g μ h H) (q : RV g μ H w v) (e : asM h w = some ws) : ∃ a vs, v = .ref a ∧ H a = some (.lst vs) ∧ RVs g μ H ws vs := by
  unfold asM at e
  split at e
  · cases e
    obtain ⟨a, vs, e1, e2, _, z⟩ := q
    exact ⟨a, vs, e1, e2, z⟩
  · rename_i i
    obtain ⟨a, e1, e2⟩ := q
    split at e
    · rename_i ws' e3
      cases e
      obtain ⟨b, eb, vs, hb, z⟩ := r.cell i _ e3
      rw [e1] at eb; cases eb
      exact ⟨a, vs, e2, hb, z⟩
    · cases e
  · cases e
theorem asL_ok (r : RH g μ h H) (q : RV g μ H w v) (e : asL h w = some ws) : ∃ a vs, v = .ref a ∧ SqL g.K H a vs ∧ RVs g μ H ws vs := by
  unfold asL at e
  split at e
  · cases e
    obtain ⟨a, vs, e1, e2, _, z⟩ := q
    exact ⟨a, vs, e1, .of e2, z⟩
  · cases e
    obtain ⟨a, vs, e1, e2, z⟩ := q
    exact ⟨a, vs, e1, e2.sq, z⟩
  · rename_i i
    obtain ⟨a, vs, e1, e2, z⟩ := asM_ok (ws := ws) r q (by unfold asM; exact e)
    exact ⟨a, vs, e1, .of e2, z⟩
  · cases e
theorem asT_ok (q : RV g μ H w v) (e : asT w = some ws) : ∃ a vs, v = .ref a ∧ SqT g.K H a vs ∧ RVs g μ H ws vs := by
  unfold asT at e
  split at e
  · cases e
    obtain ⟨a, vs, e1, e2, z⟩ := q
    exact ⟨a, vs, e1, .of e2, z⟩
  · cases e
    exact q
  · cases e
theorem RVs.length {ws : List D} {vs : List V} : RVs g μ H ws vs → vs.length = ws.length := by
  induction ws generalizing vs with
  | nil => intro r; rw [show vs = [] from r]; rfl
  | cons w ws ih =>
    intro r
    obtain ⟨v, rr, rfl, _, _, z⟩ := r
    simp [ih z]
theorem RVs.append {ws ws' : List D} {vs vs' : List V} : RVs g μ H ws vs → RVs g μ H ws' vs' → RVs g μ H (ws ++ ws') (vs ++ vs') := by
  induction ws generalizing vs with
  | nil => intro r s; rw [show vs = [] from r]; exact s
  | cons w ws ih =>
    intro r s
    obtain ⟨v, rr, rfl, nt, q, z⟩ := r
    exact ⟨v, _, rfl, nt, q, ih z s⟩
theorem RVs.get {ws : List D} {vs : List V} {i : Nat} {w : D} : RVs g μ H ws vs → ws[i]? = some w → ∃ v, vs[i]? = some v ∧ w.isTl = false ∧ RV g μ H w v := by
  induction ws generalizing vs i with
  | nil => intro r e; simp at e
  | cons w' ws ih =>
    intro r e
    obtain ⟨v, rr, rfl, nt, q, z⟩ := r
    cases i with
    | zero => simp at e; subst e; exact ⟨v, by simp, nt, q⟩
    | succ i => simp at e; obtain ⟨v', e', y⟩ := ih z e; exact ⟨v', by simpa using e', y⟩
theorem RVs.take {ws : List D} {vs : List V} (n : Nat) : RVs g μ H ws vs → RVs g μ H (ws.take n) (vs.take n) := by
  induction ws generalizing vs n with
  | nil => intro r; rw [show vs = [] from r]; simp; rfl
  | cons w' ws ih =>
    intro r
    obtain ⟨v, rr, rfl, nt, q, z⟩ := r
    cases n with
    | zero => exact rfl
    | succ n => exact ⟨v, _, rfl, nt, q, ih n z⟩
theorem RVs.drop {ws : List D} {vs : List V} (n : Nat) : RVs g μ H ws vs → RVs g μ H (ws.drop n) (vs.drop n) := by
  induction ws generalizing vs n with
  | nil => intro r; rw [show vs = [] from r]; simp; rfl
  | cons w' ws ih =>
    intro r
    cases n with
    | zero => exact r
    | succ n =>
      obtain ⟨v, rr, rfl, nt, q, z⟩ := r
      exact ih n z
theorem RVs.rep {ws : List D} {vs : List V} (r : RVs g μ H ws vs) : ∀ n : Nat, RVs g μ H (List.replicate n ws).flatten (List.replicate n vs).flatten
  | 0 => rfl
  | n + 1 => by
    rw [List.replicate_succ, List.replicate_succ, List.flatten_cons, List.flatten_cons]
    exact r.append (RVs.rep r n)
end

/-! ### two-place operations on values -/
def SO (g : Gx) (X : Cx) (Wx : WX) (f : Value → Value → Sem Value) (m : D → D → Hh → R D) : Prop := ∀ (x y : D) (h : Hh) (σ : L2.St) (H : Hp) (μ : List Addr) (vx vy : V) (Q : VK),
  RH g μ h H → RV g μ H x vx → RV g μ H y vy → Po g Wx σ μ H (m x y h) (fun w h' μ' H' => ∀ v, RV g μ' H' w v → Fr H w v → Q v H') → rOf X f vx vy H Q
def mOp (f : D → D → Hh → R D) (a b : M D) : M D := fun σ h => (a σ h).bind fun x h1 => (b σ h1).bind fun y h2 => f x y h2
section
variable {g : Gx} {X : Cx} {Wx : WX} {a b : Expr} {ma mb : M D} {f : D → D → Hh → R D} {pos : Pos}
theorem so_run {fv : Value → Value → Sem Value} (so : SO g X Wx fv f) (ha : SE g X Wx a ma) (hb : SE g X Wx b mb) {σw : Sg} {h : Hh} {σ : L2.St} {H : Hp} {μ : List Addr} {Q : VK} (rs : RS g μ H σw σ) (rh : RH g μ h H)
    (po : Po g Wx σ μ H (mOp f ma mb σw h) (fun w h' μ' H' => ∀ v, RV g μ' H' w v → Fr H w v → Q v H')) : tOp (rOf X fv) (tOf X a) (tOf X b) σ H Q := by
  refine ha σw h σ H μ _ rs rh (po.bind.imp fun x h1 μ1 H1 x1 r1 p1 vx qx fx => ?_)
  refine hb σw h1 σ H1 μ1 _ (rs.ext rh.trk x1) r1 (p1.bind.imp fun y h2 μ2 H2 x2 r2 p2 vy qy fy => ?_)
  exact so x y h2 σ H2 μ2 vx vy Q r2 (qx.ext r1.trk x2) qy (p2.imp fun w h3 μ3 H3 x3 r3 q3 v qv fv => q3 v qv (fv.back (x1.trans x2)))
theorem se_bin {op : Operator} (so : SO g X Wx (binaryOp op) f) (ha : SE g X Wx a ma) (hb : SE g X Wx b mb) : SE g X Wx (.BinOp a op b pos) (mOp f ma mb) := fun σw h σ H μ Q rs rh po =>
  peAt (pe_op op_of pe_of pe_of) (so_run so ha hb rs rh po)
theorem se_cmp {op : CmpOp} (so : SO g X Wx (compareOp op) f) (ha : SE g X Wx a ma) (hb : SE g X Wx b mb) (hm : behindInMarks op b = false) : SE g X Wx (.Compare a [op] [b] pos) (mOp f ma mb) := fun σw h σ H μ Q rs rh po =>
  peAt (pe_cmpR op_of pe_of pe_of hm) (so_run so ha hb rs rh po)
/-- a value that must be a bool -/
def mB (m : M D) : M Bool := fun σ h => (m σ h).bind fun x h1 => match x with
  | .bl b => .ok b h1
  | _ => .bad
theorem test_of {σ : L2.St} {H : Hp} {μ : List Addr} {Q : Bool → Hp → Prop} {m : M D} {σw : Sg} {h : Hh} (po : Po g Wx σ μ H (mB m σw h) (fun b h' μ' H' => Q b H')) :
    Po g Wx σ μ H (m σw h) (fun w h' μ' H' => ∀ v, RV g μ' H' w v → Fr H w v → ∃ k, v = .bl k ∧ Q k H') := by
  refine po.bind.imp fun w h1 μ1 H1 x1 r1 p1 v qv fv => ?_
  cases w <;> first | exact p1.elim | skip
  rename_i b
  exact ⟨b, qv, p1.at r1⟩
theorem st_cmp {op : CmpOp} (so : SO g X Wx (compareOp op) f) (ha : SE g X Wx a ma) (hb : SE g X Wx b mb) (hm : behindInMarks op b = false) : ST g X Wx (.Compare a [op] [b] pos) (mB (mOp f ma mb)) := fun σw h σ H μ Q rs rh po =>
  ptAt (pt_cmpR op_of pe_of pe_of hm) (so_run (Q := fun v H' => ∃ k, v = .bl k ∧ Q k H') so ha hb rs rh (test_of po))
end

/-! ### arithmetic -/
def addW (x y : D) (h : Hh) : R D := match x, y with
  | .int i, .int j => .ok (.int (i + j)) h
  | .str i, .str j => if i.length + j.length ≤ sizeLine then .ok (.str (i ++ j)) h else .bad
  | x, y => match asT x, asT y with
    | some i, some j => if i.length + j.length ≤ sizeLine then .ok (if i = [] then y else if j = [] then x else .tup (i ++ j)) h else .bad
    | _, _ => match asM h x, asM h y with
      | some i, some j => if i.length + j.length ≤ sizeLine then .ok (.tl (i ++ j)) h else .bad
      | _, _ => .bad
def subW (x y : D) (h : Hh) : R D := match x, y with
  | .int i, .int j => .ok (.int (i - j)) h
  | _, _ => .bad
instance (i j : Int) : Decidable (CMul i j) := by unfold CMul; infer_instance
def mulW (x y : D) (h : Hh) : R D := match x, y with
  | .int i, .int j => if CMul i j then .ok (.int (i * j)) h else .bad
  | x, .int k => match asM h x with
    | some i => if -(2 ^ 63) ≤ k ∧ k < 2 ^ 63 ∧ i.length * k.toNat ≤ sizeLine then .ok (.tl (List.replicate k.toNat i).flatten) h else .bad
    | none => .bad
  | _, _ => .bad
def fdivW (x y : D) (h : Hh) : R D := match x, y with
  | .int i, .int j => if 0 < j ∧ j < 1073741824 then .ok (.int (i / j)) h else .bad
  | _, _ => .bad
def modW (x y : D) (h : Hh) : R D := match x, y with
  | .int i, .int j => if 0 < j then .ok (.int (i % j)) h else .bad
  | _, _ => .bad
def powW (x y : D) (h : Hh) : R D := match x, y with
  | .int i, .int j => if 0 ≤ j ∧ (Builtin.Int.intBits i : Int) * j ≤ 2 ^ 27 then .ok (.int (i ^ j.toNat)) h else .bad
  | _, _ => .bad
section
variable {g : Gx} {X : Cx} {Wx : WX}
theorem so_add (hK : X.K = g.K) : SO g X Wx (binaryOp .Add) addW := by
  intro x y h σ H μ vx vy Q rh qx qy po
  unfold addW at po
  split at po
  · exact opAt op_add ⟨_, _, qx, qy, po.at rh _ rfl (.of rfl)⟩
  · split at po
    · rename_i hl
      exact opAt op_add_str ⟨_, _, qx, qy, hl, po.at rh _ rfl (.of rfl)⟩
    · exact po.elim
  · split at po
    · rename_i i j e1 e2
      split at po
      · rename_i hl
        obtain ⟨a, vs, rfl, s1, z1⟩ := asT_ok qx e1
        obtain ⟨b, us, rfl, s2, z2⟩ := asT_ok qy e2
        have l1 := z1.length
        have l2 := z2.length
        refine opAt op_catA ⟨a, b, vs, us, rfl, rfl, by rw [hK]; exact s1, by rw [hK]; exact s2, by omega, fun e => ?_, fun ne e => ?_, fun ne ne' p np => ?_⟩
        · subst e
          have ei : i = [] := by cases i with | nil => rfl | cons _ _ => simp at l1
          subst ei
          rw [if_pos rfl] at po
          exact po.at rh _ qy (.of (by cases y <;> first | rfl | cases e2))
        · subst e
          have ej : j = [] := by cases j with | nil => rfl | cons _ _ => simp at l2
          have ei : i ≠ [] := fun z => ne (by subst z; cases vs with | nil => rfl | cons _ _ => simp at l1)
          rw [if_neg ei, if_pos ej] at po
          exact po.at rh _ qx (.of (by cases x <;> first | rfl | cases e1))
        · have ei : i ≠ [] := fun z => ne (by subst z; cases vs with | nil => rfl | cons _ _ => simp at l1)
          have ej : j ≠ [] := fun z => ne' (by subst z; cases us with | nil => rfl | cons _ _ => simp at l2)
          rw [if_neg ei, if_neg ej] at po
          exact po μ _ (.new rh.trk np) (rh.new np) _ (.newT rh np (z1.append z2)) (.of rfl)
      · exact po.elim
    · split at po
      · rename_i i j e1 e2
        split at po
        · rename_i hl
          obtain ⟨a, vs, rfl, h1, z1⟩ := asM_ok rh qx e1
          obtain ⟨b, us, rfl, h2, z2⟩ := asM_ok rh qy e2
          have l1 := z1.length
          have l2 := z2.length
          refine opAt op_cat ⟨a, b, vs, us, rfl, rfl, h1, h2, by omega, fun p np => ?_⟩
          exact po μ _ (.new rh.trk np) (rh.new np) _ (.newL rh np (z1.append z2)) fun c ec => by cases ec; exact np
        · exact po.elim
      · exact po.elim
theorem so_sub : SO g X Wx (binaryOp .Sub) subW := by
  intro x y h σ H μ vx vy Q rh qx qy po
  unfold subW at po
  split at po
  · exact opAt op_sub ⟨_, _, qx, qy, po.at rh _ rfl (.of rfl)⟩
  · exact po.elim
theorem so_mul : SO g X Wx (binaryOp .Mult) mulW := by
  intro x y h σ H μ vx vy Q rh qx qy po
  unfold mulW at po
  split at po
  · split at po
    · rename_i hc
      exact opAt op_mul ⟨_, _, qx, qy, hc, po.at rh _ rfl (.of rfl)⟩
    · exact po.elim
  · split at po
    · rename_i i e1
      split at po
      · rename_i hc
        obtain ⟨h1, h2, h3⟩ := hc
        obtain ⟨a, vs, rfl, ha, z1⟩ := asM_ok rh qx e1
        have l1 := z1.length
        refine opAt op_rep ⟨a, _, vs, rfl, qy, ha, h1, h2, by rw [l1]; exact h3, fun p np => ?_⟩
        exact po μ _ (.new rh.trk np) (rh.new np) _ (.newL rh np (z1.rep _)) fun c ec => by cases ec; exact np
      · exact po.elim
    · exact po.elim
  · exact po.elim
theorem so_fdiv : SO g X Wx (binaryOp .FloorDiv) fdivW := by
  intro x y h σ H μ vx vy Q rh qx qy po
  unfold fdivW at po
  split at po
  · split at po
    · rename_i hc
      exact opAt op_fdiv ⟨_, _, qx, qy, hc, po.at rh _ rfl (.of rfl)⟩
    · exact po.elim
  · exact po.elim
theorem so_mod : SO g X Wx (binaryOp .Mod) modW := by
  intro x y h σ H μ vx vy Q rh qx qy po
  unfold modW at po
  split at po
  · split at po
    · rename_i hc
      exact opAt op_mod ⟨_, _, qx, qy, hc, po.at rh _ rfl (.of rfl)⟩
    · exact po.elim
  · exact po.elim
theorem op_powB : OpR X (binaryOp .Pow) (rI (fun i j => 0 ≤ j ∧ (Builtin.Int.intBits i : Int) * j ≤ 2 ^ 27) fun i j => .int (i ^ j.toNat)) := opI fun _ _ _ _ _ _ _ hc q => pow_int hc.1 hc.2 q
theorem so_pow : SO g X Wx (binaryOp .Pow) powW := by
  intro x y h σ H μ vx vy Q rh qx qy po
  unfold powW at po
  split at po
  · split at po
    · rename_i hc
      exact opAt op_powB ⟨_, _, qx, qy, hc, po.at rh _ rfl (.of rfl)⟩
    · exact po.elim
  · exact po.elim
end
end PV
end
section
/-! PVA5: data of any depth, ==, in, order, is; and, or, not; conditional expressions. -/
namespace PV
open PySem PySem.Spec PyProof.Rows L2

def mapO {α β : Type} (f : α → Option β) : List α → Option (List β)
  | [] => some []
  | x :: xs => match f x, mapO f xs with
    | some a, some b => some (a :: b)
    | _, _ => none
/-- the data that a value is -/
def toP (h : Hh) : Nat → D → Option PyData
  | 0, _ => none
  | n + 1, d => match d with
    | .non => some .none
    | .bl b => some (.bool b)
    | .int i => some (.int i)
    | .str x => some (.str x)
    | .tup ws => (mapO (toP h n) ws).map .tuple
    | .kt ws => (mapO (toP h n) ws).map .tuple
    | .tl ws => (mapO (toP h n) ws).map .list
    | .fl ws => (mapO (toP h n) ws).map .list
    | .ref i => match h[i]? with
      | some (.lst ws) => (mapO (toP h n) ws).map .list
      | _ => none
    | _ => none
section
variable {g : Gx} {μ : List Addr} {h : Hh} {H : Hp}
theorem mapO_dp {f : D → Option PyData} (ih : ∀ w v d, f w = some d → RV g μ H w v → Dp g.K H v d) : ∀ {ws : List D} {vs : List V} {ds : List PyData}, mapO f ws = some ds → RVs g μ H ws vs → DpAll g.K H vs ds
  | [], vs, ds, e, r => by
    rw [show vs = [] from r]
    unfold mapO at e
    cases e
    exact .nil
  | w :: ws, vs, ds, e, r => by
    obtain ⟨v, rr, rfl, _, q, z⟩ := r
    unfold mapO at e
    split at e
    · rename_i a b ea eb
      cases e
      exact .cons (ih w v a ea q) (mapO_dp ih eb z)
    · cases e
theorem toP_dp (rh : RH g μ h H) : ∀ (n : Nat) (w : D) (v : V) (d : PyData), toP h n w = some d → RV g μ H w v → Dp g.K H v d
  | 0, w, v, d, e, r => by unfold toP at e; cases e
  | n + 1, w, v, d, e, r => by
    unfold toP at e
    split at e
    · cases e; rw [show v = .non from r]; exact .non
    · cases e; rw [show v = .bl _ from r]; exact .bl _
    · cases e; rw [show v = .int _ from r]; exact .int _
    · cases e; rw [show v = .str _ from r]; exact .str _
    · obtain ⟨a, vs, rfl, q, z⟩ := r
      obtain ⟨ds, e1, rfl⟩ := Option.map_eq_some_iff.mp e
      exact .tup (.of q) (mapO_dp (toP_dp rh n) e1 z)
    · obtain ⟨a, vs, rfl, q, z⟩ := r
      obtain ⟨ds, e1, rfl⟩ := Option.map_eq_some_iff.mp e
      exact .tup q (mapO_dp (toP_dp rh n) e1 z)
    · obtain ⟨a, vs, rfl, q, _, z⟩ := r
      obtain ⟨ds, e1, rfl⟩ := Option.map_eq_some_iff.mp e
      exact .lst (.of q) (mapO_dp (toP_dp rh n) e1 z)
    · obtain ⟨a, vs, rfl, q, z⟩ := r
      obtain ⟨ds, e1, rfl⟩ := Option.map_eq_some_iff.mp e
      exact .lst q.sq (mapO_dp (toP_dp rh n) e1 z)
    · rename_i i
      split at e
      · rename_i ws e3
        obtain ⟨a, e1, rfl⟩ := r
        obtain ⟨b, eb, vs, hb, z⟩ := rh.cell i _ e3
        rw [e1] at eb; cases eb
        obtain ⟨ds, e4, rfl⟩ := Option.map_eq_some_iff.mp e
        exact .lst (.of hb) (mapO_dp (toP_dp rh n) e4 z)
      · cases e
    · cases e
end
def deep : Nat := 66
/-- == by the data -/
def eqD (h : Hh) (x y : D) : Option Bool := match toP h deep x, toP h deep y with
  | some d, some e => if SeqAt.shaped d && SeqAt.shaped e then some (PyData.eqv d e) else none
  | _, _ => none
def eqW (x y : D) (h : Hh) : R D := match x, y with
  | .str a, .str b => .ok (.bl (decide (a = b))) h
  | x, y => match eqD h x y with
    | some b => .ok (.bl b) h
    | none => .bad
def neW (x y : D) (h : Hh) : R D := match x, y with
  | .str a, .str b => .ok (.bl (!decide (a = b))) h
  | x, y => match eqD h x y with
    | some b => .ok (.bl (!b)) h
    | none => .bad
/-- a key of a dict -/
def toK : D → Option Key
  | .int i => some (.inl i)
  | .str x => some (.inr x)
  | _ => none
def getK {κ : Type} [DecidableEq κ] (kvs : List (κ × D)) (k : κ) : Option D := (kvs.find? fun kv => decide (kv.1 = k)).map (·.2)
/-- what a dict has at a key: none where the key or the dict is of another kind -/
def dget (h : Hh) (d : D) (k : D) : Option (Option D) := match d with
  | .ref i => match h[i]? with
    | some (.dK kvs) => match toK k with
      | some k => some (getK kvs k)
      | none => none
    | some (.dT kvs) => match k with
      | .tup ks => match mapO toK ks with
        | some ks => some (getK kvs ks)
        | none => none
      | _ => none
    | _ => none
  | _ => none
def inO (x y : D) (h : Hh) : Option Bool := match y with
  | .tup ws => match toP h deep x, toP h deep (.tup ws) with
    | some d, some (.tuple ds) => if SeqAt.shaped d && SeqAt.shaped (.tuple ds) then some (ds.any fun z => PyData.eqv z d) else none
    | _, _ => none
  | .kt ws => match toP h deep x, toP h deep (.kt ws) with
    | some d, some (.tuple ds) => if SeqAt.shaped d && SeqAt.shaped (.tuple ds) then some (ds.any fun z => PyData.eqv z d) else none
    | _, _ => none
  | .str z => match x with
    | .str y => match y.cps.toList with
      | [c] => some (decide (c ∈ z.cps.toList))
      | _ => some (!(Builtin.Str.occurrences z y 0 z.length 1).isEmpty)
    | _ => none
  | y => match dget h y x with
    | some o => some o.isSome
    | none => match toP h deep x, toP h deep y with
      | some d, some (.list ds) => if SeqAt.shaped d && SeqAt.shaped (.list ds) then some (ds.any fun z => PyData.eqv z d) else none
      | _, _ => none
def inW (x y : D) (h : Hh) : R D := match inO x y h with
  | some b => .ok (.bl b) h
  | none => .bad
def niW (x y : D) (h : Hh) : R D := match inO x y h with
  | some b => .ok (.bl (!b)) h
  | none => .bad
/-- ints of a tuple -/
def toI : D → Option Int
  | .int i => some i
  | _ => none
def ltW (x y : D) (h : Hh) : R D := match x, y with
  | .int i, .int j => .ok (.bl (decide (i < j))) h
  | .str i, .str j => .ok (.bl (decide (i.cps.toList < j.cps.toList))) h
  | x, y => match asT x, asT y with
    | some i, some j => match mapO toI i, mapO toI j with
      | some i, some j => .ok (.bl (HT.lexLt i j)) h
      | _, _ => .bad
    | _, _ => .bad
def leW (x y : D) (h : Hh) : R D := match x, y with
  | .int i, .int j => .ok (.bl (decide (i ≤ j))) h
  | .str i, .str j => .ok (.bl (!decide (j.cps.toList < i.cps.toList))) h
  | _, _ => .bad
def gtW (x y : D) (h : Hh) : R D := match x, y with
  | .int i, .int j => .ok (.bl (decide (j < i))) h
  | .str i, .str j => .ok (.bl (decide (j.cps.toList < i.cps.toList))) h
  | _, _ => .bad
def geW (x y : D) (h : Hh) : R D := match x, y with
  | .int i, .int j => .ok (.bl (decide (j ≤ i))) h
  | .str i, .str j => .ok (.bl (!decide (i.cps.toList < j.cps.toList))) h
  | _, _ => .bad
def D.isNon : D → Bool
  | .non => true
  | _ => false
def isW (x y : D) (h : Hh) : R D := match x, y with
  | .bl a, .bl b => .ok (.bl (decide (a = b))) h
  | x, .non => .ok (.bl x.isNon) h
  | _, _ => .bad
def inotW (x y : D) (h : Hh) : R D := match x, y with
  | .bl a, .bl b => .ok (.bl (!decide (a = b))) h
  | x, .non => .ok (.bl (!x.isNon)) h
  | _, _ => .bad
section
variable {g : Gx} {X : Cx} {Wx : WX} {μ : List Addr} {h : Hh} {H : Hp}
theorem eqD_ok {x y : D} {vx vy : V} {b : Bool} (rh : RH g μ h H) (qx : RV g μ H x vx) (qy : RV g μ H y vy) (e : eqD h x y = some b) :
    ∃ d d', Dp g.K H vx d ∧ Dp g.K H vy d' ∧ SeqAt.shaped d = true ∧ SeqAt.shaped d' = true ∧ PyData.eqv d d' = b := by
  unfold eqD at e
  split at e
  · rename_i d d' e1 e2
    split at e
    · rename_i hs
      cases e
      obtain ⟨s1, s2⟩ := Bool.and_eq_true_iff.mp hs
      exact ⟨d, d', toP_dp rh _ _ _ _ e1 qx, toP_dp rh _ _ _ _ e2 qy, s1, s2, rfl⟩
    · cases e
  · cases e
theorem so_eq (hK : X.K = g.K) (hu : X.A.units + 64 < cLine) : SO g X Wx (compareOp .Eq) eqW := by
  intro x y h σ H μ vx vy Q rh qx qy po
  unfold eqW at po
  split at po
  · rename_i a b
    rw [show vx = .str a from qx, show vy = .str b from qy]
    refine opAt op_eq ⟨rfl, ?_⟩
    have e : decide (V.str a = V.str b) = decide (a = b) := by simp
    rw [e]
    exact po.at rh _ rfl (.of rfl)
  · split at po
    · rename_i b e
      obtain ⟨d, d', p1, p2, s1, s2, rfl⟩ := eqD_ok rh qx qy e
      exact opAt (op_eqD hu) ⟨d, d', by rw [hK]; exact p1, by rw [hK]; exact p2, s1, s2, po.at rh _ rfl (.of rfl)⟩
    · exact po.elim
theorem so_ne (hK : X.K = g.K) (hu : X.A.units + 64 < cLine) : SO g X Wx (compareOp .NotEq) neW := by
  intro x y h σ H μ vx vy Q rh qx qy po
  unfold neW at po
  split at po
  · rename_i a b
    rw [show vx = .str a from qx, show vy = .str b from qy]
    refine opAt op_ne ⟨rfl, ?_⟩
    have e : decide (V.str a = V.str b) = decide (a = b) := by simp
    rw [e]
    exact po.at rh _ rfl (.of rfl)
  · split at po
    · rename_i b e
      obtain ⟨d, d', p1, p2, s1, s2, rfl⟩ := eqD_ok rh qx qy e
      exact opAt (op_neD hu) ⟨d, d', by rw [hK]; exact p1, by rw [hK]; exact p2, s1, s2, po.at rh _ rfl (.of rfl)⟩
    · exact po.elim
theorem toK_ok {w : D} {k : Key} {v : V} (e : toK w = some k) (q : RV g μ H w v) : v = kV k := by
  unfold toK at e
  split at e
  · cases e; exact q
  · cases e; exact q
  · cases e
theorem toKs_ok : ∀ {ws : List D} {ks : List Key} {vs : List V}, mapO toK ws = some ks → RVs g μ H ws vs → vs = ks.map kV
  | [], ks, vs, e, r => by
    unfold mapO at e; cases e
    exact r
  | w :: ws, ks, vs, e, r => by
    obtain ⟨v, rr, rfl, _, q, z⟩ := r
    unfold mapO at e
    split at e
    · rename_i a b ea eb
      cases e
      rw [toK_ok ea q, toKs_ok eb z]; rfl
    · cases e
def RO (g : Gx) (μ : List Addr) (H : Hp) : Option D → Option V → Prop
  | some w, r => ∃ v, r = some v ∧ w.isTl = false ∧ RV g μ H w v
  | none, r => r = none
theorem getK_ok {κ : Type} [DecidableEq κ] {kvs : List (κ × D)} {vs : List (κ × V)} (r : RKs g μ H kvs vs) (k : κ) : RO g μ H (getK kvs k) (valV vs k) := by
  induction kvs generalizing vs with
  | nil => rw [show vs = [] from r]; rfl
  | cons p kvs ih =>
    obtain ⟨v, rr, rfl, nt, q, z⟩ := r
    by_cases e : p.1 = k
    · have e1 : getK (p :: kvs) k = some p.2 := by simp [getK, List.find?_cons, e]
      rw [e1]
      exact ⟨v, valV_pos e, nt, q⟩
    · have e1 : getK (p :: kvs) k = getK kvs k := by simp [getK, List.find?_cons, e]
      rw [e1]
      rw [valV_neg (p := (p.1, v)) e]
      exact ih z
theorem dget_ok {d k : D} {vd vk : V} {o : Option D} (rh : RH g μ h H) (qd : RV g μ H d vd) (qk : RV g μ H k vk) (e : dget h d k = some o) :
    ∃ a r, vd = .ref a ∧ IsD H a ∧ DGet H a vk r ∧ RO g μ H o r := by
  cases d <;> first | (cases e; done) | skip
  · rename_i i
    obtain ⟨a, ea, rfl⟩ := qd
    simp only [dget] at e
    split at e
    · rename_i kvs e3
      obtain ⟨b, eb, vs, hb, z⟩ := rh.cell i _ e3
      rw [ea] at eb; cases eb
      split at e
      · rename_i k' e4
        cases e
        rw [toK_ok e4 qk]
        exact ⟨a, _, rfl, .inl ⟨_, .inl hb⟩, DGet.k hb, getK_ok z k'⟩
      · cases e
    · rename_i kvs e3
      obtain ⟨b, eb, vs, hb, z⟩ := rh.cell i _ e3
      rw [ea] at eb; cases eb
      split at e
      · rename_i ks
        split at e
        · rename_i ks' e4
          cases e
          obtain ⟨c, us, rfl, hc, zc⟩ := qk
          rw [toKs_ok e4 zc] at hc
          exact ⟨a, _, rfl, .inr ⟨_, .inl hb⟩, DGet.t hb hc, getK_ok z ks'⟩
        · cases e
      · cases e
    · cases e
/-- in, by values -/
def rInT (K : PySem.W.Frag) : R2 := fun x y H Q => ∃ d ds, Dp K H x d ∧ Dp K H y (.tuple ds) ∧ SeqAt.shaped d = true ∧ SeqAt.shaped (.tuple ds) = true ∧ Q (.bl (ds.any fun z => PyData.eqv z d)) H
def rNiT (K : PySem.W.Frag) : R2 := fun x y H Q => ∃ d ds, Dp K H x d ∧ Dp K H y (.tuple ds) ∧ SeqAt.shaped d = true ∧ SeqAt.shaped (.tuple ds) = true ∧ Q (.bl (!ds.any fun z => PyData.eqv z d)) H
theorem op_inT (hu : X.A.units + 65 < cLine) : OpR X (compareOp .In) (rInT X.K) := by
  intro pins s σ H x y v u Q I rx ry h
  obtain ⟨d, ds, hd, he, sd, se, q⟩ := h
  obtain ⟨as, r1⟩ := Dp.reads I d x v hd rx
  obtain ⟨bs, r2⟩ := Dp.reads I (.tuple ds) y u he ry
  exact SeqAt.in_tuple_reads r2 r1 (SeqAt.canLay_of_shaped se) (SeqAt.canLay_of_shaped sd) (room_in_shaped sd hu) ⟨.bl _, H, I, rfl, q⟩
theorem op_niT (hu : X.A.units + 65 < cLine) : OpR X (compareOp .NotIn) (rNiT X.K) := by
  intro pins s σ H x y v u Q I rx ry h
  obtain ⟨d, ds, hd, he, sd, se, q⟩ := h
  obtain ⟨as, r1⟩ := Dp.reads I d x v hd rx
  obtain ⟨bs, r2⟩ := Dp.reads I (.tuple ds) y u he ry
  exact SeqAt.notIn_tuple_reads r2 r1 (SeqAt.canLay_of_shaped se) (SeqAt.canLay_of_shaped sd) (room_in_shaped sd hu) ⟨.bl _, H, I, rfl, q⟩
def rDIn : R2 := fun y x H Q => ∃ a o, x = .ref a ∧ DGet H a y o ∧ Q (.bl o.isSome) H
def rDNi : R2 := fun y x H Q => ∃ a o, x = .ref a ∧ DGet H a y o ∧ Q (.bl (!o.isSome)) H
theorem op_dIn (hu : X.A.units + 1 < cLine) : OpR X (compareOp .In) rDIn := by
  intro pins s σ H x y v u Q I rx ry h
  obtain ⟨a, o, rfl, gt, q⟩ := h
  cases ry
  exact d_in hu I gt rx fun s' I' => ⟨.bl _, H, I', rfl, q⟩
theorem op_dNi (hu : X.A.units + 1 < cLine) : OpR X (compareOp .NotIn) rDNi := by
  intro pins s σ H x y v u Q I rx ry h
  obtain ⟨a, o, rfl, gt, q⟩ := h
  cases ry
  exact d_notIn hu I gt rx fun s' I' => ⟨.bl _, H, I', rfl, q⟩
theorem sign_of {y : Str} {c : Nat} (e : y.cps.toList = [c]) : y = ⟨#[c]⟩ := by
  cases y with
  | mk a =>
    have : a = #[c] := by
      have := congrArg List.toArray e
      simpa using this
    rw [this]
/-- in and not in together: f is the truth or its opposite -/
theorem inO_ok (hK : X.K = g.K) (hu : X.A.units + 65 < cLine) {x y : D} {vx vy : V} {b : Bool} {Q : VK} (rh : RH g μ h H) (qx : RV g μ H x vx) (qy : RV g μ H y vy) (e : inO x y h = some b) :
    (Q (.bl b) H → rOf X (compareOp .In) vx vy H Q) ∧ (Q (.bl (!b)) H → rOf X (compareOp .NotIn) vx vy H Q) := by
  unfold inO at e
  split at e
  · rename_i ws
    split at e
    · rename_i d ds e1 e2
      split at e
      · rename_i hs
        cases e
        obtain ⟨s1, s2⟩ := Bool.and_eq_true_iff.mp hs
        have p1 := toP_dp rh _ _ _ _ e1 qx
        have p2 := toP_dp rh _ _ _ _ e2 qy
        exact ⟨fun q => opAt (op_inT hu) ⟨d, ds, by rw [hK]; exact p1, by rw [hK]; exact p2, s1, s2, q⟩, fun q => opAt (op_niT hu) ⟨d, ds, by rw [hK]; exact p1, by rw [hK]; exact p2, s1, s2, q⟩⟩
      · cases e
    · cases e
  · rename_i ws
    split at e
    · rename_i d ds e1 e2
      split at e
      · rename_i hs
        cases e
        obtain ⟨s1, s2⟩ := Bool.and_eq_true_iff.mp hs
        have p1 := toP_dp rh _ _ _ _ e1 qx
        have p2 := toP_dp rh _ _ _ _ e2 qy
        exact ⟨fun q => opAt (op_inT hu) ⟨d, ds, by rw [hK]; exact p1, by rw [hK]; exact p2, s1, s2, q⟩, fun q => opAt (op_niT hu) ⟨d, ds, by rw [hK]; exact p1, by rw [hK]; exact p2, s1, s2, q⟩⟩
      · cases e
    · cases e
  · rename_i z
    split at e
    · rename_i y'
      split at e
      · rename_i c ec
        cases e
        rw [show vx = .str y' from qx, show vy = .str z from qy, sign_of ec]
        exact ⟨fun q => opAt op_in_sign ⟨c, z, rfl, rfl, q⟩, fun q => opAt op_notIn_sign ⟨c, z, rfl, rfl, q⟩⟩
      · cases e
        exact ⟨fun q => opAt op_in_str ⟨_, _, qx, qy, q⟩, fun q => opAt op_notin_str ⟨_, _, qx, qy, q⟩⟩
    · cases e
  · split at e
    · rename_i o eo
      cases e
      obtain ⟨a, r, e1, _, e2, e3⟩ := dget_ok rh qy qx eo
      have eb : o.isSome = r.isSome := by
        cases o with
        | none => rw [show r = none from e3]; rfl
        | some w => obtain ⟨v, rfl, _⟩ := e3; rfl
      rw [eb]
      exact ⟨fun q => opAt (op_dIn (by omega)) ⟨a, r, e1, e2, q⟩, fun q => opAt (op_dNi (by omega)) ⟨a, r, e1, e2, q⟩⟩
    · split at e
      · rename_i d ds e1 e2
        split at e
        · rename_i hs
          cases e
          obtain ⟨s1, s2⟩ := Bool.and_eq_true_iff.mp hs
          have p1 := toP_dp rh _ _ _ _ e1 qx
          have p2 := toP_dp rh _ _ _ _ e2 qy
          exact ⟨fun q => opAt (op_inD hu) ⟨d, ds, by rw [hK]; exact p1, by rw [hK]; exact p2, s1, s2, q⟩, fun q => opAt (op_notInD hu) ⟨d, ds, by rw [hK]; exact p1, by rw [hK]; exact p2, s1, s2, q⟩⟩
        · cases e
      · cases e
theorem so_in (hK : X.K = g.K) (hu : X.A.units + 65 < cLine) : SO g X Wx (compareOp .In) inW := by
  intro x y h σ H μ vx vy Q rh qx qy po
  unfold inW at po
  split at po
  · rename_i b e
    exact (inO_ok hK hu rh qx qy e).1 (po.at rh _ rfl (.of rfl))
  · exact po.elim
theorem so_ni (hK : X.K = g.K) (hu : X.A.units + 65 < cLine) : SO g X Wx (compareOp .NotIn) niW := by
  intro x y h σ H μ vx vy Q rh qx qy po
  unfold niW at po
  split at po
  · rename_i b e
    exact (inO_ok hK hu rh qx qy e).2 (po.at rh _ rfl (.of rfl))
  · exact po.elim
theorem toI_ok : ∀ {ws : List D} {ns : List Int} {vs : List V}, mapO toI ws = some ns → RVs g μ H ws vs → vs = ns.map V.int
  | [], ks, vs, e, r => by
    unfold mapO at e; cases e
    exact r
  | w :: ws, ks, vs, e, r => by
    obtain ⟨v, rr, rfl, _, q, z⟩ := r
    unfold mapO at e
    split at e
    · rename_i a b ea eb
      cases e
      unfold toI at ea
      split at ea
      · cases ea
        rw [show v = .int _ from q, toI_ok eb z]; rfl
      · cases ea
    · cases e
theorem so_lt (hK : X.K = g.K) (hu : X.A.units < cLine) : SO g X Wx (compareOp .Lt) ltW := by
  intro x y h σ H μ vx vy Q rh qx qy po
  unfold ltW at po
  split at po
  · exact opAt op_lt ⟨_, _, qx, qy, po.at rh _ rfl (.of rfl)⟩
  · exact opAt op_lt_str ⟨_, _, qx, qy, po.at rh _ rfl (.of rfl)⟩
  · split at po
    · rename_i i j e1 e2
      split at po
      · rename_i i' j' e3 e4
        obtain ⟨a, vs, rfl, s1, z1⟩ := asT_ok qx e1
        obtain ⟨b, us, rfl, s2, z2⟩ := asT_ok qy e2
        rw [toI_ok e3 z1] at s1
        rw [toI_ok e4 z2] at s2
        exact opAt (op_ltT hu) ⟨a, b, i', j', rfl, rfl, by rw [hK]; exact s1, by rw [hK]; exact s2, po.at rh _ rfl (.of rfl)⟩
      · exact po.elim
    · exact po.elim
theorem so_le : SO g X Wx (compareOp .LtE) leW := by
  intro x y h σ H μ vx vy Q rh qx qy po
  unfold leW at po
  split at po
  · exact opAt op_le ⟨_, _, qx, qy, po.at rh _ rfl (.of rfl)⟩
  · exact opAt op_le_str ⟨_, _, qx, qy, po.at rh _ rfl (.of rfl)⟩
  · exact po.elim
theorem so_gt : SO g X Wx (compareOp .Gt) gtW := by
  intro x y h σ H μ vx vy Q rh qx qy po
  unfold gtW at po
  split at po
  · exact opAt op_gt ⟨_, _, qx, qy, po.at rh _ rfl (.of rfl)⟩
  · exact opAt op_gt_str ⟨_, _, qx, qy, po.at rh _ rfl (.of rfl)⟩
  · exact po.elim
theorem so_ge : SO g X Wx (compareOp .GtE) geW := by
  intro x y h σ H μ vx vy Q rh qx qy po
  unfold geW at po
  split at po
  · exact opAt op_ge ⟨_, _, qx, qy, po.at rh _ rfl (.of rfl)⟩
  · exact opAt op_ge_str ⟨_, _, qx, qy, po.at rh _ rfl (.of rfl)⟩
  · exact po.elim
theorem isNon_ok {x : D} {v : V} (q : RV g μ H x v) : decide (v = .non) = x.isNon := by
  cases x <;> first
    | (rw [show v = _ from q]; rfl)
    | (obtain ⟨a, vs, rfl, _⟩ := q; rfl)
    | (obtain ⟨a, _, rfl⟩ := q; rfl)
    | (obtain ⟨a, C, d, vs, rfl, _⟩ := q; rfl)
theorem so_is : SO g X Wx (compareOp .Is) isW := by
  intro x y h σ H μ vx vy Q rh qx qy po
  unfold isW at po
  split at po
  · exact opAt op_is_bl ⟨_, _, qx, qy, po.at rh _ rfl (.of rfl)⟩
  · refine opAt op_isN ⟨qy, ?_⟩
    rw [isNon_ok qx]
    exact po.at rh _ rfl (.of rfl)
  · exact po.elim
theorem so_isnot : SO g X Wx (compareOp .IsNot) inotW := by
  intro x y h σ H μ vx vy Q rh qx qy po
  unfold inotW at po
  split at po
  · exact opAt op_isnot_bl ⟨_, _, qx, qy, po.at rh _ rfl (.of rfl)⟩
  · refine opAt op_notN ⟨qy, ?_⟩
    rw [isNon_ok qx]
    exact po.at rh _ rfl (.of rfl)
  · exact po.elim
end
end PV
end
section
/-! PVA6: and, or, not, conditional expressions; argument lists, displays, subscripts, slices. -/
namespace PV
open PySem PySem.Spec PyProof.Rows L2

def mAndB (a b : M Bool) : M Bool := fun σ h => (a σ h).bind fun x h1 => if x = true then b σ h1 else .ok false h1
def mOrB (a b : M Bool) : M Bool := fun σ h => (a σ h).bind fun x h1 => if x = true then .ok true h1 else b σ h1
def mNotB (a : M Bool) : M Bool := fun σ h => (a σ h).bind fun x h1 => .ok (!x) h1
def mAndV (a b : M D) : M D := fun σ h => (a σ h).bind fun x h1 => match x with
  | .bl true => b σ h1
  | .bl false => .ok (.bl false) h1
  | _ => .bad
def mOrV (a b : M D) : M D := fun σ h => (a σ h).bind fun x h1 => match x with
  | .bl true => .ok (.bl true) h1
  | .bl false => b σ h1
  | _ => .bad
def mNotV (a : M D) : M D := fun σ h => (a σ h).bind fun x h1 => match x with
  | .bl b => .ok (.bl (!b)) h1
  | _ => .bad
def mIf (c : M Bool) (a b : M D) : M D := fun σ h => (c σ h).bind fun x h1 => if x = true then a σ h1 else b σ h1
section
variable {g : Gx} {X : Cx} {Wx : WX} {a b c : Expr} {rest : List Expr} {ma mb : M D} {ta tb : M Bool} {pos : Pos}
theorem sw_and1 (ha : ST g X Wx a ta) : SW g X Wx (.BoolOp .And [a] pos) ta := fun σw h σ H μ Q rs rh po => pwAt (pw_and1 pt_of) (ha σw h σ H μ Q rs rh po)
theorem sw_or1 (ha : ST g X Wx a ta) : SW g X Wx (.BoolOp .Or [a] pos) ta := fun σw h σ H μ Q rs rh po => pwAt (pw_or1 pt_of) (ha σw h σ H μ Q rs rh po)
theorem sw_and (ha : ST g X Wx a ta) (hb : SW g X Wx (.BoolOp .And (b :: rest) pos) tb) : SW g X Wx (.BoolOp .And (a :: b :: rest) pos) (mAndB ta tb) := by
  intro σw h σ H μ Q rs rh po
  refine pwAt (pw_and pt_of pw_of) (ha σw h σ H μ _ rs rh (po.bind.imp fun x h1 μ1 H1 x1 r1 p1 => ?_))
  cases x with
  | true => exact hb σw h1 σ H1 μ1 Q (rs.ext rh.trk x1) r1 p1
  | false => exact p1.at r1
theorem sw_or (ha : ST g X Wx a ta) (hb : SW g X Wx (.BoolOp .Or (b :: rest) pos) tb) : SW g X Wx (.BoolOp .Or (a :: b :: rest) pos) (mOrB ta tb) := by
  intro σw h σ H μ Q rs rh po
  refine pwAt (pw_or pt_of pw_of) (ha σw h σ H μ _ rs rh (po.bind.imp fun x h1 μ1 H1 x1 r1 p1 => ?_))
  cases x with
  | false => exact hb σw h1 σ H1 μ1 Q (rs.ext rh.trk x1) r1 p1
  | true => exact p1.at r1
theorem st_not (ha : ST g X Wx a ta) : ST g X Wx (.UnaryOp .Not a pos) (mNotB ta) := by
  intro σw h σ H μ Q rs rh po
  refine ptAt (pt_not pt_of) (ha σw h σ H μ _ rs rh (po.bind.imp fun x h1 μ1 H1 x1 r1 p1 => ?_))
  exact p1.at r1
theorem se_one {op} (ha : SE g X Wx a ma) : SE g X Wx (.BoolOp op [a] pos) ma := fun σw h σ H μ Q rs rh po => peAt (pe_one pe_of) (ha σw h σ H μ Q rs rh po)
theorem se_and (ha : SE g X Wx a ma) (hb : SE g X Wx (.BoolOp .And (b :: rest) pos) mb) : SE g X Wx (.BoolOp .And (a :: b :: rest) pos) (mAndV ma mb) := by
  intro σw h σ H μ Q rs rh po
  refine peAt (pe_and pe_of pe_of) (ha σw h σ H μ _ rs rh (po.bind.imp fun x h1 μ1 H1 x1 r1 p1 v qv fv => ?_))
  split at p1
  · exact ⟨true, qv, hb σw h1 σ H1 μ1 Q (rs.ext rh.trk x1) r1 (p1.imp fun w h2 μ2 H2 x2 r2 q2 v2 qv2 fv2 => q2 v2 qv2 (fv2.back x1))⟩
  · exact ⟨false, qv, p1.at r1 _ rfl (.of rfl)⟩
  · exact p1.elim
theorem se_or (ha : SE g X Wx a ma) (hb : SE g X Wx (.BoolOp .Or (b :: rest) pos) mb) : SE g X Wx (.BoolOp .Or (a :: b :: rest) pos) (mOrV ma mb) := by
  intro σw h σ H μ Q rs rh po
  refine peAt (pe_or pe_of pe_of) (ha σw h σ H μ _ rs rh (po.bind.imp fun x h1 μ1 H1 x1 r1 p1 v qv fv => ?_))
  split at p1
  · exact ⟨true, qv, p1.at r1 _ rfl (.of rfl)⟩
  · exact ⟨false, qv, hb σw h1 σ H1 μ1 Q (rs.ext rh.trk x1) r1 (p1.imp fun w h2 μ2 H2 x2 r2 q2 v2 qv2 fv2 => q2 v2 qv2 (fv2.back x1))⟩
  · exact p1.elim
theorem se_not (ha : SE g X Wx a ma) : SE g X Wx (.UnaryOp .Not a pos) (mNotV ma) := by
  intro σw h σ H μ Q rs rh po
  refine peAt (pe_not pe_of) (ha σw h σ H μ _ rs rh (po.bind.imp fun x h1 μ1 H1 x1 r1 p1 v qv fv => ?_))
  split at p1
  · exact ⟨_, qv, p1.at r1 _ rfl (.of rfl)⟩
  · exact p1.elim
theorem se_ife (hc : ST g X Wx c ta) (ha : SE g X Wx a ma) (hb : SE g X Wx b mb) : SE g X Wx (.IfExp c a b pos) (mIf ta ma mb) := by
  intro σw h σ H μ Q rs rh po
  refine peAt (pe_ifExp pt_of pe_of pe_of) (hc σw h σ H μ _ rs rh (po.bind.imp fun x h1 μ1 H1 x1 r1 p1 => ?_))
  cases x with
  | true => exact ha σw h1 σ H1 μ1 Q (rs.ext rh.trk x1) r1 (p1.imp fun w h2 μ2 H2 x2 r2 q2 v2 qv2 fv2 => q2 v2 qv2 (fv2.back x1))
  | false => exact hb σw h1 σ H1 μ1 Q (rs.ext rh.trk x1) r1 (p1.imp fun w h2 μ2 H2 x2 r2 q2 v2 qv2 fv2 => q2 v2 qv2 (fv2.back x1))
theorem st_val (ha : SE g X Wx a ma) (he : ∀ whole, isTrue a X.env whole = (do let v ← whole; standAt a.pos; holding [v] (truthy v))) : ST g X Wx a (mB ma) := fun σw h σ H μ Q rs rh po =>
  ptAt (pt_val pe_of he) (ha σw h σ H μ _ rs rh (test_of po))
end

/-! ### argument lists -/
def mArgs : List (M D) → M (List D)
  | [] => fun _ h => .ok [] h
  | m :: ms => fun σ h => (m σ h).bind fun w h1 => (mArgs ms σ (stash w h1).2).bind fun ws h2 => .ok ((stash w h1).1 :: ws) h2
def mTup (m : M (List D)) : M D := fun σ h => (m σ h).bind fun ws h1 => if ws.length ≤ sizeLine then .ok (.tup ws) h1 else .bad
def mLst (m : M (List D)) : M D := fun σ h => (m σ h).bind fun ws h1 => if ws.length ≤ sizeLine then .ok (.tl ws) h1 else .bad
section
variable {g : Gx} {X : Cx} {Wx : WX} {a b e : Expr} {es : List Expr} {ma mb : M D} {ms : List (M D)} {pos : Pos}
theorem sa_nil : SA g X Wx [] (mArgs []) := fun σw h σ H μ Q rs rh po => paAt pa_nil (po.at rh [] rfl)
theorem sa_cons (ha : SE g X Wx e ma) (hr : SA g X Wx es (mArgs ms)) (hs : starEach (e :: es) X.env = (false, eval e X.env) :: starEach es X.env) : SA g X Wx (e :: es) (mArgs (ma :: ms)) := by
  intro σw h σ H μ Q rs rh po
  refine paAt (pa_cons pe_of pa_of hs) (ha σw h σ H μ _ rs rh (po.bind2.imp fun w h1 μ1 H1 x1 r1 p1 v qv fv => ?_))
  obtain ⟨μ1', x1', r1', q1', _⟩ := stash_ok r1 qv fv x1
  refine hr σw _ σ H1 μ1' _ (rs.ext rh.trk x1') r1' ((p1 μ1' H1 x1').bind.imp fun ws h2 μ2 H2 x2 r2 p2 vs qs => ?_)
  exact p2.at r2 (v :: vs) ⟨v, vs, rfl, stash_isTl, q1'.ext r1'.trk x2, qs⟩
variable {m : M (List D)}
theorem se_tup {x1} (ha : SA g X Wx es m) : SE g X Wx (.Tuple es x1 pos) (mTup m) := by
  intro σw h σ H μ Q rs rh po
  refine peAt (pe_tup pa_of) (ha σw h σ H μ _ rs rh (po.bind.imp fun ws h1 μ1 H1 x1 r1 p1 vs qs => ?_))
  split at p1
  · rename_i hl
    have l := qs.length
    exact ⟨by omega, fun p np => p1 μ1 _ (.new r1.trk np) (r1.new np) _ (.newT r1 np qs) (.of rfl)⟩
  · exact p1.elim
theorem se_lst (ha : SA g X Wx es m) : SE g X Wx (.List es pos) (mLst m) := by
  intro σw h σ H μ Q rs rh po
  refine peAt (pe_lst pa_of) (ha σw h σ H μ _ rs rh (po.bind.imp fun ws h1 μ1 H1 x1 r1 p1 vs qs => ?_))
  split at p1
  · rename_i hl
    have l := qs.length
    refine ⟨by omega, fun p np => p1 μ1 _ (.new r1.trk np) (r1.new np) _ (.newL r1 np qs) (Fr.back x1 fun c ec => ?_)⟩
    cases ec
    exact np
  · exact p1.elim
end

/-! ### subscripts -/
def ixW (x y : D) (h : Hh) : R D := match y with
  | .int i => match asL h x with
    | some ws => match atI ws i with
      | some w => .ok w h
      | none => .bad
    | none => match asT x with
      | some ws => match atI ws i with
        | some w => .ok w h
        | none => .bad
      | none => match x with
        | .str z => if z.length ≤ sizeLine then match atI z.cps.toList i with
            | some c => .ok (.str ⟨#[c]⟩) h
            | none => .bad
          else .bad
        | x => match dget h x y with
          | some (some w) => .ok w h
          | _ => .bad
  | y => match dget h x y with
    | some (some w) => .ok w h
    | _ => .bad
/-- a dict's item as a subscript by values -/
theorem ix_dict {X : Cx} (hu : X.A.units + 1 < cLine) : IxR X (fun x y H Q => ∃ a v, x = .ref a ∧ DGet H a y (some v) ∧ Q v H) := by
  intro value slice pins s σ H x y v u Q I rx ry h hs
  obtain ⟨a, z, rfl, gt, q⟩ := h
  cases rx
  have hT := dict_typeIs I gt
  have h₂ : wpAny (model X.prog X.w) X.A (getItem (.ref a) u) (EP X pins σ Q) X.xe s := d_getItem hu I gt ry fun w' s3 I3 rw' => ⟨z, H, I3, rw', q⟩
  unfold subscriptTail
  refine wpAny_bind ?_
  rw [getitemInPython_of_ne hT.not_modules]
  refine wpAny_bind (wpAny_specialOf hT PySem.F.slot_dict_getitem.lookup ?_)
  have fin : wpAny (model X.prog X.w) X.A (subscripted slice false (.ref a) u) (fun r s₃ => wpAny (model X.prog X.w) X.A (letTemporaryGo value (.ref a) r >>= fun _ => pure r) (EP X pins σ Q) X.xe s₃) X.xe s := by
    rw [hs]
    exact wpAny_operating (wpAny_mono h₂ (fun r s₃ h₃ => wpAny_bind (wpAny_letTemporaryGo (wpAny_pure h₃))) fun _ _ x => x)
  first
    | exact wpAny_pure (wpAny_bind fin)
    | exact wpAny_bind (wpAny_pure (wpAny_bind fin))
    | exact wpAny_bind fin
def ixOf (X : Cx) : R2 := fun x y H Q => ∀ value slice pins s σ v u, Inv X pins σ H s → RelV x v → RelV y u → subscripted slice false v u = operate [v, u] (getItem v u) → wpAny (model X.prog X.w) X.A (subscriptTail value slice v u) (EP X pins σ Q) X.xe s
theorem ix_of {X : Cx} : IxR X (ixOf X) := fun value slice pins s σ H x y v u Q I rx ry h hs => h value slice pins s σ v u I rx ry hs
theorem ixAt {X : Cx} {r : R2} (p : IxR X r) {x y : V} {H : Hp} {Q : VK} (h : r x y H Q) : ixOf X x y H Q := fun value slice pins s σ v u I rx ry hs => p value slice pins s σ H x y v u Q I rx ry h hs
section
variable {g : Gx} {X : Cx} {Wx : WX} {a b : Expr} {ma mb : M D} {pos : Pos} {μ : List Addr} {H : Hp}
theorem atI_ok {ws : List D} {vs : List V} {i : Int} {w : D} (r : RVs g μ H ws vs) (e : atI ws i = some w) : ∃ v, atI vs i = some v ∧ w.isTl = false ∧ RV g μ H w v := by
  unfold atI at e ⊢
  rw [r.length]
  cases q : ixN ws.length i with
  | none => rw [q] at e; cases e
  | some j =>
    rw [q] at e
    exact r.get e
theorem ixW_ok (hK : X.K = g.K) (hu : X.A.units + 1 < cLine) : ∀ (x y : D) (h : Hh) (σ : L2.St) (H : Hp) (μ : List Addr) (vx vy : V) (Q : VK),
    RH g μ h H → RV g μ H x vx → RV g μ H y vy → Po g Wx σ μ H (ixW x y h) (fun w h' μ' H' => ∀ v, RV g μ' H' w v → Fr H w v → Q v H') → ixOf X vx vy H Q := by
  intro x y h σ H μ vx vy Q rh qx qy po
  have dcase : ∀ {o : Option (Option D)}, o = dget h x y → Po g Wx σ μ H (match o with | some (some w) => R.ok w h | _ => .bad) (fun w h' μ' H' => ∀ v, RV g μ' H' w v → Fr H w v → Q v H') → ixOf X vx vy H Q := by
    intro o eo po
    split at po
    · rename_i w
      obtain ⟨a, r, e1, _, e2, v, rfl, nt, q⟩ := dget_ok rh qx qy eo.symm
      exact ixAt (ix_dict hu) ⟨a, v, e1, e2, po.at rh v q (.of nt)⟩
    · exact po.elim
  unfold ixW at po
  split at po
  · rename_i i
    split at po
    · rename_i ws ew
      split at po
      · rename_i w e
        obtain ⟨a, vs, rfl, s1, z⟩ := asL_ok rh qx ew
        obtain ⟨v, ev, nt, qv⟩ := atI_ok z e
        exact ixAt ix_list ⟨a, vs, i, v, rfl, qy, by rw [hK]; exact s1, ev, po.at rh v qv (.of nt)⟩
      · exact po.elim
    · split at po
      · rename_i ws ew
        split at po
        · rename_i w e
          obtain ⟨a, vs, rfl, s1, z⟩ := asT_ok qx ew
          obtain ⟨v, ev, nt, qv⟩ := atI_ok z e
          exact ixAt ix_tup ⟨a, vs, i, v, rfl, qy, by rw [hK]; exact s1, ev, po.at rh v qv (.of nt)⟩
        · exact po.elim
      · split at po
        · rename_i z _ _
          split at po
          · rename_i hl
            split at po
            · rename_i c e
              exact ixAt ix_str ⟨z, i, c, qx, qy, hl, e, po.at rh _ rfl (.of rfl)⟩
            · exact po.elim
          · exact po.elim
        · exact dcase rfl po
  · exact dcase rfl po
theorem se_ix (hK : X.K = g.K) (hu : X.A.units + 1 < cLine) (ha : SE g X Wx a ma) (hb : SE g X Wx b mb) (hs : PlainIx b) : SE g X Wx (.Subscript a b pos) (mOp ixW ma mb) := by
  intro σw h σ H μ Q rs rh po
  refine peAt (pe_ix ix_of pe_of pe_of hs) ?_
  refine ha σw h σ H μ _ rs rh (po.bind.imp fun x h1 μ1 H1 x1 r1 p1 vx qx fx => ?_)
  refine hb σw h1 σ H1 μ1 _ (rs.ext rh.trk x1) r1 (p1.bind.imp fun y h2 μ2 H2 x2 r2 p2 vy qy fy => ?_)
  exact ixW_ok hK hu x y h2 σ H2 μ2 vx vy Q r2 (qx.ext r1.trk x2) qy (p2.imp fun w h3 μ3 H3 x3 r3 q3 v qv fv => q3 v qv (fv.back (x1.trans x2)))
end

/-! ### slices -/
def cutD (xs : List D) (lo hi : Option Int) : List D := (xs.drop (HT.sIx xs.length 0 lo)).take (HT.sIx xs.length xs.length hi - HT.sIx xs.length 0 lo)
def slW (x : D) (lo hi : Option Int) (h : Hh) : R D := match asL h x with
  | some ws => .ok (.tl (cutD ws lo hi)) h
  | none => match asT x with
    | some ws => .ok (if HT.sIx ws.length 0 lo = 0 ∧ HT.sIx ws.length ws.length hi = ws.length then x else .tup (cutD ws lo hi)) h
    | none => match x with
      | .str z => if z.length ≤ sizeLine then .ok (.str (cutS z lo hi)) h else .bad
      | _ => .bad
def mPart : Option (M D) → M (Option Int)
  | none => fun _ h => .ok none h
  | some m => fun σ h => (m σ h).bind fun x h1 => match x with
    | .int i => .ok (some i) h1
    | _ => .bad
def mSl (a : M D) (lo hi : Option (M D)) : M D := fun σ h => (a σ h).bind fun x h1 => (mPart lo σ h1).bind fun l h2 => (mPart hi σ h2).bind fun u h3 => slW x l u h3
def toOf (X : Cx) (e : Option Expr) : TO := fun σ H Q => ∀ pins s, Inv X pins σ H s → wpAny (model X.prog X.w) X.A (evalPart e X.env) (fun u s' => ∃ o H', Inv X pins σ H' s' ∧ IsPart u o ∧ Q o H') X.xe s
theorem po_of {X : Cx} {e : Option Expr} : PO X e (toOf X e) := ⟨fun pins s σ H Q I h => h pins s I⟩
theorem poAt {X : Cx} {e : Option Expr} {t : TO} (p : PO X e t) {σ : L2.St} {H : Hp} {Q : Option Int → Hp → Prop} (h : t σ H Q) : toOf X e σ H Q := fun pins s I => p.run pins s σ H Q I h
def slOf (X : Cx) : V → Option Int → Option Int → Hp → VK → Prop := fun x lo hi H Q => ∀ pins s σ v vl vu sl, Inv X pins σ H s → RelV x v → s.heap.IsSliceOf sl vl vu .none → IsPart vl lo → IsPart vu hi →
    ∃ T id, typeLookup (.type T) "__getitem__" = pure (some (.builtin id)) ∧ s.TypeIs v T ∧ wpAny (model X.prog X.w) X.A (getItem v (.ref sl)) (EP X pins σ Q) X.xe s
theorem sl_of {X : Cx} : L2.SlR X (slOf X) := fun pins s σ H x v vl vu lo hi sl Q I rx hs pl pu h => h pins s σ v vl vu sl I rx hs pl pu
theorem slAt {X : Cx} {r : V → Option Int → Option Int → Hp → VK → Prop} (p : L2.SlR X r) {x : V} {lo hi : Option Int} {H : Hp} {Q : VK} (h : r x lo hi H Q) : slOf X x lo hi H Q := fun pins s σ v vl vu sl I rx hs pl pu => p pins s σ H x v vl vu lo hi sl Q I rx hs pl pu h
section
variable {g : Gx} {X : Cx} {Wx : WX} {a : Expr} {lo hi : Option Expr} {ma : M D} {ml mh : Option (M D)} {pos p2 : Pos} {μ : List Addr} {H : Hp}
theorem cut_ok {ws : List D} {vs : List V} {lo hi : Option Int} (r : RVs g μ H ws vs) : RVs g μ H (cutD ws lo hi) (cutV vs lo hi) := by
  unfold cutD cutV
  rw [r.length]
  exact (r.drop _).take _
def SP' (g : Gx) (X : Cx) (Wx : WX) (e : Option Expr) (m : Option (M D)) : Prop := ∀ (σw : Sg) (h : Hh) (σ : L2.St) (H : Hp) (μ : List Addr) (Q : Option Int → Hp → Prop), RS g μ H σw σ → RH g μ h H →
  Po g Wx σ μ H (mPart m σw h) (fun o h' μ' H' => Q o H') → toOf X e σ H Q
theorem sp_none : SP' g X Wx none none := fun σw h σ H μ Q rs rh po => poAt po_none (po.at rh)
theorem sp_some (ha : SE g X Wx a ma) : SP' g X Wx (some a) (some ma) := by
  intro σw h σ H μ Q rs rh po
  refine poAt (po_some pe_of) (ha σw h σ H μ _ rs rh (Po.bind (f := fun x h1 => match x with | .int i => .ok (some i) h1 | _ => .bad) po |>.imp fun x h1 μ1 H1 x1 r1 p1 v qv fv => ?_))
  split at p1
  · exact ⟨_, qv, p1.at r1⟩
  · exact p1.elim
theorem se_sl (hK : X.K = g.K) (ha : SE g X Wx a ma) (hl : SP' g X Wx lo ml) (hh : SP' g X Wx hi mh) : SE g X Wx (.Subscript a (.Slice lo hi none p2) pos) (mSl ma ml mh) := by
  intro σw h σ H μ Q rs rh po
  refine peAt (pe_slice sl_of pe_of po_of po_of) ?_
  refine ha σw h σ H μ _ rs rh (po.bind.imp fun x h1 μ1 H1 x1 r1 p1 vx qx fx => ?_)
  refine hl σw h1 σ H1 μ1 _ (rs.ext rh.trk x1) r1 (p1.bind.imp fun l h2 μ2 H2 x2 r2 p2 => ?_)
  refine hh σw h2 σ H2 μ2 _ (rs.ext rh.trk (x1.trans x2)) r2 (p2.bind.imp fun u h3 μ3 H3 x3 r3 p3 => ?_)
  have qx3 := (qx.ext r1.trk x2).ext r2.trk x3
  have x03 := (x1.trans x2).trans x3
  unfold slW at p3
  split at p3
  · rename_i ws ew
    obtain ⟨a, vs, rfl, s1, z⟩ := asL_ok r3 qx3 ew
    refine slAt sl_list ⟨a, vs, rfl, by rw [hK]; exact s1, fun p np => ?_⟩
    refine p3 μ3 _ (.new r3.trk np) (r3.new np) _ (.newL r3 np (cut_ok z)) (Fr.back x03 fun c ec => ?_)
    cases ec
    exact np
  · split at p3
    · rename_i ws ew
      obtain ⟨a, vs, rfl, s1, z⟩ := asT_ok qx3 ew
      have l := z.length
      refine slAt sl_tupA ⟨a, vs, rfl, by rw [hK]; exact s1, fun hc => ?_, fun hc p np => ?_⟩
      · rw [l] at hc
        rw [if_pos hc] at p3
        exact p3.at r3 _ qx3 (.of (by cases x <;> first | rfl | cases ew))
      · rw [l] at hc
        rw [if_neg hc] at p3
        exact p3 μ3 _ (.new r3.trk np) (r3.new np) _ (.newT r3 np (cut_ok z)) (.of rfl)
    · split at p3
      · split at p3
        · rename_i hl
          exact slAt sl_str ⟨_, qx3, hl, p3.at r3 _ rfl (.of rfl)⟩
        · exact p3.elim
      · exact p3.elim
end
end PV
end
section
/-! PVA7: calls of built-in functions. -/
namespace PV
open PySem PySem.Spec PyProof.Rows L2

def crOf (X : Cx) (f : Value) : List V → Hp → VK → Prop := fun xs H Q => ∀ pins s σ us, Inv X pins σ H s → Vals xs us → wpAny (model X.prog X.w) X.A (call f us) (EP X pins σ Q) X.xe s
theorem cr_of {X : Cx} {f : Value} : CallR X f (crOf X f) := fun pins s σ H xs us Q I r h => h pins s σ us I r
theorem crAt {X : Cx} {f : Value} {r : List V → Hp → VK → Prop} (p : CallR X f r) {xs : List V} {H : Hp} {Q : VK} (h : r xs H Q) : crOf X f xs H Q := fun pins s σ us I rv => p pins s σ H xs us Q I rv h
def SC1 (g : Gx) (X : Cx) (Wx : WX) (f : Value) (m : D → Hh → R D) : Prop := ∀ (x : D) (h : Hh) (σ : L2.St) (H : Hp) (μ : List Addr) (vx : V) (Q : VK), RH g μ h H → RV g μ H x vx →
  Po g Wx σ μ H (m x h) (fun w h' μ' H' => ∀ v, RV g μ' H' w v → Fr H w v → Q v H') → crOf X f [vx] H Q
def SC2 (g : Gx) (X : Cx) (Wx : WX) (f : Value) (m : D → D → Hh → R D) : Prop := ∀ (x y : D) (h : Hh) (σ : L2.St) (H : Hp) (μ : List Addr) (vx vy : V) (Q : VK), RH g μ h H → RV g μ H x vx → RV g μ H y vy →
  Po g Wx σ μ H (m x y h) (fun w h' μ' H' => ∀ v, RV g μ' H' w v → Fr H w v → Q v H') → crOf X f [vx, vy] H Q
def mF1 (f : D → Hh → R D) (a : M D) : M D := fun σ h => (a σ h).bind f
/-- the built-in is a function or a type -/
def isBt : Value → Bool
  | .builtin _ => true
  | .type _ => true
  | _ => false
section
variable {g : Gx} {X : Cx} {Wx : WX} {a b : Expr} {ma mb : M D} {f : D → Hh → R D} {f2 : D → D → Hh → R D} {x : Str} {p pos : Pos} {bv : Value}
theorem pe_callV {e : Expr} {es : List Expr} {t : TA} {r : List V → Hp → VK → Prop} (hb : isBt bv = true) (hc : CallR X bv r) (hg : Gl X x) (hm : X.mg x = none) (hv : bootBuiltins x = some bv) (ha : PA X (e :: es) t) (hn : x ≠ "__name__") (hdb : (x == ("__debug__" : Str)) = false)
    (he : starEach (e :: es) X.env = (false, eval e X.env) :: starEach es X.env) (hpl : (backTo pos (starEach es X.env)).any (·.1) = false) : PE X (.Call (.Name x p) (e :: es) [] pos) (tCB r t) := by
  cases bv <;> first | cases hb | skip
  · exact pe_callTy hc hg hm hv ha hn hdb he hpl
  · exact pe_callB hc hg hm hv ha hn hdb he hpl
theorem se_b1 (sc : SC1 g X Wx bv f) (hb : isBt bv = true) (hg : Gl X x) (hm : X.mg x = none) (hv : bootBuiltins x = some bv) (hn : x ≠ "__name__") (hdb : (x == ("__debug__" : Str)) = false)
    (he : starEach [a] X.env = [(false, eval a X.env)]) (ha : SE g X Wx a ma) : SE g X Wx (.Call (.Name x p) [a] [] pos) (mF1 f ma) := by
  intro σw h σ H μ Q rs rh po
  refine peAt (pe_callV hb cr_of hg hm hv (pa_cons pe_of pa_nil he) hn hdb he rfl) ?_
  refine ha σw h σ H μ _ rs rh (po.bind.imp fun x h1 μ1 H1 x1 r1 p1 vx qx fx => ?_)
  exact sc x h1 σ H1 μ1 vx Q r1 qx (p1.imp fun w h3 μ3 H3 x3 r3 q3 v qv fv => q3 v qv (fv.back x1))
theorem se_b2 (sc : SC2 g X Wx bv f2) (hb : isBt bv = true) (hg : Gl X x) (hm : X.mg x = none) (hv : bootBuiltins x = some bv) (hn : x ≠ "__name__") (hdb : (x == ("__debug__" : Str)) = false)
    (he : starEach [a, b] X.env = [(false, eval a X.env), (false, eval b X.env)]) (he2 : starEach [b] X.env = [(false, eval b X.env)]) (ha : SE g X Wx a ma) (hb' : SE g X Wx b mb) : SE g X Wx (.Call (.Name x p) [a, b] [] pos) (mOp f2 ma mb) := by
  intro σw h σ H μ Q rs rh po
  refine peAt (pe_callV hb cr_of hg hm hv (pa_cons pe_of (pa_cons pe_of pa_nil he2) (by rw [he, he2])) hn hdb (by rw [he, he2]) (by rw [he2]; rfl)) ?_
  refine ha σw h σ H μ _ rs rh (po.bind.imp fun x h1 μ1 H1 x1 r1 p1 vx qx fx => ?_)
  refine hb' σw h1 σ H1 μ1 _ (rs.ext rh.trk x1) r1 (p1.bind.imp fun y h2 μ2 H2 x2 r2 p2 vy qy fy => ?_)
  exact sc x y h2 σ H2 μ2 vx vy Q r2 (qx.ext r1.trk x2) qy (p2.imp fun w h3 μ3 H3 x3 r3 q3 v qv fv => q3 v qv (fv.back (x1.trans x2)))
end

/-! ### what they do -/
def lenW (x : D) (h : Hh) : R D := match asL h x with
  | some ws => .ok (.int ws.length) h
  | none => match asT x with
    | some ws => .ok (.int ws.length) h
    | none => match x with
      | .str z => if z.length ≤ sizeLine then .ok (.int z.length) h else .bad
      | .ref i => match h[i]? with
        | some (.dK kvs) => .ok (.int kvs.length) h
        | some (.dT kvs) => .ok (.int kvs.length) h
        | _ => .bad
      | _ => .bad
def absW (x : D) (h : Hh) : R D := match x with
  | .int i => .ok (.int (if i < 0 then -i else i)) h
  | _ => .bad
def intW (x : D) (h : Hh) : R D := match x with
  | .int i => .ok (.int i) h
  | .bl k => .ok (.int (if k then 1 else 0)) h
  | .str a => match PySem.intText? a with
    | some n => if a.length ≤ 640 then .ok (.int n) h else .bad
    | none => .bad
  | _ => .bad
def strW (x : D) (h : Hh) : R D := match x with
  | .int i => if i.natAbs.log2 < 1920 then .ok (.str (toString i)) h else .bad
  | .str a => .ok (.str a) h
  | _ => .bad
def tupleW (x : D) (h : Hh) : R D := match asL h x with
  | some ws => .ok (.tup ws) h
  | none => match asT x with
    | some _ => .ok x h
    | none => .bad
def listW (x : D) (h : Hh) : R D := match asL h x with
  | some ws => .ok (.tl ws) h
  | none => match asT x with
    | some ws => .ok (.tl ws) h
    | none => match x with
      | .str z => if z.cps.size ≤ sizeLine then .ok (.tl (z.cps.toList.map fun c => .str ⟨#[c]⟩)) h else .bad
      | _ => .bad
def toB : D → Option Bool
  | .bl b => some b
  | _ => none
def allW (x : D) (h : Hh) : R D := match asL h x with
  | some ws => match mapO toB ws with
    | some bs => .ok (.bl (bs.all id)) h
    | none => .bad
  | none => .bad
def anyW (x : D) (h : Hh) : R D := match asL h x with
  | some ws => match mapO toB ws with
    | some bs => .ok (.bl (bs.any id)) h
    | none => .bad
  | none => .bad
def sumW (x : D) (h : Hh) : R D := match asL h x with
  | some ws => match mapO toI ws with
    | some ns => .ok (.int ns.sum) h
    | none => .bad
  | none => .bad
def reprW (x : D) (h : Hh) : R D := match toP h deep x with
  | some d => if d.showable && decide (d.shown.length ≤ sizeLine) && SeqAt.shaped d then .ok (.str d.shown) h else .bad
  | none => .bad
def maxW (x y : D) (h : Hh) : R D := match x, y with
  | .int i, .int j => .ok (.int (if j > i then j else i)) h
  | _, _ => .bad
def minW (x y : D) (h : Hh) : R D := match x, y with
  | .int i, .int j => .ok (.int (if j < i then j else i)) h
  | _, _ => .bad
def ordW (x : D) (h : Hh) : R D := match x with
  | .str z => if z.length = 1 then .ok (.int (z.cps.getD 0 0 : Nat)) h else .bad
  | _ => .bad
/-- the built-in type of a value -/
def tyD (h : Hh) : D → Option String
  | .non => some "NoneType"
  | .bl _ => some "bool"
  | .int _ => some "int"
  | .str _ => some "str"
  | .tup _ => some "tuple"
  | .kt _ => some "tuple"
  | .tl _ => some "list"
  | .fl _ => some "list"
  | .ref i => match h[i]? with
    | some (.lst _) => some "list"
    | some (.dK _) => some "dict"
    | some (.dT _) => some "dict"
    | _ => none
  | _ => none
def isiTy (h : Hh) (x : D) (n : String) : Option Bool := match tyD h x with
  | some t => kitB t n
  | none => none
section
variable {g : Gx} {X : Cx} {Wx : WX}
theorem sc_len (hK : X.K = g.K) : SC1 g X Wx (.builtin "len") lenW := by
  intro x h σ H μ vx Q rh qx po
  unfold lenW at po
  split at po
  · rename_i ws ew
    obtain ⟨a, vs, rfl, s1, z⟩ := asL_ok rh qx ew
    refine crAt call_len_seq ⟨a, vs, rfl, .inl (by rw [hK]; exact s1), ?_⟩
    rw [z.length]
    exact po.at rh _ rfl (.of rfl)
  · split at po
    · rename_i ws ew
      obtain ⟨a, vs, rfl, s1, z⟩ := asT_ok qx ew
      refine crAt call_len_seq ⟨a, vs, rfl, .inr (by rw [hK]; exact s1), ?_⟩
      rw [z.length]
      exact po.at rh _ rfl (.of rfl)
    · split at po
      · split at po
        · rename_i hl
          rw [show vx = .str _ from qx]
          exact crAt call_len_str ⟨_, rfl, hl, po.at rh _ rfl (.of rfl)⟩
        · exact po.elim
      · rename_i i _ _
        obtain ⟨a, ea, rfl⟩ := qx
        split at po
        · rename_i kvs e3
          obtain ⟨b, eb, vs, hb, z⟩ := rh.cell i _ e3
          rw [ea] at eb; cases eb
          refine crAt call_lenD ⟨a, vs, rfl, hb, ?_⟩
          have el : vs.length = kvs.length := by
            clear po hb e3 ea
            induction kvs generalizing vs with
            | nil => rw [show vs = [] from z]; rfl
            | cons p kvs ih => obtain ⟨v, rr, rfl, _, _, zz⟩ := z; simp [ih rr zz]
          rw [el]
          exact po.at rh _ rfl (.of rfl)
        · rename_i kvs e3
          obtain ⟨b, eb, vs, hb, z⟩ := rh.cell i _ e3
          rw [ea] at eb; cases eb
          refine crAt call_len_dT ⟨a, vs, rfl, hb, ?_⟩
          have el : vs.length = kvs.length := by
            clear po hb e3 ea
            induction kvs generalizing vs with
            | nil => rw [show vs = [] from z]; rfl
            | cons p kvs ih => obtain ⟨v, rr, rfl, _, _, zz⟩ := z; simp [ih rr zz]
          rw [el]
          exact po.at rh _ rfl (.of rfl)
        · exact po.elim
      · exact po.elim
theorem sc_abs : SC1 g X Wx (.builtin "abs") absW := by
  intro x h σ H μ vx Q rh qx po
  unfold absW at po
  split at po
  · rw [show vx = .int _ from qx]
    exact crAt call_abs ⟨_, rfl, po.at rh _ rfl (.of rfl)⟩
  · exact po.elim
theorem sc_int : SC1 g X Wx (.type "int") intW := by
  intro x h σ H μ vx Q rh qx po
  unfold intW at po
  split at po
  · rw [show vx = .int _ from qx]
    exact crAt call_int1 (.inl ⟨_, rfl, po.at rh _ rfl (.of rfl)⟩)
  · rw [show vx = .bl _ from qx]
    exact crAt call_int1 (.inr ⟨_, rfl, po.at rh _ rfl (.of rfl)⟩)
  · split at po
    · rename_i n en
      split at po
      · rename_i hl
        rw [show vx = .str _ from qx]
        exact crAt call_int_str ⟨_, n, rfl, en, hl, po.at rh _ rfl (.of rfl)⟩
      · exact po.elim
    · exact po.elim
  · exact po.elim
theorem sc_str : SC1 g X Wx (.type "str") strW := by
  intro x h σ H μ vx Q rh qx po
  unfold strW at po
  split at po
  · split at po
    · rename_i hl
      rw [show vx = .int _ from qx]
      exact crAt call_str_int ⟨_, rfl, hl, po.at rh _ rfl (.of rfl)⟩
    · exact po.elim
  · rw [show vx = .str _ from qx]
    exact crAt SkE.call_str_str ⟨_, rfl, po.at rh _ rfl (.of rfl)⟩
  · exact po.elim
theorem sc_tuple (hK : X.K = g.K) : SC1 g X Wx (.type "tuple") tupleW := by
  intro x h σ H μ vx Q rh qx po
  unfold tupleW at po
  split at po
  · rename_i ws ew
    obtain ⟨a, vs, rfl, s1, z⟩ := asL_ok rh qx ew
    exact crAt call_tuple_of ⟨a, vs, rfl, .inl ⟨by rw [hK]; exact s1, fun p np => po μ _ (.new rh.trk np) (rh.new np) _ (.newT rh np z) (.of rfl)⟩⟩
  · split at po
    · rename_i ws ew
      obtain ⟨a, vs, e1, s1, z⟩ := asT_ok qx ew
      subst e1
      exact crAt call_tuple_of ⟨a, vs, rfl, .inr ⟨by rw [hK]; exact s1, po.at rh _ qx (.of (by cases x <;> first | rfl | cases ew))⟩⟩
    · exact po.elim
theorem sign_vals {x : Str} {acc : Array Value} {g' : Gx} {μ : List Addr} {H : Hp} : RVs g' μ H (x.cps.toList.map fun c => D.str ⟨#[c]⟩) (x.cps.toList.map fun c => V.str ⟨#[c]⟩) := by
  generalize x.cps.toList = l
  induction l with
  | nil => rfl
  | cons c l ih => exact ⟨_, _, rfl, rfl, rfl, ih⟩
theorem call_list_txt (hc : X.calm = true) : CallR X (.type "list") (fun xs H Q => ∃ z : Str, xs = [.str z] ∧ z.cps.size ≤ sizeLine ∧ ∀ p, H p = none → Q (.ref p) (upd H p (.lst (z.cps.toList.map fun c => .str ⟨#[c]⟩)))) := by
  intro pins s σ H xs us Q I r h
  obtain ⟨z, rfl, hz, q⟩ := h
  obtain ⟨u, rfl, t, rfl⟩ := vals1 r
  refine PySem.call_list_str (hn := hz) (I.ok.hd hc) z t fun h' tk acc c' hk e' hi => ?_
  refine ⟨.ref s.heap.objs.size, upd H s.heap.objs.size (.lst (z.cps.toList.map fun c => .str ⟨#[c]⟩)), I.laid hk (Nat.le_refl _) (show ObjOk X.prog X.w _ _ _ (.lst _) from ⟨?_, acc.toList, c', ?_, ?_⟩), rfl, q _ (I.hok.fresh (Nat.le_refl _))⟩
  · rw [List.length_map]; simpa using hz
  · obtain ⟨h1, h2⟩ := hi
    refine vals_of_at (by simp [h1]) fun j x u hx hu => ?_
    obtain ⟨c, t', ec, rfl⟩ := h2 j u (by simpa using hu)
    have hx' : (z.cps.toList[j]?).map (fun c => V.str ⟨#[c]⟩) = some x := by simpa using hx
    have ec' : z.cps.toList[j]? = some c := by simpa using ec
    rw [ec'] at hx'
    cases hx'
    exact ⟨t', rfl⟩
  · rw [Array.toArray_toList]; exact e'
theorem sc_list (hK : X.K = g.K) (hc : X.calm = true) : SC1 g X Wx (.type "list") listW := by
  intro x h σ H μ vx Q rh qx po
  unfold listW at po
  have young : ∀ {ws : List D} {p : Addr}, H p = none → Fr H (.tl ws) (.ref p) := fun np c ec => by cases ec; exact np
  split at po
  · rename_i ws ew
    obtain ⟨a, vs, rfl, s1, z⟩ := asL_ok rh qx ew
    exact crAt call_list_of ⟨a, vs, rfl, .inl (by rw [hK]; exact s1), fun p np => po μ _ (.new rh.trk np) (rh.new np) _ (.newL rh np z) (young np)⟩
  · split at po
    · rename_i ws ew
      obtain ⟨a, vs, rfl, s1, z⟩ := asT_ok qx ew
      exact crAt call_list_of ⟨a, vs, rfl, .inr (by rw [hK]; exact s1), fun p np => po μ _ (.new rh.trk np) (rh.new np) _ (.newL rh np z) (young np)⟩
    · split at po
      · split at po
        · rename_i z _ _ hz
          rw [show vx = .str _ from qx]
          exact crAt (call_list_txt hc) ⟨z, rfl, hz, fun p np => po μ _ (.new rh.trk np) (rh.new np) _ (.newL rh np (sign_vals (acc := #[]))) (young np)⟩
        · exact po.elim
      · exact po.elim
theorem toB_ok {μ : List Addr} {H : Hp} : ∀ {ws : List D} {bs : List Bool} {vs : List V}, mapO toB ws = some bs → RVs g μ H ws vs → vs = bs.map V.bl
  | [], ks, vs, e, r => by
    unfold mapO at e; cases e
    exact r
  | w :: ws, ks, vs, e, r => by
    obtain ⟨v, rr, rfl, _, q, z⟩ := r
    unfold mapO at e
    split at e
    · rename_i a b ea eb
      cases e
      unfold toB at ea
      split at ea
      · cases ea
        rw [show v = .bl _ from q, toB_ok eb z]; rfl
      · cases ea
    · cases e
theorem sc_all (hK : X.K = g.K) (hc : X.calm = true) : SC1 g X Wx (.builtin "all") allW := by
  intro x h σ H μ vx Q rh qx po
  unfold allW at po
  split at po
  · rename_i ws ew
    obtain ⟨a, vs, rfl, s1, z⟩ := asL_ok rh qx ew
    split at po
    · rename_i bs eb
      rw [toB_ok eb z] at s1
      exact crAt (cr_all hc) ⟨a, bs, rfl, by rw [hK]; exact s1, po.at rh _ rfl (.of rfl)⟩
    · exact po.elim
  · exact po.elim
theorem sc_any (hK : X.K = g.K) (hc : X.calm = true) : SC1 g X Wx (.builtin "any") anyW := by
  intro x h σ H μ vx Q rh qx po
  unfold anyW at po
  split at po
  · rename_i ws ew
    obtain ⟨a, vs, rfl, s1, z⟩ := asL_ok rh qx ew
    split at po
    · rename_i bs eb
      rw [toB_ok eb z] at s1
      exact crAt (cr_any hc) ⟨a, bs, rfl, by rw [hK]; exact s1, po.at rh _ rfl (.of rfl)⟩
    · exact po.elim
  · exact po.elim
theorem sc_sum (hK : X.K = g.K) (hc : X.calm = true) : SC1 g X Wx (.builtin "sum") sumW := by
  intro x h σ H μ vx Q rh qx po
  unfold sumW at po
  split at po
  · rename_i ws ew
    obtain ⟨a, vs, rfl, s1, z⟩ := asL_ok rh qx ew
    split at po
    · rename_i ns en
      rw [toI_ok en z] at s1
      exact crAt (cr_sum hc) ⟨a, ns, rfl, by rw [hK]; exact s1, po.at rh _ rfl (.of rfl)⟩
    · exact po.elim
  · exact po.elim
theorem call_reprD (hg : X.A.guards = some []) (hu : X.A.units + 65 < cLine) : CallR X (.builtin "repr") (fun xs H Q => ∃ v d, xs = [v] ∧ Dp X.K H v d ∧ SeqAt.shaped d = true ∧ d.showable = true ∧ d.shown.length ≤ sizeLine ∧ Q (.str d.shown) H) := by
  intro pins s σ H xs us Q I r h
  obtain ⟨v, d, rfl, hd, sd, sh, hz, q⟩ := h
  obtain ⟨u, rfl, rv⟩ := vals1 r
  obtain ⟨as, rd⟩ := Dp.reads I d v u hd rv
  have dp := SeqAt.depth_of_shaped sd
  have nd : d.hasDict = false := PyData.hasDict_of_canLay d (SeqAt.canLay_of_shaped sd)
  cases hd with
  | non => cases rv; exact PySem.P.repr_of_none ⟨.str _, H, I.tok _, ⟨_, rfl⟩, q⟩
  | bl b => cases rv; exact PySem.P.repr_of_bool ⟨.str _, H, I.tok _, ⟨_, rfl⟩, q⟩
  | int i =>
    obtain ⟨t, rfl⟩ := rv
    exact PySem.P.repr_of_int (of_decide_eq_true sh) ⟨.str _, H, I.tok _, ⟨_, rfl⟩, q⟩
  | str x =>
    obtain ⟨t, rfl⟩ := rv
    exact PySem.P.repr_of_str (hsz := hz) ⟨.str _, H, I.tok _, ⟨_, rfl⟩, q⟩
  | lst hs ha =>
    cases rv
    exact repr_of_reads' rd sh (PyData.noDict_hsm nd) hg (by omega) (fun _ _ e => e) (fun h' u tk hk => ⟨.str _, H, I.kept (t' := tk) hk, ⟨_, rfl⟩, q⟩) hz
  | tup hs ha =>
    cases rv
    exact repr_of_reads' rd sh (PyData.noDict_hsm nd) hg (by omega) (fun _ _ e => e) (fun h' u tk hk => ⟨.str _, H, I.kept (t' := tk) hk, ⟨_, rfl⟩, q⟩) hz
theorem sc_repr (hK : X.K = g.K) (hg : X.A.guards = some []) (hu : X.A.units + 65 < cLine) : SC1 g X Wx (.builtin "repr") reprW := by
  intro x h σ H μ vx Q rh qx po
  unfold reprW at po
  split at po
  · rename_i d e
    split at po
    · rename_i hs
      simp only [Bool.and_eq_true, decide_eq_true_eq] at hs
      obtain ⟨⟨h1, h2⟩, h3⟩ := hs
      exact crAt (call_reprD hg hu) ⟨vx, d, rfl, by rw [hK]; exact toP_dp rh _ _ _ _ e qx, h3, h1, h2, po.at rh _ rfl (.of rfl)⟩
    · exact po.elim
  · exact po.elim
theorem sc_max (hc : X.calm = true) : SC2 g X Wx (.builtin "max") maxW := by
  intro x y h σ H μ vx vy Q rh qx qy po
  unfold maxW at po
  split at po
  · rw [show vx = .int _ from qx, show vy = .int _ from qy]
    exact crAt (call_max2 hc) ⟨_, _, rfl, po.at rh _ rfl (.of rfl)⟩
  · exact po.elim
theorem sc_min (hc : X.calm = true) : SC2 g X Wx (.builtin "min") minW := by
  intro x y h σ H μ vx vy Q rh qx qy po
  unfold minW at po
  split at po
  · rw [show vx = .int _ from qx, show vy = .int _ from qy]
    exact crAt (call_min2 hc) ⟨_, _, rfl, po.at rh _ rfl (.of rfl)⟩
  · exact po.elim
theorem sc_ord : SC1 g X Wx (.builtin "ord") ordW := by
  intro x h σ H μ vx Q rh qx po
  unfold ordW at po
  split at po
  · split at po
    · rename_i hl
      rw [show vx = .str _ from qx]
      exact crAt call_ord ⟨_, rfl, hl, po.at rh _ rfl (.of rfl)⟩
    · exact po.elim
  · exact po.elim
theorem tyD_ok {h : Hh} {μ : List Addr} {H : Hp} {x : D} {vx : V} {t : String} (rh : RH g μ h H) (qx : RV g μ H x vx) (e : tyD h x = some t) : TyX g.K H vx (.type t) := by
  unfold tyD at e
  split at e
  · cases e; rw [show vx = _ from qx]; exact .base .non
  · cases e; rw [show vx = _ from qx]; exact .base (.bl _)
  · cases e; rw [show vx = _ from qx]; exact .base (.int _)
  · cases e; rw [show vx = _ from qx]; exact .base (.str _)
  · cases e; obtain ⟨a, vs, rfl, q, _⟩ := qx; exact .base (.tup q)
  · cases e
    obtain ⟨a, vs, rfl, q, _⟩ := qx
    rcases q with (q | ⟨o, q⟩) | ⟨o, its, n, q, c, _⟩
    · exact .base (.tup q)
    · exact .fTuple q
    · exact .kTuple q c
  · cases e; obtain ⟨a, vs, rfl, q, _⟩ := qx; exact .base (.lst q)
  · cases e
    obtain ⟨a, vs, rfl, q, _⟩ := qx
    rcases q with ⟨o, q⟩ | ⟨o, its, n, q, c, _⟩
    · exact .base (.frz q)
    · exact .kList q c
  · rename_i i
    obtain ⟨a, ea, rfl⟩ := qx
    split at e
    · rename_i ws e3
      cases e
      obtain ⟨b, eb, vs, hb, z⟩ := rh.cell i _ e3
      rw [ea] at eb; cases eb
      exact .base (.lst hb)
    · rename_i ws e3
      cases e
      obtain ⟨b, eb, vs, hb, z⟩ := rh.cell i _ e3
      rw [ea] at eb; cases eb
      exact .base (.dK hb)
    · rename_i ws e3
      cases e
      obtain ⟨b, eb, vs, hb, z⟩ := rh.cell i _ e3
      rw [ea] at eb; cases eb
      exact .base (.dT hb)
    · cases e
  · cases e
end
end PV
end
section
/-! PVA8: methods of built-in types. -/
namespace PV
open PySem PySem.Spec PyProof.Rows L2

/-- evaluate, then keep -/
def mSt (m : M D) : M D := fun σ h => (m σ h).bind fun w h1 => .ok (stash w h1).1 (stash w h1).2
theorem se_st {g : Gx} {X : Cx} {Wx : WX} {e : Expr} {m : M D} (he : SE g X Wx e m) : SE g X Wx e (mSt m) := by
  intro σw h σ H μ Q rs rh po
  refine he σw h σ H μ Q rs rh (po.bind2.imp fun w h1 μ1 H1 x1 r1 p1 v qv fv => ?_)
  obtain ⟨μ1', x1', r1', q1', _⟩ := stash_ok r1 qv fv x1
  exact (p1 μ1' H1 x1').at r1' v q1' (.of stash_isTl)
def mtOf (X : Cx) (id : String) : V → List V → Hp → VK → Prop := fun x xs H Q => ∀ pins s σ v us, Inv X pins σ H s → RelV x v → Vals xs us → wpAny (model X.prog X.w) X.A (call (.builtin id) (v :: us)) (EP X pins σ Q) X.xe s
theorem mt_of {X : Cx} {id : String} : MtR X id (mtOf X id) := fun pins s σ H x xs v us Q I rx rs h => h pins s σ v us I rx rs
theorem mtAt {X : Cx} {id : String} {r : V → List V → Hp → VK → Prop} (p : MtR X id r) {x : V} {xs : List V} {H : Hp} {Q : VK} (h : r x xs H Q) : mtOf X id x xs H Q := fun pins s σ v us I rx rs => p pins s σ H x xs v us Q I rx rs h
/-- the type whose methods are looked up -/
def tyM (h : Hh) : D → Option String
  | .str _ => some "str"
  | .tl _ => some "list"
  | .fl _ => some "list"
  | .ref i => match h[i]? with
    | some (.lst _) => some "list"
    | some (.dK _) => some "dict"
    | some (.dT _) => some "dict"
    | _ => none
  | _ => none
theorem tyM_ok {g : Gx} {h : Hh} {μ : List Addr} {H : Hp} {x : D} {vx : V} {t : String} (rh : RH g μ h H) (qx : RV g μ H x vx) (e : tyM h x = some t) : tyV g.K t vx H := by
  unfold tyM at e
  split at e
  · cases e; rw [show vx = .str _ from qx]; rfl
  · cases e; obtain ⟨a, vs, rfl, q, _⟩ := qx; exact .inl ⟨rfl, vs, .of q⟩
  · cases e; obtain ⟨a, vs, rfl, q, _⟩ := qx; exact .inl ⟨rfl, vs, q.sq⟩
  · rename_i i
    obtain ⟨a, ea, rfl⟩ := qx
    split at e
    · rename_i ws e3
      cases e
      obtain ⟨b, eb, vs, hb, z⟩ := rh.cell i _ e3
      rw [ea] at eb; cases eb
      exact .inl ⟨rfl, vs, .of hb⟩
    · rename_i ws e3
      cases e
      obtain ⟨b, eb, vs, hb, z⟩ := rh.cell i _ e3
      rw [ea] at eb; cases eb
      exact .inr (.inr (.inl ⟨rfl, .inl ⟨vs, hb⟩⟩))
    · rename_i ws e3
      cases e
      obtain ⟨b, eb, vs, hb, z⟩ := rh.cell i _ e3
      rw [ea] at eb; cases eb
      exact .inr (.inr (.inl ⟨rfl, .inr ⟨vs, hb⟩⟩))
    · cases e
  · cases e
/-- what the library knows of a method -/
structure MtF (T : String) (name : Str) (id : String) : Prop where
  pa : PlainAttrs T
  slot : Slot T name id
  ty : typeOf (.builtin id) = pure (.type "method_descriptor")
abbrev Op0 := D → Hh → R D
abbrev Op1 := D → D → Hh → R D
abbrev Op2 := D → D → D → Hh → R D
def mM0 (f : String → Option Op0) (o : M D) : M D := fun σ h => (o σ h).bind fun x h1 => match tyM h1 x with
  | some T => match f T with
    | some op => op x h1
    | none => .bad
  | none => .bad
def mM1 (f : String → Option Op1) (o a : M D) : M D := fun σ h => (o σ h).bind fun x h1 => match tyM h1 x with
  | some T => match f T with
    | some op => (a σ h1).bind fun y h2 => op x y h2
    | none => .bad
  | none => .bad
def mM2 (f : String → Option Op2) (o a b : M D) : M D := fun σ h => (o σ h).bind fun x h1 => match tyM h1 x with
  | some T => match f T with
    | some op => (a σ h1).bind fun y h2 => (b σ h2).bind fun z h3 => op x y z h3
    | none => .bad
  | none => .bad
section
variable (g : Gx) (X : Cx) (Wx : WX) (id : String)
def SM0 (op : Op0) : Prop := ∀ (x : D) (h : Hh) (σ : L2.St) (H : Hp) (μ : List Addr) (vx : V) (Q : VK), RH g μ h H → RV g μ H x vx →
  Po g Wx σ μ H (op x h) (fun w h' μ' H' => ∀ v, RV g μ' H' w v → Fr H w v → Q v H') → mtOf X id vx [] H Q
def SM1 (op : Op1) : Prop := ∀ (x y : D) (h : Hh) (σ : L2.St) (H : Hp) (μ : List Addr) (vx vy : V) (Q : VK), RH g μ h H → RV g μ H x vx → RV g μ H y vy →
  Po g Wx σ μ H (op x y h) (fun w h' μ' H' => ∀ v, RV g μ' H' w v → Fr H w v → Q v H') → mtOf X id vx [vy] H Q
def SM2 (op : Op2) : Prop := ∀ (x y z : D) (h : Hh) (σ : L2.St) (H : Hp) (μ : List Addr) (vx vy vz : V) (Q : VK), RH g μ h H → RV g μ H x vx → RV g μ H y vy → RV g μ H z vz →
  Po g Wx σ μ H (op x y z h) (fun w h' μ' H' => ∀ v, RV g μ' H' w v → Fr H w v → Q v H') → mtOf X id vx [vy, vz] H Q
end
section
variable {g : Gx} {X : Cx} {Wx : WX} {o a b : Expr} {mo ma mb : M D} {name : Str} {apos cpos : Pos} {T0 id0 : String}
theorem se_m0 {f : String → Option Op0} (hK : X.K = g.K) (F0 : MtF T0 name id0) (hf : ∀ T op, f T = some op → ∃ id, MtF T name id ∧ SM0 g X Wx id op)
    (hbase : attributeBase o name X.env (eval o X.env) = eval o X.env) (hline : (apos.endLine == cpos.line) = true) (ho : SE g X Wx o mo) : SE g X Wx (.Call (.Attribute o name apos) [] [] cpos) (mM0 f mo) := by
  intro σw h σ H μ Q rs rh po
  unfold mM0 at po
  cases hx : mo σw h with
  | bad => rw [hx] at po; exact po.elim
  | exc c fs h1 =>
    rw [hx] at po
    refine peAt (pe_bm0 F0.pa F0.slot F0.ty mt_of pe_of hbase hline) (ho σw h σ H μ _ rs rh ?_)
    rw [hx]
    exact po
  | ok x h1 =>
    rw [hx] at po
    rw [R.bind_ok] at po
    split at po
    · rename_i T eT
      split at po
      · rename_i op ef
        obtain ⟨id, F, sm⟩ := hf T op ef
        refine peAt (pe_bm0 F.pa F.slot F.ty mt_of pe_of hbase hline) (ho σw h σ H μ _ rs rh ?_)
        rw [hx]
        intro μ1 H1 x1 r1 vx qx fx
        exact ⟨by rw [hK]; exact tyM_ok r1 qx eT, sm x h1 σ H1 μ1 vx Q r1 qx ((po.ext x1).imp fun w h3 μ3 H3 x3 r3 q3 v qv fv => q3 v qv (fv.back x1))⟩
      · exact po.elim
    · exact po.elim
theorem se_m1 {f : String → Option Op1} (hK : X.K = g.K) (F0 : MtF T0 name id0) (hf : ∀ T op, f T = some op → ∃ id, MtF T name id ∧ SM1 g X Wx id op)
    (hbase : attributeBase o name X.env (eval o X.env) = eval o X.env) (hline : (apos.endLine == cpos.line) = true) (hs : starEach [a] X.env = [(false, eval a X.env)])
    (ho : SE g X Wx o mo) (ha : SE g X Wx a ma) : SE g X Wx (.Call (.Attribute o name apos) [a] [] cpos) (mM1 f mo ma) := by
  intro σw h σ H μ Q rs rh po
  have hfew : ((backTo cpos (starEach [a] X.env)).all (fun x => !x.1) && (backToKw cpos (keywordEach [] X.env)).all (fun x => x.1.isSome)
      && decide ([a].length + ([] : List Keyword).length + (if ([] : List Keyword).isEmpty then 0 else 1) < 30)) = true := by rw [hs]; rfl
  unfold mM1 at po
  cases hx : mo σw h with
  | bad => rw [hx] at po; exact po.elim
  | exc c fs h1 =>
    rw [hx] at po
    refine peAt (pe_bm F0.pa F0.slot F0.ty mt_of pe_of (pa_cons pe_of pa_nil hs) hbase hfew hline hs rfl) (ho σw h σ H μ _ rs rh ?_)
    rw [hx]
    exact po
  | ok x h1 =>
    rw [hx] at po
    rw [R.bind_ok] at po
    split at po
    · rename_i T eT
      split at po
      · rename_i op ef
        obtain ⟨id, F, sm⟩ := hf T op ef
        refine peAt (pe_bm F.pa F.slot F.ty mt_of pe_of (pa_cons pe_of pa_nil hs) hbase hfew hline hs rfl) (ho σw h σ H μ _ rs rh ?_)
        rw [hx]
        intro μ1 H1 x1 r1 vx qx fx
        refine ⟨by rw [hK]; exact tyM_ok r1 qx eT, ?_⟩
        refine ha σw h1 σ H1 μ1 _ (rs.ext rh.trk x1) r1 ((po.ext x1).bind.imp fun y h2 μ2 H2 x2 r2 p2 vy qy fy => ?_)
        exact sm x y h2 σ H2 μ2 vx vy Q r2 (qx.ext r1.trk x2) qy (p2.imp fun w h3 μ3 H3 x3 r3 q3 v qv fv => q3 v qv (fv.back (x1.trans x2)))
      · exact po.elim
    · exact po.elim
theorem se_m2 {f : String → Option Op2} (hK : X.K = g.K) (F0 : MtF T0 name id0) (hf : ∀ T op, f T = some op → ∃ id, MtF T name id ∧ SM2 g X Wx id op)
    (hbase : attributeBase o name X.env (eval o X.env) = eval o X.env) (hline : (apos.endLine == cpos.line) = true) (hs : starEach [a, b] X.env = [(false, eval a X.env), (false, eval b X.env)]) (hs2 : starEach [b] X.env = [(false, eval b X.env)])
    (ho : SE g X Wx o mo) (ha : SE g X Wx a ma) (hb : SE g X Wx b mb) : SE g X Wx (.Call (.Attribute o name apos) [a, b] [] cpos) (mM2 f mo ma mb) := by
  intro σw h σ H μ Q rs rh po
  have hfew : ((backTo cpos (starEach [a, b] X.env)).all (fun x => !x.1) && (backToKw cpos (keywordEach [] X.env)).all (fun x => x.1.isSome)
      && decide ([a, b].length + ([] : List Keyword).length + (if ([] : List Keyword).isEmpty then 0 else 1) < 30)) = true := by rw [hs]; rfl
  have pa := pa_cons (X := X) (e := a) (es := [b]) pe_of (pa_cons pe_of pa_nil hs2) (by rw [hs, hs2])
  unfold mM2 at po
  cases hx : mo σw h with
  | bad => rw [hx] at po; exact po.elim
  | exc c fs h1 =>
    rw [hx] at po
    refine peAt (pe_bm F0.pa F0.slot F0.ty mt_of pe_of pa hbase hfew hline (by rw [hs, hs2]) (by rw [hs2]; rfl)) (ho σw h σ H μ _ rs rh ?_)
    rw [hx]
    exact po
  | ok x h1 =>
    rw [hx] at po
    rw [R.bind_ok] at po
    split at po
    · rename_i T eT
      split at po
      · rename_i op ef
        obtain ⟨id, F, sm⟩ := hf T op ef
        refine peAt (pe_bm F.pa F.slot F.ty mt_of pe_of pa hbase hfew hline (by rw [hs, hs2]) (by rw [hs2]; rfl)) (ho σw h σ H μ _ rs rh ?_)
        rw [hx]
        intro μ1 H1 x1 r1 vx qx fx
        refine ⟨by rw [hK]; exact tyM_ok r1 qx eT, ?_⟩
        refine ha σw h1 σ H1 μ1 _ (rs.ext rh.trk x1) r1 ((po.ext x1).bind.imp fun y h2 μ2 H2 x2 r2 p2 vy qy fy => ?_)
        refine hb σw h2 σ H2 μ2 _ (rs.ext rh.trk (x1.trans x2)) r2 (p2.bind.imp fun z h3 μ3 H3 x3 r3 p3 vz qz fz => ?_)
        exact sm x y z h3 σ H3 μ3 vx vy vz Q r3 ((qx.ext r1.trk x2).ext r2.trk x3) (qy.ext r2.trk x3) qz (p3.imp fun w h4 μ4 H4 x4 r4 q4 v qv fv => q4 v qv (fv.back ((x1.trans x2).trans x3)))
      · exact po.elim
    · exact po.elim
end

/-! ### the methods -/
/-- the tracked list at i -/
def lstAt (h : Hh) : D → Option (Nat × List D)
  | .ref i => match h[i]? with
    | some (.lst ws) => some (i, ws)
    | _ => none
  | _ => none
def appendW : Op1 := fun x y h => match lstAt h x with
  | some (i, ws) => if ws.length < sizeLine ∧ y.isTl = false then .ok .non (h.set i (.lst (ws ++ [y]))) else .bad
  | none => .bad
def extendW : Op1 := fun x y h => match lstAt h x with
  | some (i, ws) => match asM h y with
    | some zs => if ws.length + zs.length ≤ sizeLine then .ok .non (h.set i (.lst (ws ++ zs))) else .bad
    | none => .bad
  | none => .bad
def popW : Op0 := fun x h => match lstAt h x with
  | some (i, ws) => match ws[ws.length - 1]? with
    | some y => .ok y (h.set i (.lst ws.dropLast))
    | none => .bad
  | none => .bad
def popAtW : Op1 := fun x y h => match lstAt h x with
  | some (i, ws) => match y with
    | .int n => if -(2 ^ 63) ≤ n ∧ n < 2 ^ 63 then match seqIndex? n ws.length with
        | some k => match ws[k]? with
          | some z => .ok z (h.set i (.lst (ws.eraseIdx k)))
          | none => .bad
        | none => .bad
      else .bad
    | _ => .bad
  | none => .bad
def insertW : Op2 := fun x y z h => match lstAt h x with
  | some (i, ws) => match y with
    | .int n => if ws.length < sizeLine ∧ 0 ≤ n ∧ n < 2 ^ 63 ∧ z.isTl = false then .ok .non (h.set i (.lst (ws.take n.toNat ++ z :: ws.drop n.toNat))) else .bad
    | _ => .bad
  | none => .bad
def toS : D → Option Str
  | .str x => some x
  | _ => none
def joinW : Op1 := fun x y h => match x with
  | .str a => match (match asL h y with | some ws => some ws | none => asT y) with
    | some ws => match mapO toS ws with
      | some ys => if (ys.map (·.length)).sum + ys.length * a.length ≤ 16777216 then .ok (.str (Txt.join a ys)) h else .bad
      | none => .bad
    | none => .bad
  | _ => .bad
def splitW : Op1 := fun x y h => match x, y with
  | .str a, .str b => if (b.length == 0) = false ∧ a.length + 2 ≤ sizeLine ∧ (Txt.split a b).length ≤ sizeLine then .ok (.tl ((Txt.split a b).map .str)) h else .bad
  | _, _ => .bad
def get1W : Op1 := fun x y h => match dget h x y with
  | some o => .ok (o.getD .non) h
  | none => .bad
def get2W : Op2 := fun x y z h => match dget h x y with
  | some o => if z.isTl = false then .ok (o.getD z) h else .bad
  | none => .bad
section
variable {g : Gx} {X : Cx} {Wx : WX} {μ : List Addr} {h : Hh} {H : Hp}
theorem lstAt_ok {x : D} {vx : V} {i : Nat} {ws : List D} (rh : RH g μ h H) (qx : RV g μ H x vx) (e : lstAt h x = some (i, ws)) : ∃ a vs, vx = .ref a ∧ μ[i]? = some a ∧ H a = some (.lst vs) ∧ RVs g μ H ws vs := by
  unfold lstAt at e
  split at e
  · rename_i j
    obtain ⟨a, ea, rfl⟩ := qx
    split at e
    · rename_i ws' e3
      cases e
      obtain ⟨b, eb, vs, hb, z⟩ := rh.cell _ _ e3
      rw [ea] at eb; cases eb
      exact ⟨a, vs, rfl, ea, hb, z⟩
    · cases e
  · cases e
theorem wrL {a : Addr} {i : Nat} {ws : List D} {vs : List V} (rh : RH g μ h H) (ea : μ[i]? = some a) (z : RVs g μ H ws vs) : Ext μ H μ (upd H a (.lst vs)) ∧ RH g μ (h.set i (.lst ws)) (upd H a (.lst vs)) :=
  ⟨.wr rh.trk ea rfl, rh.wr ea rfl ⟨vs, upd_same, z.ext rh.trk (.wr rh.trk ea rfl)⟩⟩
theorem mapO_len {α β : Type} {f : α → Option β} : ∀ {l : List α} {r : List β}, mapO f l = some r → r.length = l.length
  | [], r, e => by unfold mapO at e; cases e; rfl
  | x :: xs, r, e => by
    unfold mapO at e
    split at e
    · rename_i a b ea eb
      cases e
      simp [mapO_len eb]
    · cases e
theorem sm_append : SM1 g X Wx "list.append" appendW := by
  intro x y h σ H μ vx vy Q rh qx qy po
  unfold appendW at po
  split at po
  · rename_i i ws e
    split at po
    · rename_i hl
      obtain ⟨a, vs, rfl, ea, ha, z⟩ := lstAt_ok rh qx e
      have z2 : RVs g μ H (ws ++ [y]) (vs ++ [vy]) := z.append ⟨vy, [], rfl, hl.2, qy, rfl⟩
      obtain ⟨x1, r1⟩ := wrL rh ea z2
      exact mtAt mt_append ⟨a, vs, vy, rfl, rfl, ha, by rw [z.length]; exact hl.1, po μ _ x1 r1 _ rfl (.of rfl)⟩
    · exact po.elim
  · exact po.elim
theorem sm_extend : SM1 g X Wx "list.extend" extendW := by
  intro x y h σ H μ vx vy Q rh qx qy po
  unfold extendW at po
  split at po
  · rename_i i ws e
    split at po
    · rename_i zs ez
      split at po
      · rename_i hl
        obtain ⟨a, vs, rfl, ea, ha, z⟩ := lstAt_ok rh qx e
        obtain ⟨b, us, rfl, hb, zb⟩ := asM_ok rh qy ez
        obtain ⟨x1, r1⟩ := wrL rh ea (z.append zb)
        exact mtAt mt_extend ⟨a, b, vs, us, rfl, rfl, ha, hb, by rw [z.length, zb.length]; exact hl, po μ _ x1 r1 _ rfl (.of rfl)⟩
      · exact po.elim
    · exact po.elim
  · exact po.elim
theorem RVs.dropLast {ws : List D} {vs : List V} (r : RVs g μ H ws vs) : RVs g μ H ws.dropLast vs.dropLast := by
  rw [List.dropLast_eq_take, List.dropLast_eq_take, r.length]
  exact r.take _
theorem RVs.eraseIdx {ws : List D} {vs : List V} (r : RVs g μ H ws vs) (k : Nat) : RVs g μ H (ws.eraseIdx k) (vs.eraseIdx k) := by
  rw [List.eraseIdx_eq_take_drop_succ, List.eraseIdx_eq_take_drop_succ]
  exact (r.take _).append (r.drop _)
theorem sm_pop : SM0 g X Wx "list.pop" popW := by
  intro x h σ H μ vx Q rh qx po
  unfold popW at po
  split at po
  · rename_i i ws e
    split at po
    · rename_i y ey
      obtain ⟨a, vs, rfl, ea, ha, z⟩ := lstAt_ok rh qx e
      obtain ⟨vy, evy, nt, qy⟩ := z.get ey
      obtain ⟨x1, r1⟩ := wrL rh ea z.dropLast
      exact mtAt mt_pop ⟨a, vs, vy, rfl, rfl, ha, by rw [z.length]; exact evy, po μ _ x1 r1 _ (qy.ext rh.trk x1) (.of nt)⟩
    · exact po.elim
  · exact po.elim
theorem sm_popAt : SM1 g X Wx "list.pop" popAtW := by
  intro x y h σ H μ vx vy Q rh qx qy po
  unfold popAtW at po
  split at po
  · rename_i i ws e
    split at po
    · rename_i n
      split at po
      · rename_i hn
        split at po
        · rename_i k ek
          split at po
          · rename_i w ew
            obtain ⟨a, vs, rfl, ea, ha, z⟩ := lstAt_ok rh qx e
            obtain ⟨v, ev, nt, qv⟩ := z.get ew
            obtain ⟨x1, r1⟩ := wrL rh ea (z.eraseIdx k)
            rw [show vy = .int n from qy]
            exact mtAt mt_popAt ⟨a, vs, n, k, v, rfl, rfl, ha, hn.1, hn.2, by rw [z.length]; exact ek, ev, po μ _ x1 r1 _ (qv.ext rh.trk x1) (.of nt)⟩
          · exact po.elim
        · exact po.elim
      · exact po.elim
    · exact po.elim
  · exact po.elim
theorem toS_ok : ∀ {ws : List D} {ys : List Str} {vs : List V}, mapO toS ws = some ys → RVs g μ H ws vs → vs = ys.map V.str
  | [], ks, vs, e, r => by
    unfold mapO at e; cases e
    exact r
  | w :: ws, ks, vs, e, r => by
    obtain ⟨v, rr, rfl, _, q, z⟩ := r
    unfold mapO at e
    split at e
    · rename_i a b ea eb
      cases e
      unfold toS at ea
      split at ea
      · cases ea
        rw [show v = .str _ from q, toS_ok eb z]; rfl
      · cases ea
    · cases e
theorem sm_join (hK : X.K = g.K) : SM1 g X Wx "str.join" joinW := by
  intro x y h σ H μ vx vy Q rh qx qy po
  unfold joinW at po
  split at po
  · rename_i a
    split at po
    · rename_i ws ew
      split at po
      · rename_i ys ey
        split at po
        · rename_i hl
          rw [show vx = .str a from qx]
          have key : ∃ p vs, vy = .ref p ∧ (SqL g.K H p vs ∨ SqT g.K H p vs) ∧ RVs g μ H ws vs := by
            split at ew
            · rename_i ws' e1
              cases ew
              obtain ⟨p, vs, e2, e3, e4⟩ := asL_ok rh qy e1
              exact ⟨p, vs, e2, .inl e3, e4⟩
            · obtain ⟨p, vs, e2, e3, e4⟩ := asT_ok qy ew
              exact ⟨p, vs, e2, .inr e3, e4⟩
          obtain ⟨p, vs, rfl, s1, z⟩ := key
          rw [toS_ok ey z] at s1
          exact mtAt mt_join ⟨a, p, ys, rfl, rfl, by rw [hK]; exact s1, hl, po.at rh _ rfl (.of rfl)⟩
        · exact po.elim
      · exact po.elim
    · exact po.elim
  · exact po.elim
theorem RVs.strs (ys : List Str) : RVs g μ H (ys.map D.str) (ys.map V.str) := by
  induction ys with
  | nil => rfl
  | cons y ys ih => exact ⟨_, _, rfl, rfl, rfl, ih⟩
theorem sm_split : SM1 g X Wx "str.split" splitW := by
  intro x y h σ H μ vx vy Q rh qx qy po
  unfold splitW at po
  split at po
  · rename_i a b
    split at po
    · rename_i hl
      rw [show vx = .str a from qx, show vy = .str b from qy]
      refine mtAt mt_split ⟨a, b, rfl, rfl, hl.1, hl.2.1, fun p np => ?_⟩
      exact po μ _ (.new rh.trk np) (rh.new np) _ (.newL rh np (RVs.strs _)) fun c ec => by cases ec; exact np
    · exact po.elim
  · exact po.elim
theorem mt_get1 (hu : X.A.units + 1 < cLine) : MtR X "dict.get" (fun x xs H Q => ∃ a y o, x = .ref a ∧ xs = [y] ∧ DGet H a y o ∧ Q (o.getD .non) H) := by
  intro pins s σ H x xs v us Q I rx rs h
  obtain ⟨a, y, o, rfl, rfl, gt, q⟩ := h
  cases rx
  obtain ⟨u, rfl, ry⟩ := vals1 rs
  exact d_get1 hu I gt ry fun w' s' I' r' => ⟨_, H, I', r', q⟩
theorem mt_get2 (hu : X.A.units + 1 < cLine) : MtR X "dict.get" (fun x xs H Q => ∃ a y d o, x = .ref a ∧ xs = [y, d] ∧ DGet H a y o ∧ Q (o.getD d) H) := by
  intro pins s σ H x xs v us Q I rx rs h
  obtain ⟨a, y, d, o, rfl, rfl, gt, q⟩ := h
  cases rx
  obtain ⟨u, u2, rfl, ry, rd⟩ := vals2 rs
  exact d_get2 hu I gt ry rd fun w' s' I' r' => ⟨_, H, I', r', q⟩
theorem sm_get1 (hu : X.A.units + 1 < cLine) : SM1 g X Wx "dict.get" get1W := by
  intro x y h σ H μ vx vy Q rh qx qy po
  unfold get1W at po
  split at po
  · rename_i o eo
    obtain ⟨a, r, e1, _, e2, e3⟩ := dget_ok rh qx qy eo
    refine mtAt (mt_get1 hu) ⟨a, vy, r, e1, rfl, e2, ?_⟩
    cases o with
    | none => rw [show r = none from e3]; exact po.at rh _ rfl (.of rfl)
    | some w => obtain ⟨v, rfl, nt, q⟩ := e3; exact po.at rh _ q (.of nt)
  · exact po.elim
theorem sm_get2 (hu : X.A.units + 1 < cLine) : SM2 g X Wx "dict.get" get2W := by
  intro x y z h σ H μ vx vy vz Q rh qx qy qz po
  unfold get2W at po
  split at po
  · rename_i o eo
    split at po
    · rename_i nz
      obtain ⟨a, r, e1, _, e2, e3⟩ := dget_ok rh qx qy eo
      refine mtAt (mt_get2 hu) ⟨a, vy, vz, r, e1, rfl, e2, ?_⟩
      cases o with
      | none => rw [show r = none from e3]; exact po.at rh _ qz (.of nz)
      | some w => obtain ⟨v, rfl, nt, q⟩ := e3; exact po.at rh _ q (.of nt)
    · exact po.elim
  · exact po.elim
theorem sm_insert : SM2 g X Wx "list.insert" insertW := by
  intro x y z h σ H μ vx vy vz Q rh qx qy qz po
  unfold insertW at po
  split at po
  · rename_i i ws e
    split at po
    · rename_i n
      split at po
      · rename_i hn
        obtain ⟨h1, h2, h3, h4⟩ := hn
        obtain ⟨a, vs, rfl, ea, ha, zz⟩ := lstAt_ok rh qx e
        have z2 : RVs g μ H (ws.take n.toNat ++ z :: ws.drop n.toNat) (vs.take n.toNat ++ vz :: vs.drop n.toNat) := (zz.take _).append ⟨vz, _, rfl, h4, qz, zz.drop _⟩
        obtain ⟨x1, r1⟩ := wrL rh ea z2
        rw [show vy = .int n from qy]
        refine mtAt mt_insert ⟨a, vs, n, vz, rfl, rfl, ha, by rw [zz.length]; exact h1, h2, h3, ?_⟩
        have q := po μ _ x1 r1 _ rfl (.of rfl)
        first | exact q | simpa using q
      · exact po.elim
    · exact po.elim
  · exact po.elim
end
end PV
end
section
/-! PVA9: enumerate of a tuple. -/
namespace PySem
open Sem (wp)
open AutoSeq1 (wpAny_loadPart')
theorem pv_meets_enumerate_newT (l : Addr) (items : Array Value) (n : Nat) (dct : Option Addr) (sl : Array (Option Value)) :
    Meets (Builtin.«enumerate.__new__» ⟨[.type "enumerate", .ref l], []⟩) (fun _ R s => s.heap.get? l = some { cls := .type "tuple", dict := dct, data := .seq items n, slots := sl } ∧
      R (.ok (.ret (.ref (s.heap.push { cls := .type "tuple_iterator", data := .fields #[.ref l, .int 0 0] }).objs.size)))
        { s with heap := (s.heap.push { cls := .type "tuple_iterator", data := .fields #[.ref l, .int 0 0] }).push { cls := .type "enumerate", data := .fields #[.none, .bool false, .ref s.heap.objs.size, rawInt 0, .none, .none] } }) :=
  .of_wp fun prog w A R s h => by
    obtain ⟨hp, g, d, tk, os⟩ := s; obtain ⟨hl, h⟩ := h
    have hsub := sub_enumerate
    have hL : Heap.IsTuple (Shared.heap ⟨hp, g, d, tk, os⟩) l items := ⟨_, hl, rfl, n, rfl⟩
    wp_walk using wpAny_loadPart' hl
    refine wpAny_stack_any fun st => wpAny_pure ?_
    split
    · rename_i c _ _ _ _ _
      cases (c == Value.type "enumerate")
      · wp_walk using wpAny_loadPart' hl, wpAny_pyIter_tuple hL
        exact ⟨_, rfl, h⟩
      · wp_walk using wpAny_loadPart' hl, wpAny_pyIter_tuple hL
        exact ⟨_, rfl, h⟩
    · wp_walk using wpAny_loadPart' hl, wpAny_pyIter_tuple hL
      exact ⟨_, rfl, h⟩
theorem pv_call_enumerate_tuple {prog : Program} {w : World} {A : Around} {E : Value → Shared → Prop} {s : Shared} {l : Addr} {items : Array Value} {Q : Value → Shared → Prop} (hL : s.heap.IsTuple l items)
    (h : ∀ h', IsEnum h' (s.heap.objs.size + 1) s.heap.objs.size 0 .none → h'.IsTupleIter s.heap.objs.size l 0 → h'.objs.size = s.heap.objs.size + 2 →
      (∀ b o, s.heap.get? b = some o → h'.get? b = some o) → Q (.ref (s.heap.objs.size + 1)) { s with heap := h' }) :
    wpAny (model prog w) A (call (.type "enumerate") [.ref l]) Q E s := by
  obtain ⟨⟨c, dct, dt, sl⟩, hl, hc, n, hd⟩ := hL
  replace hc : c = .type "tuple" := hc
  replace hd : dt = .seq items n := hd
  subst hc hd
  refine callType_new F.called_enumerate (by decide) (F.typeCall_enumerate_1 _) (F.newCall_enumerate_1 _) (fun obj => F.args_object_init_2 obj _) F.entry_enumerate_new
    (pv_meets_enumerate_newT l items n dct sl) ⟨hl, ?_⟩
  have hz : (s.heap.push { cls := .type "tuple_iterator", data := .fields #[.ref l, .int 0 0] }).objs.size = s.heap.objs.size + 1 := Heap.size_push ..
  show _ ∧ _
  rw [hz]
  have he : IsEnum ((s.heap.push { cls := .type "tuple_iterator", data := .fields #[.ref l, .int 0 0] }).push
      { cls := .type "enumerate", data := .fields #[.none, .bool false, .ref s.heap.objs.size, rawInt 0, .none, .none] }) (s.heap.objs.size + 1) s.heap.objs.size 0 .none := by
    have := Heap.get?_push_size (s.heap.push { cls := .type "tuple_iterator", data := .fields #[.ref l, .int 0 0] })
      (o := { cls := .type "enumerate", data := .fields #[.none, .bool false, .ref s.heap.objs.size, rawInt 0, .none, .none] }) rfl
    rw [hz] at this; exact this
  refine ⟨⟨_, he, rfl⟩, h _ he ⟨_, Heap.get?_push_of_some _ (Heap.get?_push_size _ rfl), rfl, rfl⟩ (by rw [Heap.size_push, hz]) fun b o x => Heap.get?_push_of_some _ (Heap.get?_push_of_some _ x)⟩
end PySem

namespace PV
open PySem PySem.Spec PyProof.Rows L2
/-- the tuple at a, each item in a new pair -/
def IteT (K : PySem.W.Frag) (a : Addr) : It :=
  ⟨fun i H => ∃ (xs : List V) (x : V), SqT K H a xs ∧ xs[i]? = some x, fun i H v H' => ∃ T x, v = .ref T ∧ H T = none ∧ H' = upd H T (.tup [.int (i : Nat), x]) ∧ ∀ xs, SqT K H a xs → xs[i]? = some x, fun i H => ∃ xs : List V, SqT K H a xs ∧ xs.length ≤ i⟩
theorem turn_enumT {P : Program} {w : World} {K : PySem.W.Frag} {elts : List Expr} {kk : Nat} {tpos : Pos} (a e it : Addr) (items : Array Value) :
    Turn P w K (.Tuple elts kk tpos) (IteT K a) [e, it] e (fun i h => (∃ old, IsEnum h e it ((i : Nat) : Int) old) ∧ h.IsTupleIter it a i ∧ e ≠ it) where
  mem := by simp
  obj := fun i h st b hb => by
    obtain ⟨⟨old, he⟩, ⟨o, ho, hc, hd⟩, _⟩ := st
    have e' : b = e ∨ b = it := by simpa using hb
    rcases e' with z | z
    · rw [z]; exact ⟨_, he, fun v q => nomatch q⟩
    · rw [z]; exact ⟨o, ho, fun v q => by rw [hd] at q; cases q⟩
  keep := fun i h h' st k => let ⟨⟨old, he⟩, hi, hne⟩ := st; ⟨⟨old, k e (by simp) _ he⟩, hi.at fun o q => k it (by simp) o q, hne⟩
  item := by
    intro X hP hw hK hc i pins s σ H E I hf st hg
    subst hP hw hK
    obtain ⟨⟨old, he⟩, hit, hne⟩ := st
    obtain ⟨xs, x, hq, hx⟩ := hg
    obtain ⟨its, rv, p, hz⟩ := I.tuple hq
    obtain ⟨u, hu, ru⟩ := rv.get hx
    have hel : e < s.heap.objs.size := Heap.lt_size he
    have hil : it < s.heap.objs.size := by obtain ⟨_, q, _⟩ := hit; exact Heap.lt_size q
    have pt : s.heap.IsTuple a its.toArray := p
    have nt : a ≠ it := fun z => by
      obtain ⟨o, e1, c1, _⟩ := pt
      obtain ⟨o2, e2, c2, _⟩ := hit
      rw [z] at e1
      rw [e1] at e2; cases e2
      rw [c1] at c2
      exact absurd (Value.type.inj c2) (by decide)
    have ne : a ≠ e := fun z => by
      obtain ⟨o, e1, c1, _⟩ := pt
      rw [z] at e1
      have he2 : s.heap.get? e = some _ := he
      rw [he2] at e1; cases e1
      exact absurd (Value.type.inj c1) (by decide)
    have hlt : i < its.toArray.size := by
      have := (List.getElem?_eq_some_iff.mp hu).1
      simpa using this
    refine wpAny_pyNext_enum_itemD (Draws.tuple (prog := X.prog) (w := X.w) (A := X.A.in1) (I.ok.hd hc) it a nt its.toArray) he ⟨hit, pt⟩ hlt hne (by simp [hne, Ne.symm ne]) fun u' h' tk hu' ho hst hT hsz hk => ?_
    have eu : u' = u := by
      have z : its.toArray[i]? = some u := by simpa using hu
      rw [hu'] at z; exact Option.some.inj z
    subst eu
    refine ⟨_, rfl, wpAny_letOwnedTupleGo_enum (s := { s with heap := h', toks := tk + 1 }) ho fun h'' he' sb => ?_⟩
    have hT2 : h''.get? s.heap.objs.size = some { cls := .type "tuple", data := .seq #[.int i tk, u'] } := (sb.2 _ (Nat.ne_of_gt hel)).trans hT
    have new : ObjOk X.prog X.w (upd H s.heap.objs.size (.tup [.int (i : Nat), x])) h'' s.heap.objs.size (.tup [.int (i : Nat), x]) :=
      ⟨by show 2 ≤ sizeLine; decide, [.int i tk, u'], .cons ⟨_, rfl⟩ (.cons ru .nil), ⟨_, hT2, rfl, _, rfl⟩⟩
    have I1 : Inv X pins σ (upd H s.heap.objs.size (.tup [.int (i : Nat), x])) { s with heap := h'', toks := tk + 1 } :=
      I.turnedNew (ch := [e, it]) (fun b ob hb q => (sb.2 b (fun z => hb (by simp [z]))).trans (hk b ob (fun z => hb (by simp [z])) (fun z => hb (by simp [z])) q)) hf (Nat.le_refl _) new
    refine ⟨.ref s.heap.objs.size, _, I1, rfl, ⟨_, x, rfl, I.hok.fresh (Nat.le_refl _), rfl, fun ys hy => by rw [I.tuple_inj hy hq]; exact hx⟩, ⟨⟨u', ?_⟩, hst.1.at fun o q => (sb.2 it (Ne.symm hne)).trans q, hne⟩, fun b hb => ?_⟩
    · have e1 : ((i + 1 : Nat) : Int) = (i : Int) + 1 := by omega
      rw [e1]; exact he'
    · have hb' : b < s.heap.objs.size := by
        have e' : b = e ∨ b = it := by simpa using hb
        rcases e' with z | z
        · rw [z]; exact hel
        · rw [z]; exact hil
      rw [upd_ne (Nat.ne_of_lt hb')]
      exact (hf b hb).1
  done := by
    intro X hP hw hK hc i pins s σ H E I hf st hg
    subst hP hw hK
    obtain ⟨⟨old, he⟩, hit, hne⟩ := st
    obtain ⟨xs, hq, hx⟩ := hg
    obtain ⟨its, rv, p, hz⟩ := I.tuple hq
    obtain ⟨f0, f1, f2, f3, f4, f5⟩ := hf it (by simp)
    have hl := rv.length
    have pt : s.heap.IsTuple a its.toArray := p
    have hT : s.TypeIs (.ref e) "enumerate" := ⟨_, he, rfl⟩
    unfold pyNext
    refine wpAny_bind (wpAny_attempt (wpAny_callSpecial?_slot (name := Str.ofString "__next__") hT F.slot_enumerate_next
      (wpAny_call_entry F.slot_enumerate_next hT F.entry_enumerate_next ?_ (F.args_enumerate_next_1 _))))
    show wpAny _ _ (field (.ref e) 2 >>= _) _ _ _
    refine wpAny_bind (wpAny_field he rfl (x := .ref it) rfl ?_)
    refine wpAny_bind (wpAny_nextOf_tuple_end (A := X.A.in1) (I.ok.hd hc) hit pt (by simp; omega) fun h' x he' hx' => ?_)
    obtain ⟨o, ho, hc'⟩ := hx'
    refine wpAny_bind (wpAny_isInstance (T := "StopIteration") (b := true) ⟨o, ho, hc'⟩ isSubtype_stop ?_)
    exact wpAny_pure ⟨rfl, I.turned (t' := s.toks) (fun b o hb q => he' b o hb q) f0 f1 f3 f4 f5⟩
  self := fun A i s Q E st h => let ⟨⟨_, he⟩, _⟩ := st; wpAny_pyIter_enum he h
def iEnumT (K : PySem.W.Frag) (ta : TA) : TI := fun σ H R => ta σ H fun vs H1 => ∃ a xs, vs = [.ref a] ∧ SqT K H1 a xs ∧ R (IteT K a) H1
theorem pi_enumT {X : Cx} {e : Expr} {ta : TA} {p pos tpos : Pos} {elts : List Expr} {kk : Nat} (hg : Gl X "enumerate") (hm : X.mg "enumerate" = none) (ha : PA X [e] ta) (hs : starEach [e] X.env = [(false, eval e X.env)]) :
    PI X (.Tuple elts kk tpos) (.Call (.Name "enumerate" p) [e] [] pos) (iEnumT X.K ta) := by
  refine ⟨fun pins s σ H R I h => ?_⟩
  refine Call_ (ld_blt I hg hm boot_enumerate (PyProof.Rows.callWith_type1 (thn (ha.run pos pins s σ H _ I h) fun us s1 ⟨vs, H1, I1, r1, q1⟩ => ?_) hs rfl))
  obtain ⟨a, xs, ex, hq, q⟩ := q1
  subst ex
  cases r1 with
  | cons r rr =>
    cases rr
    cases r
    obtain ⟨its, rv, p', hz⟩ := I1.tuple hq
    refine pv_call_enumerate_tuple (show s1.heap.IsTuple a its.toArray from p') fun h' he hit hsz hk => wpAny_pyIter_enum he ?_
    have I2 : Inv X pins σ H1 { s1 with heap := h' } := I1.kept (t' := s1.toks) hk
    refine ⟨s1.heap.objs.size + 1, [s1.heap.objs.size + 1, s1.heap.objs.size], _, _, H1, rfl, I2, turn_enumT a (s1.heap.objs.size + 1) s1.heap.objs.size its.toArray, ⟨⟨.none, he⟩, hit, Nat.succ_ne_self _⟩, fun b hb => ?_, q⟩
    have e' : b = s1.heap.objs.size + 1 ∨ b = s1.heap.objs.size := by simpa using hb
    have hle : s1.heap.objs.size ≤ b := by
      rcases e' with z | z
      · rw [z]; exact Nat.le_add_right _ _
      · rw [z]; exact Nat.le_refl _
    exact I1.fpOk hle (I1.hok.fresh hle)
end PV
end
section
/-! PVA10: statements, targets, loops. -/
namespace PV
open PySem PySem.Spec PyProof.Rows L2

inductive RT where
  | nx (σ : Sg) (h : Hh) | ret (w : D) (h : Hh) | brk (σ : Sg) (h : Hh) | cont (σ : Sg) (h : Hh)
  | exc (c : Nat) (fs : List (Str × D)) (σ : Sg) (h : Hh) | bad
  deriving Inhabited
abbrev MS := Sg → Hh → RT
/-- an expression's result, then a statement's -/
def R.then {α : Type} (r : R α) (σ : Sg) (f : α → Hh → RT) : RT := match r with
  | .ok a h => f a h
  | .exc c fs h => .exc c fs σ h
  | .bad => .bad
def RT.seq (r : RT) (f : Sg → Hh → RT) : RT := match r with
  | .nx σ h => f σ h
  | r => r
@[simp] theorem R.then_ok {α : Type} (a : α) (h : Hh) (σ : Sg) (f : α → Hh → RT) : (R.ok a h).then σ f = f a h := id rfl
@[simp] theorem R.then_exc {α : Type} (c : Nat) (fs : List (Str × D)) (h : Hh) (σ : Sg) (f : α → Hh → RT) : (R.exc c fs h : R α).then σ f = .exc c fs σ h := id rfl
@[simp] theorem R.then_bad {α : Type} (σ : Sg) (f : α → Hh → RT) : (R.bad : R α).then σ f = .bad := id rfl
@[simp] theorem RT.seq_nx (σ : Sg) (h : Hh) (f : Sg → Hh → RT) : (RT.nx σ h).seq f = f σ h := id rfl
@[simp] theorem RT.seq_ret (w : D) (h : Hh) (f : Sg → Hh → RT) : (RT.ret w h).seq f = .ret w h := id rfl
@[simp] theorem RT.seq_brk (σ : Sg) (h : Hh) (f : Sg → Hh → RT) : (RT.brk σ h).seq f = .brk σ h := id rfl
@[simp] theorem RT.seq_cont (σ : Sg) (h : Hh) (f : Sg → Hh → RT) : (RT.cont σ h).seq f = .cont σ h := id rfl
@[simp] theorem RT.seq_exc (c : Nat) (fs : List (Str × D)) (σ : Sg) (h : Hh) (f : Sg → Hh → RT) : (RT.exc c fs σ h).seq f = .exc c fs σ h := id rfl
@[simp] theorem RT.seq_bad (f : Sg → Hh → RT) : RT.bad.seq f = .bad := id rfl

def PoS (g : Gx) (Wx : WX) (μ : List Addr) (H : Hp) (r : RT) (E : Ends) : Prop := match r with
  | .nx σw h' => ∀ μ' H' σ', Ext μ H μ' H' → RH g μ' h' H' → RS g μ' H' σw σ' → E.nx σ' H'
  | .ret w h' => ∀ μ' H' v, Ext μ H μ' H' → RH g μ' h' H' → RV g μ' H' w v → Fr H w v → E.rt v H'
  | .brk σw h' => ∀ μ' H' σ', Ext μ H μ' H' → RH g μ' h' H' → RS g μ' H' σw σ' → E.bk σ' H'
  | .cont σw h' => ∀ μ' H' σ', Ext μ H μ' H' → RH g μ' h' H' → RS g μ' H' σw σ' → E.ct σ' H'
  | .exc c fs σw h' => ∀ μ' H' σ' cv d, Ext μ H μ' H' → RH g μ' h' H' → RS g μ' H' σw σ' → XV g μ' H' c fs cv d → Wx cv d σ' H'
  | .bad => False
section
variable {g : Gx} {Wx : WX} {μ μ' : List Addr} {H H' : Hp} {r : RT} {E E' : Ends}
theorem PoS.ext (p : PoS g Wx μ H r E) (x : Ext μ H μ' H') : PoS g Wx μ' H' r E := by
  cases r with
  | nx σ h => exact fun μ2 H2 σ2 x2 r2 s2 => p μ2 H2 σ2 (x.trans x2) r2 s2
  | ret w h => exact fun μ2 H2 v x2 r2 q2 f2 => p μ2 H2 v (x.trans x2) r2 q2 (f2.back x)
  | brk σ h => exact fun μ2 H2 σ2 x2 r2 s2 => p μ2 H2 σ2 (x.trans x2) r2 s2
  | cont σ h => exact fun μ2 H2 σ2 x2 r2 s2 => p μ2 H2 σ2 (x.trans x2) r2 s2
  | exc c fs σ h => exact fun μ2 H2 σ2 cv d x2 r2 s2 v2 => p μ2 H2 σ2 cv d (x.trans x2) r2 s2 v2
  | bad => exact p
/-- from a statement's wish to an expression's -/
theorem PoS.then {α : Type} {r : R α} {σw : Sg} {σ : L2.St} {h : Hh} {f : α → Hh → RT} (rs : RS g μ H σw σ) (rh : RH g μ h H) (p : PoS g Wx μ H (r.then σw f) E) :
    Po g Wx σ μ H r fun a h1 μ1 H1 => ∀ μ2 H2, Ext μ H μ2 H2 → PoS g Wx μ2 H2 (f a h1) E := by
  cases r with
  | ok a h1 => exact fun _ _ _ _ μ2 H2 x2 => PoS.ext (r := f a h1) p x2
  | exc c fs h1 => exact fun μ2 H2 cv d x2 r2 v2 => p μ2 H2 σ cv d x2 r2 (rs.ext rh.trk x2) v2
  | bad => exact p
theorem PoS.imp (p : PoS g Wx μ H r E) (h1 : ∀ σ H, E.nx σ H → E'.nx σ H) (h2 : ∀ v H, E.rt v H → E'.rt v H) (h3 : ∀ σ H, E.bk σ H → E'.bk σ H) (h4 : ∀ σ H, E.ct σ H → E'.ct σ H) : PoS g Wx μ H r E' := by
  cases r with
  | nx σ h => exact fun μ2 H2 σ2 x2 r2 s2 => h1 _ _ (p μ2 H2 σ2 x2 r2 s2)
  | ret w h => exact fun μ2 H2 v x2 r2 q2 f2 => h2 _ _ (p μ2 H2 v x2 r2 q2 f2)
  | brk σ h => exact fun μ2 H2 σ2 x2 r2 s2 => h3 _ _ (p μ2 H2 σ2 x2 r2 s2)
  | cont σ h => exact fun μ2 H2 σ2 x2 r2 s2 => h4 _ _ (p μ2 H2 σ2 x2 r2 s2)
  | exc c fs σ h => exact p
  | bad => exact p
end
def tOfS (X : Cx) (st : Stmt) : TS := fun E σ H => ∀ pins s, Inv X pins σ H s → wpAny (model X.prog X.w) X.A (exec st X.env) (SP X pins E) X.xe s
theorem ps_of {X : Cx} {st : Stmt} : PS X st (tOfS X st) := ⟨fun pins s σ H E I h => h pins s I⟩
theorem psAt {X : Cx} {st : Stmt} {t : TS} (p : PS X st t) {σ : L2.St} {H : Hp} {E : Ends} (h : t E σ H) : tOfS X st E σ H := fun pins s I => p.run pins s σ H E I h
def tOfL (X : Cx) (st : List Stmt) : TS := fun E σ H => ∀ pins s, Inv X pins σ H s → wpAny (model X.prog X.w) X.A (execs st X.env) (SP X pins E) X.xe s
theorem pss_of {X : Cx} {st : List Stmt} : PSs X st (tOfL X st) := ⟨fun pins s σ H E I h => h pins s I⟩
theorem pssAt {X : Cx} {st : List Stmt} {t : TS} (p : PSs X st t) {σ : L2.St} {H : Hp} {E : Ends} (h : t E σ H) : tOfL X st E σ H := fun pins s I => p.run pins s σ H E I h
section
variable (g : Gx) (X : Cx) (Wx : WX)
def SS (st : Stmt) (m : MS) : Prop := ∀ (σw : Sg) (h : Hh) (σ : L2.St) (H : Hp) (μ : List Addr) (E : Ends), RS g μ H σw σ → RH g μ h H → PoS g Wx μ H (m σw h) E → tOfS X st E σ H
def SL (st : List Stmt) (m : MS) : Prop := ∀ (σw : Sg) (h : Hh) (σ : L2.St) (H : Hp) (μ : List Addr) (E : Ends), RS g μ H σw σ → RH g μ h H → PoS g Wx μ H (m σw h) E → tOfL X st E σ H
end
def msNil : MS := fun σ h => .nx σ h
def msSeq (a b : MS) : MS := fun σ h => (a σ h).seq b
def msExpr (m : M D) : MS := fun σ h => (m σ h).then σ fun _ h1 => .nx σ h1
def msRet (m : M D) : MS := fun σ h => (m σ h).then σ fun w h1 => .ret w h1
def msIf (c : M Bool) (a b : MS) : MS := fun σ h => (c σ h).then σ fun x h1 => if x = true then a σ h1 else b σ h1
section
variable {g : Gx} {X : Cx} {Wx : WX} {st : Stmt} {rest a b : List Stmt} {e : Expr} {m m' : MS} {me : M D} {mc : M Bool} {pos : Pos}
theorem PoS.at {σw : Sg} {σ : L2.St} {h : Hh} {μ : List Addr} {H : Hp} {E : Ends} (p : PoS g Wx μ H (.nx σw h) E) (rh : RH g μ h H) (rs : RS g μ H σw σ) : E.nx σ H := p μ H σ (Ext.refl rh.trk) rh rs
theorem sl_nil : SL g X Wx [] msNil := fun σw h σ H μ E rs rh po => pssAt pss_nil (po.at rh rs)
theorem sl_cons (h1 : SS g X Wx st m) (h2 : SL g X Wx rest m') : SL g X Wx (st :: rest) (msSeq m m') := by
  intro σw h σ H μ E rs rh po
  refine pssAt (pss_cons ps_of pss_of) (h1 σw h σ H μ _ rs rh ?_)
  unfold msSeq at po
  cases hx : m σw h with
  | nx σ1 h1 =>
    rw [hx] at po
    intro μ1 H1 σ1' x1 r1 s1
    exact h2 σ1 h1 σ1' H1 μ1 E s1 r1 (PoS.ext (r := m' σ1 h1) po x1)
  | ret w h1 => rw [hx] at po; exact po
  | brk σ1 h1 => rw [hx] at po; exact po
  | cont σ1 h1 => rw [hx] at po; exact po
  | exc c fs σ1 h1 => rw [hx] at po; exact po
  | bad => rw [hx] at po; exact po
theorem sl_one (h1 : SS g X Wx st m) : SL g X Wx [st] m := fun σw h σ H μ E rs rh po => pssAt (pss_one ps_of) (h1 σw h σ H μ E rs rh po)
theorem ss_pass : SS g X Wx (.Pass pos) msNil := fun σw h σ H μ E rs rh po => psAt ps_pass (po.at rh rs)
theorem ss_break : SS g X Wx (.Break pos) (fun σ h => .brk σ h) := fun σw h σ H μ E rs rh po => psAt ps_break (po μ H σ (Ext.refl rh.trk) rh rs)
theorem ss_continue : SS g X Wx (.Continue pos) (fun σ h => .cont σ h) := fun σw h σ H μ E rs rh po => psAt ps_continue (po μ H σ (Ext.refl rh.trk) rh rs)
theorem ss_doc {x j pos pos'} : SS g X Wx (.Expr (.Constant (.str x) j pos) pos') msNil := fun σw h σ H μ E rs rh po => psAt ps_doc (po.at rh rs)
theorem ss_expr (he : SE g X Wx e me) (hs : swapsWith e none pos.line X.env = pure false) : SS g X Wx (.Expr e pos) (msExpr me) := by
  intro σw h σ H μ E rs rh po
  refine psAt (ps_expr pe_of hs) (he σw h σ H μ _ rs rh ((PoS.then rs rh po).imp fun w h1 μ1 H1 x1 r1 p1 v qv fv => ?_))
  exact (p1 μ1 H1 x1).at r1 (rs.ext rh.trk x1)
theorem ss_ret (he : SE g X Wx e me) : SS g X Wx (.Return (some e) pos) (msRet me) := by
  intro σw h σ H μ E rs rh po
  refine psAt (ps_ret pe_of) (he σw h σ H μ _ rs rh ?_)
  unfold msRet at po
  cases hx : me σw h with
  | ok w h1 => rw [hx] at po; exact fun μ1 H1 x1 r1 v qv fv => po μ1 H1 v x1 r1 qv fv
  | exc c fs h1 => rw [hx] at po; exact fun μ2 H2 cv d x2 r2 v2 => po μ2 H2 σ cv d x2 r2 (rs.ext rh.trk x2) v2
  | bad => rw [hx] at po; exact po.elim
theorem ss_retN : SS g X Wx (.Return none pos) (fun σ h => .ret .non h) := fun σw h σ H μ E rs rh po => psAt ps_retN (po μ H .non (Ext.refl rh.trk) rh rfl (.of rfl))
theorem ss_if (hc : ST g X Wx e mc) (ha : SL g X Wx a m) (hb : SL g X Wx b m') : SS g X Wx (.If e a b pos) (msIf mc m m') := by
  intro σw h σ H μ E rs rh po
  refine psAt (ps_if pt_of pss_of pss_of) (hc σw h σ H μ _ rs rh ((PoS.then rs rh po).imp fun x h1 μ1 H1 x1 r1 p1 => ?_))
  cases x with
  | true => exact ha σw h1 σ H1 μ1 E (rs.ext rh.trk x1) r1 (p1 μ1 H1 x1)
  | false => exact hb σw h1 σ H1 μ1 E (rs.ext rh.trk x1) r1 (p1 μ1 H1 x1)
end

/-! ### targets that are names -/
inductive Tg where
  | nm (i : Nat) | tu (ts : List Tg)
  deriving Inhabited
mutual
def Tg.set : Tg → D → Sg → Hh → Option Sg
  | .nm i, w, σ, _ => some (σ.set i (some w))
  | .tu ts, w, σ, h => match (match asT w with | some ws => some ws | none => asL h w) with
    | some ws => Tg.sets ts ws σ h
    | none => none
def Tg.sets : List Tg → List D → Sg → Hh → Option Sg
  | [], [], σ, _ => some σ
  | t :: ts, w :: ws, σ, h => match Tg.set t w σ h with
    | some σ1 => Tg.sets ts ws σ1 h
    | none => none
  | _, _, _, _ => none
end
mutual
def Tg.slots : Tg → List Nat
  | .nm i => [i]
  | .tu ts => Tg.slotss ts
def Tg.slotss : List Tg → List Nat
  | [] => []
  | t :: ts => Tg.slots t ++ Tg.slotss ts
end
def tOfG (X : Cx) (tg : Expr) : TG := fun v σ H Q => ∀ pins s u, Inv X pins σ H s → RelV v u → wpAny (model X.prog X.w) X.A (assign tg X.env u) (fun _ s' => ∃ σ' H', Inv X pins σ' H' s' ∧ Q σ' H') X.xe s
theorem pg_of {X : Cx} {tg : Expr} : PG X tg (tOfG X tg) := ⟨fun pins s σ H v u Q I r h => h pins s u I r⟩
theorem pgAt {X : Cx} {tg : Expr} {t : TG} (p : PG X tg t) {v : V} {σ : L2.St} {H : Hp} {Q : L2.St → Hp → Prop} (h : t v σ H Q) : tOfG X tg v σ H Q := fun pins s u I r => p.run pins s σ H v u Q I r h
def tOfGs (X : Cx) (tg : List Expr) : TGs := fun vs σ H Q => ∀ pins s us, Inv X pins σ H s → Vals vs us → wpAny (model X.prog X.w) X.A (assignInOrder ((assignEach tg X.env).map (·.2)) us) (fun _ s' => ∃ σ' H', Inv X pins σ' H' s' ∧ Q σ' H') X.xe s
theorem pgs_of {X : Cx} {tg : List Expr} : PGs X tg (tOfGs X tg) := ⟨fun pins s σ H vs us Q I r h => h pins s us I r⟩
theorem pgsAt {X : Cx} {tg : List Expr} {t : TGs} (p : PGs X tg t) {vs : List V} {σ : L2.St} {H : Hp} {Q : L2.St → Hp → Prop} (h : t vs σ H Q) : tOfGs X tg vs σ H Q := fun pins s us I r => p.run pins s σ H vs us Q I r h
/-- a target of names: it sets its own slots and nothing else -/
def SG (g : Gx) (X : Cx) (tg : Expr) (t : Tg) : Prop := ∀ (w : D) (v : V) (σw σw' : Sg) (h : Hh) (σ : L2.St) (H : Hp) (μ : List Addr) (Q : L2.St → Hp → Prop), RS g μ H σw σ → RH g μ h H → w.isTl = false → RV g μ H w v →
  t.set w σw h = some σw' → (∀ σ', RS g μ H σw' σ' → (∀ vs : List Nat, (∀ i ∈ t.slots, i ∈ vs) → wipe σ' vs = wipe σ vs) → Q σ' H) → tOfG X tg v σ H Q
def SGs (g : Gx) (X : Cx) (tg : List Expr) (ts : List Tg) : Prop := ∀ (ws : List D) (vs : List V) (σw σw' : Sg) (h : Hh) (σ : L2.St) (H : Hp) (μ : List Addr) (Q : L2.St → Hp → Prop), RS g μ H σw σ → RH g μ h H → RVs g μ H ws vs →
  Tg.sets ts ws σw h = some σw' → (∀ σ', RS g μ H σw' σ' → (∀ vs : List Nat, (∀ i ∈ Tg.slotss ts, i ∈ vs) → wipe σ' vs = wipe σ vs) → Q σ' H) → tOfGs X tg vs σ H Q
section
variable {g : Gx} {X : Cx} {pos : Pos}
theorem wipe_set (σ : L2.St) (i : Nat) (o : Option V) : ∀ vs : List Nat, i ∈ vs → wipe (σ.set i o) vs = wipe σ vs
  | [], h => by simp at h
  | v :: vs, h => by
    unfold wipe
    by_cases e : i ∈ vs
    · rw [wipe_set σ i o vs e]
    · have e1 : i = v := by
        rcases List.mem_cons.mp h with z | z
        · exact z
        · exact absurd z e
      subst e1
      apply List.ext_getElem?
      intro j
      by_cases hj : i = j
      · subst hj
        by_cases hl : i < σ.length
        · rw [List.getElem?_set_self (by rw [wipe_length, List.length_set]; exact hl), List.getElem?_set_self (by rw [wipe_length]; exact hl)]
        · rw [List.getElem?_eq_none (by rw [List.length_set, wipe_length, List.length_set]; omega), List.getElem?_eq_none (by rw [List.length_set, wipe_length]; omega)]
      · rw [List.getElem?_set_ne hj, List.getElem?_set_ne hj]
        -- away from i the two are alike
        have key : ∀ vs : List Nat, i ∉ vs → ∀ j, i ≠ j → (wipe (σ.set i o) vs)[j]? = (wipe σ vs)[j]? := by
          intro vs
          induction vs with
          | nil => intro _ j hj; exact List.getElem?_set_ne hj
          | cons v vs ih =>
            intro hn j hj
            unfold wipe
            have hn2 : i ∉ vs := fun z => hn (List.mem_cons_of_mem _ z)
            by_cases hv : v = j
            · subst hv
              by_cases hl : v < σ.length
              · rw [List.getElem?_set_self (by rw [wipe_length, List.length_set]; exact hl), List.getElem?_set_self (by rw [wipe_length]; exact hl)]
              · rw [List.getElem?_eq_none (by rw [List.length_set, wipe_length, List.length_set]; omega), List.getElem?_eq_none (by rw [List.length_set, wipe_length]; omega)]
            · rw [List.getElem?_set_ne hv, List.getElem?_set_ne hv]
              exact ih hn2 j hj
        exact key vs e j hj
theorem sg_name {i : Nat} {x : Str} (hN : X.N.Nodup) (hi : X.N[i]? = some x) (hx : Loc X.env.scope x) (hf : X.fn x = true ∨ X.env.scope.names.lookup x = some .local) : SG g X (.Name x pos) (.nm i) := by
  intro w v σw σw' h σ H μ Q rs rh nt q e k
  have e : some (σw.set i (some w)) = some σw' := by simpa [Tg.set] using e
  cases e
  exact pgAt (pg_name hN hi hx hf) (k _ (rs.set nt q i) fun vs hv => wipe_set _ _ _ _ (hv i (by simp [Tg.slots])))
theorem sgs_nil : SGs g X [] [] := by
  intro ws vs σw σw' h σ H μ Q rs rh q e k
  cases ws with
  | nil =>
    have e : some σw = some σw' := by simpa [Tg.sets] using e
    cases e
    rw [show vs = [] from q]
    exact pgsAt pgs_nil ⟨rfl, k σ rs fun _ _ => rfl⟩
  | cons _ _ => simp [Tg.sets] at e
theorem sgs_cons {e : Expr} {es : List Expr} {t : Tg} {ts : List Tg} (h1 : SG g X e t) (h2 : SGs g X es ts) (hs : (assignEach (e :: es) X.env).map (·.2) = assign e X.env :: (assignEach es X.env).map (·.2)) : SGs g X (e :: es) (t :: ts) := by
  intro ws vs σw σw' h σ H μ Q rs rh q e' k
  cases ws with
  | nil => simp [Tg.sets] at e'
  | cons w ws =>
    obtain ⟨v, rr, rfl, nt, qv, z⟩ := q
    simp only [Tg.sets] at e'
    split at e'
    · rename_i σ1 e1
      refine pgsAt (pgs_cons pg_of pgs_of hs) ⟨v, rr, rfl, ?_⟩
      refine h1 w v σw σ1 h σ H μ _ rs rh nt qv e1 fun σ' rs' w1 => ?_
      refine h2 ws rr σ1 σw' h σ' H μ _ rs' rh z e' fun σ2 rs2 w2 => ?_
      refine k σ2 rs2 fun vs hv => ?_
      rw [w2 vs fun i hi => hv i (by simp [Tg.slotss, hi]), w1 vs fun i hi => hv i (by simp [Tg.slotss, hi])]
    · cases e'
theorem sg_tup {es : List Expr} {k : Nat} {ts : List Tg} (hK : X.K = g.K) (hc : X.calm = true) (hs : SGs g X es ts) (hn : (assignEach es X.env).length = ts.length) (hst : (assignEach es X.env).findIdx? (·.1) = none) : SG g X (.Tuple es k pos) (.tu ts) := by
  intro w v σw σw' h σ H μ Q rs rh nt q e kk
  have len : ∀ {ts : List Tg} {ws : List D} {σ σ' : Sg}, Tg.sets ts ws σ h = some σ' → ws.length = ts.length := by
    intro ts
    induction ts with
    | nil => intro ws σ σ' e; cases ws with
      | nil => rfl
      | cons _ _ => simp [Tg.sets] at e
    | cons t ts ih => intro ws σ σ' e; cases ws with
      | nil => simp [Tg.sets] at e
      | cons w ws =>
        simp only [Tg.sets] at e
        split at e
        · rename_i σ1 e1; simp [ih e]
        · cases e
  simp only [Tg.set] at e
  split at e
  · rename_i ws ew
    split at ew
    · rename_i ws' e1
      cases ew
      obtain ⟨a, vs, rfl, s1, z⟩ := asT_ok q e1
      refine pgAt (pg_tup hc pgs_of hn hst) ⟨a, vs, rfl, by rw [hK]; exact s1, by rw [z.length]; exact len e, ?_⟩
      exact hs _ vs σw σw' h σ H μ Q rs rh z e fun σ' r' w' => kk σ' r' fun us hu => w' us fun i hi => hu i (by simpa [Tg.slots] using hi)
    · obtain ⟨a, vs, rfl, s1, z⟩ := asL_ok rh q ew
      refine pgAt (pg_lst hc pgs_of hn hst) ⟨a, vs, rfl, by rw [hK]; exact s1, by rw [z.length]; exact len e, ?_⟩
      exact hs _ vs σw σw' h σ H μ Q rs rh z e fun σ' r' w' => kk σ' r' fun us hu => w' us fun i hi => hu i (by simpa [Tg.slots] using hi)
  · cases e
end
end PV
end
section
/-! PVA11: assignments, stores, loops. -/
namespace PV
open PySem PySem.Spec PyProof.Rows L2

def msAsg (t : Tg) (m : M D) : MS := fun σ h => (m σ h).then σ fun w h1 => match t.set (stash w h1).1 σ (stash w h1).2 with
  | some σ1 => .nx σ1 (stash w h1).2
  | none => .bad
section
variable {g : Gx} {X : Cx} {Wx : WX} {e tg : Expr} {me : M D} {t : Tg} {pos : Pos}
theorem ss_asg (he : SE g X Wx e me) (hg : SG g X tg t) (hs : swapsWithSole [tg] e pos.line X.env = pure false) (hw : swappedStores [tg] e X.env = pure none) (h1 : (assignEach [tg] X.env).map (·.2) = [assign tg X.env]) :
    SS g X Wx (.Assign [tg] e pos) (msAsg t me) := by
  intro σw h σ H μ E rs rh po
  refine psAt (ps_asg pe_of pg_of hs hw h1) (he σw h σ H μ _ rs rh ((PoS.then rs rh po).imp fun w h1 μ1 H1 x1 r1 p1 v qv fv => ?_))
  obtain ⟨μ1', x1', r1', q1', _⟩ := stash_ok r1 qv fv x1
  have p2 := p1 μ1' H1 x1'
  split at p2
  · rename_i σ2 e2
    exact hg _ v σw σ2 _ σ H1 μ1' _ (rs.ext rh.trk x1') r1' stash_isTl q1' e2 fun σ' rs' _ => p2.at r1' rs'
  · exact p2.elim
/-- a, b = x, y with plain local names -/
theorem ss_par {i j : Nat} {x y : Str} {a b : Expr} {ma mb : M D} {px py pt : Pos} {kt k2 pt2} (hc : X.calm = true) (hN : X.N.Nodup) (hi : X.N[i]? = some x) (hj : X.N[j]? = some y) (hij : i ≠ j)
    (hx : X.env.scope.names.lookup x = some .local) (hy : X.env.scope.names.lookup y = some .local) (ha : SA g X Wx [a, b] (mArgs [ma, mb]))
    (hw : swappedStores [.Tuple [.Name x px, .Name y py] kt pt] (.Tuple [a, b] k2 pt2) X.env = pure (some [x, y]))
    (hs : swapsWithSole [.Tuple [.Name x px, .Name y py] kt pt] (.Tuple [a, b] k2 pt2) pos.line X.env = pure false) :
    SS g X Wx (.Assign [.Tuple [.Name x px, .Name y py] kt pt] (.Tuple [a, b] k2 pt2) pos) (msAsg (.tu [.nm i, .nm j]) (mTup (mArgs [ma, mb]))) := by
  intro σw h σ H μ E rs rh po
  refine psAt (ps_par hc hN hi hj hij hx hy pa_of hw hs) (ha σw h σ H μ _ rs rh ?_)
  unfold msAsg mTup at po
  cases hx : mArgs [ma, mb] σw h with
  | bad => rw [hx] at po; exact po.elim
  | exc c fs h1 => rw [hx] at po; exact fun μ2 H2 cv d x2 r2 v2 => po μ2 H2 σ cv d x2 r2 (rs.ext rh.trk x2) v2
  | ok ws h1 =>
    rw [hx] at po
    intro μ1 H1 x1 r1 vs qs
    rw [R.bind_ok] at po
    split at po
    · rw [R.then_ok] at po
      simp only [stash] at po
      have len : ws.length = 2 := by
        have : ∀ {σw h} , mArgs [ma, mb] σw h = .ok ws h1 → ws.length = 2 := by
          intro σw h e
          simp only [mArgs] at e
          cases h2 : ma σw h with
          | bad => rw [h2] at e; cases e
          | exc _ _ _ => rw [h2] at e; cases e
          | ok w2 hh2 =>
            rw [h2, R.bind_ok] at e
            cases h3 : mb σw (stash w2 hh2).2 with
            | bad => rw [h3] at e; cases e
            | exc _ _ _ => rw [h3] at e; cases e
            | ok w3 hh3 => rw [h3] at e; simp only [R.bind_ok] at e; cases e; rfl
        exact this hx
      match ws, len, qs with
      | [w1, w2], _, qs =>
        obtain ⟨v1, r1', rfl, n1, q1, v2, r2', rfl, n2, q2, e3⟩ := qs
        rw [show r2' = [] from e3]
        simp only [Tg.set, asT, Tg.sets] at po
        exact ⟨v1, v2, rfl, po μ1 H1 _ x1 r1 (((rs.ext rh.trk x1).set n1 q1 i).set n2 q2 j)⟩
    · exact po.elim
theorem mArgs_len : ∀ {ms : List (M D)} {σw : Sg} {h h1 : Hh} {ws : List D}, mArgs ms σw h = .ok ws h1 → ws.length = ms.length
  | [], σw, h, h1, ws, e => by simp only [mArgs] at e; cases e; rfl
  | m :: ms, σw, h, h1, ws, e => by
    simp only [mArgs] at e
    cases h2 : m σw h with
    | bad => rw [h2] at e; cases e
    | exc _ _ _ => rw [h2] at e; cases e
    | ok w2 hh2 =>
      rw [h2, R.bind_ok] at e
      cases h3 : mArgs ms σw (stash w2 hh2).2 with
      | bad => rw [h3] at e; cases e
      | exc _ _ _ => rw [h3] at e; cases e
      | ok w3 hh3 =>
        rw [h3] at e
        simp only [R.bind_ok] at e
        cases e
        simp [mArgs_len h3]
theorem ss_par3 {i j l : Nat} {x y z : Str} {a b c : Expr} {ma mb mc : M D} {px py pz pt : Pos} {kt k2 pt2} (hc : X.calm = true) (hN : X.N.Nodup) (hi : X.N[i]? = some x) (hj : X.N[j]? = some y) (hl : X.N[l]? = some z) (hij : i ≠ j) (hil : i ≠ l) (hjl : j ≠ l)
    (hx : X.env.scope.names.lookup x = some .local) (hy : X.env.scope.names.lookup y = some .local) (hz : X.env.scope.names.lookup z = some .local) (ha : SA g X Wx [a, b, c] (mArgs [ma, mb, mc]))
    (hw : swappedStores [.Tuple [.Name x px, .Name y py, .Name z pz] kt pt] (.Tuple [a, b, c] k2 pt2) X.env = pure (some [x, y, z]))
    (hs : swapsWithSole [.Tuple [.Name x px, .Name y py, .Name z pz] kt pt] (.Tuple [a, b, c] k2 pt2) pos.line X.env = pure false) :
    SS g X Wx (.Assign [.Tuple [.Name x px, .Name y py, .Name z pz] kt pt] (.Tuple [a, b, c] k2 pt2) pos) (msAsg (.tu [.nm i, .nm j, .nm l]) (mTup (mArgs [ma, mb, mc]))) := by
  intro σw h σ H μ E rs rh po
  refine psAt (ps_par3 hc hN hi hj hl hij hil hjl hx hy hz pa_of hw hs) (ha σw h σ H μ _ rs rh ?_)
  unfold msAsg mTup at po
  cases hx : mArgs [ma, mb, mc] σw h with
  | bad => rw [hx] at po; exact po.elim
  | exc c fs h1 => rw [hx] at po; exact fun μ2 H2 cv d x2 r2 v2 => po μ2 H2 σ cv d x2 r2 (rs.ext rh.trk x2) v2
  | ok ws h1 =>
    rw [hx] at po
    intro μ1 H1 x1 r1 vs qs
    rw [R.bind_ok] at po
    split at po
    · rw [R.then_ok] at po
      simp only [stash] at po
      have len : ws.length = 3 := mArgs_len hx
      match ws, len, qs with
      | [w1, w2, w3], _, qs =>
        obtain ⟨v1, r1', rfl, n1, q1, v2, r2', rfl, n2, q2, v3, r3', rfl, n3, q3, e3⟩ := qs
        rw [show r3' = [] from e3]
        simp only [Tg.set, asT, Tg.sets] at po
        exact ⟨v1, v2, v3, rfl, po μ1 H1 _ x1 r1 ((((rs.ext rh.trk x1).set n1 q1 i).set n2 q2 j).set n3 q3 l)⟩
    · exact po.elim
end

/-! ### stores through a subscript -/
def putD {κ : Type} [DecidableEq κ] (kvs : List (κ × D)) (k : κ) (w : D) : List (κ × D) :=
  if kvs.any (fun kv => decide (kv.1 = k)) then kvs.map (fun kv => if kv.1 = k then (kv.1, w) else kv) else kvs ++ [(k, w)]
def setW (x y w : D) (h : Hh) : Option Hh := match lstAt h x with
  | some (i, ws) => match y with
    | .int k => match ixN ws.length k with
      | some j => if w.isTl = false then some (h.set i (.lst (ws.set j w))) else none
      | none => none
    | _ => none
  | none => match x with
    | .ref i => match h[i]? with
      | some (.dK kvs) => match toK y with
        | some k => if kvs.length < sizeLine ∧ w.isTl = false then some (h.set i (.dK (putD kvs k w))) else none
        | none => none
      | some (.dT kvs) => match y with
        | .tup ks => match mapO toK ks with
          | some ks => if kvs.length < sizeLine ∧ w.isTl = false then some (h.set i (.dT (putD kvs ks w))) else none
          | none => none
        | _ => none
      | _ => none
    | _ => none
def psetOf (X : Cx) : TSet := fun o i v H Q => ∀ pins s σ ov iv u, Inv X pins σ H s → RelV o ov → RelV i iv → RelV v u → wpAny (model X.prog X.w) X.A (setItem ov iv u) (fun _ s' => ∃ H', Inv X pins σ H' s' ∧ Q H') X.xe s
theorem pset_of {X : Cx} : PSet X (psetOf X) := fun pins s σ H o i v ov iv u Q I ro ri rv h => h pins s σ ov iv u I ro ri rv
theorem psetAt {X : Cx} {t : TSet} (p : PSet X t) {o i v : V} {H : Hp} {Q : Hp → Prop} (h : t o i v H Q) : psetOf X o i v H Q := fun pins s σ ov iv u I ro ri rv => p pins s σ H o i v ov iv u Q I ro ri rv h
section
variable {g : Gx} {X : Cx} {Wx : WX} {μ : List Addr} {h : Hh} {H : Hp}
theorem RKs.any {κ : Type} [DecidableEq κ] {kvs : List (κ × D)} {vs : List (κ × V)} (r : RKs g μ H kvs vs) (k : κ) : kvs.any (fun kv => decide (kv.1 = k)) = vs.any (fun kv => decide (kv.1 = k)) := by
  induction kvs generalizing vs with
  | nil => rw [show vs = [] from r]; rfl
  | cons p kvs ih => obtain ⟨v, rr, rfl, _, _, z⟩ := r; simp [ih z]
theorem RKs.append {κ : Type} {a b : List (κ × D)} {c d : List (κ × V)} (r : RKs g μ H a c) (s : RKs g μ H b d) : RKs g μ H (a ++ b) (c ++ d) := by
  induction a generalizing c with
  | nil => rw [show c = [] from r]; exact s
  | cons p a ih => obtain ⟨v, rr, rfl, n, q, z⟩ := r; exact ⟨v, _, rfl, n, q, ih z⟩
theorem RKs.length {κ : Type} {kvs : List (κ × D)} {vs : List (κ × V)} (r : RKs g μ H kvs vs) : vs.length = kvs.length := by
  induction kvs generalizing vs with
  | nil => rw [show vs = [] from r]; rfl
  | cons p kvs ih => obtain ⟨v, rr, rfl, _, _, z⟩ := r; simp [ih z]
theorem RKs.repl {κ : Type} [DecidableEq κ] (k : κ) {w : D} {v : V} (nt : w.isTl = false) (q : RV g μ H w v) : ∀ {kvs : List (κ × D)} {vs : List (κ × V)}, RKs g μ H kvs vs →
    RKs g μ H (kvs.map fun kv => if kv.1 = k then (kv.1, w) else kv) (vs.map fun kv => if kv.1 = k then (kv.1, v) else kv)
  | [], vs, r => by rw [show vs = [] from r]; rfl
  | p :: kvs, _, r => by
    obtain ⟨v', rr, rfl, n, q', z⟩ := r
    by_cases e : p.1 = k
    · simp only [List.map_cons, e, if_true]
      exact ⟨v, _, rfl, nt, q, RKs.repl k nt q z⟩
    · simp only [List.map_cons, e, if_false]
      exact ⟨v', _, rfl, n, q', RKs.repl k nt q z⟩
theorem putD_ok {κ : Type} [DecidableEq κ] {kvs : List (κ × D)} {vs : List (κ × V)} (r : RKs g μ H kvs vs) (k : κ) {w : D} {v : V} (nt : w.isTl = false) (q : RV g μ H w v) : RKs g μ H (putD kvs k w) (putK vs k v) := by
  unfold putD putK
  rw [r.any k]
  split
  · exact r.repl k nt q
  · exact r.append ⟨v, [], rfl, nt, q, rfl⟩
theorem RVs.set {ws : List D} {vs : List V} (r : RVs g μ H ws vs) {w : D} {v : V} (nt : w.isTl = false) (q : RV g μ H w v) (j : Nat) : RVs g μ H (ws.set j w) (vs.set j v) := by
  induction ws generalizing vs j with
  | nil => rw [show vs = [] from r]; rfl
  | cons p ws ih =>
    obtain ⟨v', rr, rfl, n, q', z⟩ := r
    cases j with
    | zero => exact ⟨v, rr, rfl, nt, q, z⟩
    | succ j => exact ⟨v', _, rfl, n, q', ih z j⟩
theorem setW_ok (hu : X.A.units + 1 < cLine) {x y w : D} {vx vy vw : V} {h2 : Hh} {Q : Hp → Prop} (rh : RH g μ h H) (qx : RV g μ H x vx) (qy : RV g μ H y vy) (qw : RV g μ H w vw) (e : setW x y w h = some h2)
    (k : ∀ H', Ext μ H μ H' → RH g μ h2 H' → Q H') : psetOf X vx vy vw H Q := by
  unfold setW at e
  split at e
  · rename_i i ws ew
    split at e
    · rename_i n
      split at e
      · rename_i j ej
        split at e
        · rename_i nt
          cases e
          obtain ⟨a, vs, rfl, ea, ha, z⟩ := lstAt_ok rh qx ew
          obtain ⟨x1, r1⟩ := wrL rh ea (z.set nt qw j)
          exact psetAt set_list ⟨a, vs, n, j, rfl, qy, ha, by rw [z.length]; exact ej, k _ x1 r1⟩
        · cases e
      · cases e
    · cases e
  · split at e
    · rename_i i _
      obtain ⟨a, ea, rfl⟩ := qx
      split at e
      · rename_i kvs e3
        obtain ⟨b, eb, vs, hb, z⟩ := rh.cell i _ e3
        rw [ea] at eb; cases eb
        split at e
        · rename_i kk ek
          split at e
          · rename_i hl
            cases e
            have z2 := putD_ok z kk hl.2 qw
            have x1 : Ext μ H μ (upd H a (.dK (putK vs kk vw))) := .wr rh.trk ea rfl
            rw [toK_ok ek qy]
            exact psetAt (set_dict hu) ⟨a, _, rfl, DPut.k hb (by rw [z.length]; exact hl.1), k _ x1 (rh.wr ea rfl ⟨_, upd_same, z2.ext rh.trk x1⟩)⟩
          · cases e
        · cases e
      · rename_i kvs e3
        obtain ⟨b, eb, vs, hb, z⟩ := rh.cell i _ e3
        rw [ea] at eb; cases eb
        split at e
        · rename_i ks
          split at e
          · rename_i kk ek
            split at e
            · rename_i hl
              cases e
              obtain ⟨c, us, rfl, hc, zc⟩ := qy
              rw [toKs_ok ek zc] at hc
              have z2 := putD_ok z kk hl.2 qw
              have x1 : Ext μ H μ (upd H a (.dT (putK vs kk vw))) := .wr rh.trk ea rfl
              exact psetAt (set_dict hu) ⟨a, _, rfl, DPut.t hb hc (by rw [z.length]; exact hl.1), k _ x1 (rh.wr ea rfl ⟨_, upd_same, z2.ext rh.trk x1⟩)⟩
            · cases e
          · cases e
        · cases e
      · cases e
    · cases e
variable {e o i : Expr} {me mo mi : M D} {pos tpos : Pos}
def msSub (me mo mi : M D) : MS := fun σ h => (mSt me σ h).then σ fun w h1 => (mo σ h1).then σ fun x h2 => (mi σ h2).then σ fun y h3 => match setW x y w h3 with
  | some h4 => .nx σ h4
  | none => .bad
theorem ss_sub (hu : X.A.units + 1 < cLine) (he : SE g X Wx e me) (ho : SE g X Wx o mo) (hi : SE g X Wx i mi)
    (ha : ∀ v, assign (.Subscript o i tpos) X.env v = (do
      let ov ← holding [v] (eval o X.env)
      let iv ← holding [v, ov] (eval i X.env)
      standAt tpos
      holding [v, ov, iv] (setItem ov iv v)
      release [v, ov, iv] []))
    (hs : swapsWithSole [.Subscript o i tpos] e pos.line X.env = pure false) (hw : swappedStores [.Subscript o i tpos] e X.env = pure none) (h1 : (assignEach [.Subscript o i tpos] X.env).map (·.2) = [assign (.Subscript o i tpos) X.env]) :
    SS g X Wx (.Assign [.Subscript o i tpos] e pos) (msSub me mo mi) := by
  intro σw h σ H μ E rs rh po
  refine psAt (ps_asg pe_of (pg_sub pe_of pe_of pset_of ha) hs hw h1) ?_
  refine se_st he σw h σ H μ _ rs rh ((PoS.then rs rh po).imp fun w h1 μ1 H1 x1 r1 p1 vw qw fw => ?_)
  have rs1 := rs.ext rh.trk x1
  refine ho σw h1 σ H1 μ1 _ rs1 r1 ((PoS.then rs1 r1 (p1 μ1 H1 x1)).imp fun x h2 μ2 H2 x2 r2 p2 vx qx fx => ?_)
  have rs2 := rs1.ext r1.trk x2
  refine hi σw h2 σ H2 μ2 _ rs2 r2 ((PoS.then rs2 r2 (p2 μ2 H2 x2)).imp fun y h3 μ3 H3 x3 r3 p3 vy qy fy => ?_)
  have p4 := p3 μ3 H3 x3
  split at p4
  · rename_i h4 e4
    refine setW_ok hu r3 (qx.ext r2.trk x3) qy ((qw.ext r1.trk x2).ext r2.trk x3) e4 fun H4 x4 r4 => ?_
    exact p4 μ3 H4 σ x4 r4 ((rs2.ext r2.trk x3).ext r3.trk x4)
  · exact p4.elim
end

/-! ### while -/
def loopN : Nat := 16777300
def whileL (c : M Bool) (b : MS) : Nat → MS
  | 0 => fun _ _ => .bad
  | n + 1 => fun σ h => (c σ h).then σ fun x h1 => if x = true then (match b σ h1 with
      | .nx σ2 h2 => whileL c b n σ2 h2
      | .cont σ2 h2 => whileL c b n σ2 h2
      | .brk σ2 h2 => .nx σ2 h2
      | r => r) else .nx σ h1
section
variable {g : Gx} {X : Cx} {Wx : WX} {c : Expr} {body : List Stmt} {mc : M Bool} {mb : MS} {pos : Pos}
theorem ss_while (hp : PassesOwn (model X.prog X.w) X.A X.env X.xe) (hc : ST g X Wx c mc) (hb : SL g X Wx body mb) : SS g X Wx (.While c body [] pos) (whileL mc mb loopN) := by
  intro σw h σ H μ E rs rh po
  refine psAt (ps_while hp pt_of pss_of) ?_
  refine ⟨fun m σ H => ∃ σw h μ, RS g μ H σw σ ∧ RH g μ h H ∧ PoS g Wx μ H (whileL mc mb m σw h) E, ⟨loopN, σw, h, μ, rs, rh, po⟩, ?_⟩
  rintro m σ H ⟨σw, h, μ, rs, rh, po⟩
  cases m with
  | zero => exact po.elim
  | succ n =>
    simp only [whileL] at po
    refine hc σw h σ H μ _ rs rh ((PoS.then rs rh po).imp fun x h1 μ1 H1 x1 r1 p1 => ?_)
    have p2 := p1 μ1 H1 x1
    cases x with
    | false => exact p2.at r1 (rs.ext rh.trk x1)
    | true =>
      simp only [if_true] at p2 ⊢
      refine ⟨fun σ' H' => ∃ σw h μ, RS g μ H' σw σ' ∧ RH g μ h H' ∧ PoS g Wx μ H' (whileL mc mb n σw h) E, fun σ' H' q => ⟨n, Nat.lt_succ_self n, q⟩, ?_⟩
      refine hb σw h1 σ H1 μ1 _ (rs.ext rh.trk x1) r1 ?_
      cases hx : mb σw h1 with
      | nx σ2 h2 => rw [hx] at p2; exact fun μ3 H3 σ3 x3 r3 s3 => ⟨σ2, h2, μ3, s3, r3, PoS.ext (r := whileL mc mb n σ2 h2) p2 x3⟩
      | cont σ2 h2 => rw [hx] at p2; exact fun μ3 H3 σ3 x3 r3 s3 => ⟨σ2, h2, μ3, s3, r3, PoS.ext (r := whileL mc mb n σ2 h2) p2 x3⟩
      | brk σ2 h2 => rw [hx] at p2; exact fun μ3 H3 σ3 x3 r3 s3 => p2 μ3 H3 σ3 x3 r3 s3
      | ret w2 h2 => rw [hx] at p2; exact p2
      | exc c fs σ2 h2 => rw [hx] at p2; exact p2
      | bad => rw [hx] at p2; exact p2.elim
end

/-! ### what is walked -/
/-- none: not known; some none: it ends -/
abbrev Src := Nat → Hh → Option (Option D)
/-- like Ext; what S names may have been written meanwhile -/
structure ExtS (S : Addr → Prop) (μ : List Addr) (H : Hp) (μ' : List Addr) (H' : Hp) : Prop where
  pre : ∃ e, μ' = μ ++ e ∧ ∀ x ∈ e, H x = none
  fr : ∀ b o, H b = some o → b ∉ μ → ¬ S b → H' b = some o
  lv : ∀ x ∈ μ, H' x ≠ none
  ls : ∀ x, S x → H x ≠ none → H' x ≠ none
/-- what was in the making at a state -/
def InFl (μ : List Addr) (H : Hp) (b : Addr) : Prop := ∃ o, H b = some o ∧ isMut o = true ∧ b ∉ μ
def FrS (S : Addr → Prop) (w : D) (v : V) : Prop := match w with
  | .tl _ => ∀ a, v = .ref a → ¬ S a
  | _ => True
section
variable {g : Gx} {S : Addr → Prop} {μ μ' μ1 μ2 : List Addr} {H H' H1 H2 : Hp} {w : D} {v : V}
theorem Ext.toS (x : Ext μ H μ' H') (hs : ∀ b, S b → H b ≠ none → b ∉ μ) : ExtS S μ H μ' H' := ⟨x.pre, fun b o q n _ => x.fr b o q n, x.lv, fun b sb n => by
  cases q : H b with
  | none => exact absurd q n
  | some o => rw [x.fr b o q (hs b sb n)]; simp⟩
theorem ExtS.trans (a : ExtS S μ H μ1 H1) (b : Ext μ1 H1 μ2 H2) (hs : ∀ b, S b → b ∉ μ1) : ExtS S μ H μ2 H2 := by
  obtain ⟨⟨e1, rfl, f1⟩, r1, l1, s1⟩ := a
  obtain ⟨⟨e2, rfl, f2⟩, r2, l2⟩ := b
  refine ⟨⟨e1 ++ e2, by simp, fun x hx => ?_⟩, fun b o q n ns => r2 b o (r1 b o q n ns) ?_, fun x hx => l2 x (List.mem_append_left _ hx), fun x sx n => ?_⟩
  · rcases List.mem_append.mp hx with hx | hx
    · exact f1 x hx
    · cases q : H x with
      | none => rfl
      | some o =>
        by_cases hm : x ∈ μ
        · exact absurd (f2 x hx) (l1 x hm)
        · by_cases hs : S x
          · exact absurd (f2 x hx) (s1 x hs (by rw [q]; simp))
          · have z := r1 x o q hm hs
            rw [f2 x hx] at z; cases z
  · intro hm
    rcases List.mem_append.mp hm with hm | hm
    · exact n hm
    · rw [f1 b hm] at q; cases q
  · cases q : H1 x with
    | none => exact absurd q (s1 x sx n)
    | some o => rw [r2 x o q (hs x sx)]; simp
theorem Ext.transS (a : Ext μ H μ1 H1) (b : ExtS S μ1 H1 μ2 H2) (hs : ∀ b, S b → H b ≠ none → b ∉ μ) : ExtS S μ H μ2 H2 := by
  obtain ⟨⟨e1, rfl, f1⟩, r1, l1⟩ := a
  obtain ⟨⟨e2, rfl, f2⟩, r2, l2, s2⟩ := b
  refine ⟨⟨e1 ++ e2, by simp, fun x hx => ?_⟩, fun b o q n ns => r2 b o (r1 b o q n) ?_ ns, fun x hx => l2 x (List.mem_append_left _ hx), fun x sx n => s2 x sx ?_⟩
  · rcases List.mem_append.mp hx with hx | hx
    · exact f1 x hx
    · cases q : H x with
      | none => rfl
      | some o =>
        by_cases hm : x ∈ μ
        · exact absurd (f2 x hx) (l1 x hm)
        · have z := r1 x o q hm
          rw [f2 x hx] at z; cases z
  · intro hm
    rcases List.mem_append.mp hm with hm | hm
    · exact n hm
    · rw [f1 b hm] at q; cases q
  · cases q : H x with
    | none => exact absurd q n
    | some o => rw [r1 x o q (hs x sx n)]; simp
theorem ExtS.upd {a : Addr} {o' : HO} (x : ExtS S μ H μ' H') (sa : S a) : ExtS S μ H μ' (L2.upd H' a o') :=
  ⟨x.pre, fun b u q nb ns => by rw [upd_ne (show b ≠ a from fun z => ns (by rw [z]; exact sa))]; exact x.fr b u q nb ns, fun y hy => by
    by_cases hy' : y = a
    · subst hy'; rw [upd_same]; simp
    · rw [upd_ne hy']; exact x.lv y hy, fun y sy n => by
    by_cases hy' : y = a
    · subst hy'; rw [upd_same]; simp
    · rw [upd_ne hy']; exact x.ls y sy n⟩
theorem ExtS.get (x : ExtS S μ H μ' H') {i : Nat} {a : Addr} (e : μ[i]? = some a) : μ'[i]? = some a := by
  obtain ⟨⟨e1, rfl, _⟩, _, _⟩ := x
  exact get_app e
theorem ExtS.notin (x : ExtS S μ H μ' H') {a : Addr} {o : HO} (q : H a = some o) (n : a ∉ μ) : a ∉ μ' := by
  obtain ⟨⟨e1, rfl, f1⟩, _, _⟩ := x
  intro hm
  rcases List.mem_append.mp hm with hm | hm
  · exact n hm
  · rw [f1 a hm] at q; cases q
theorem Fr.toS (f : Fr H w v) : FrS (InFl μ H) w v := by
  cases w <;> first | exact True.intro | skip
  rintro a e ⟨o, q, _⟩
  have := f a e
  rw [this] at q; cases q
/-- S names what may be written, and nothing tracked -/
structure SOk (S : Addr → Prop) (μ : List Addr) (H : Hp) : Prop where
  mu : ∀ b, S b → ∃ o, H b = some o ∧ isMut o = true
  nin : ∀ b, S b → b ∉ μ
theorem SOk.of (x : Ext μ H μ' H') : SOk (InFl μ H) μ' H' := ⟨fun b ⟨o, q, m, n⟩ => ⟨o, x.fr b o q n, m⟩, fun b ⟨o, q, m, n⟩ => x.notin q n⟩
theorem SOk.ext (s : SOk S μ H) (x : Ext μ H μ' H') : SOk S μ' H' := ⟨fun b sb => let ⟨o, q, m⟩ := s.mu b sb; ⟨o, x.fr b o q (s.nin b sb), m⟩, fun b sb => let ⟨o, q, m⟩ := s.mu b sb; x.notin q (s.nin b sb)⟩
end
mutual
theorem RV.extS {g : Gx} {S : Addr → Prop} {μ μ' : List Addr} {H H' : Hp} (t : Trk μ H) (s : SOk S μ H) (x : ExtS S μ H μ' H') : ∀ {w : D} {v : V}, FrS S w v → RV g μ H w v → RV g μ' H' w v
  | .non, _, _, r => r
  | .bl _, _, _, r => r
  | .int _, _, _, r => r
  | .str _, _, _, r => r
  | .ty _, _, _, r => r
  | .fn _, _, _, r => r
  | .cls _, _, _, r => r
  | .ref i, _, _, r => by
    obtain ⟨a, e, q⟩ := r
    exact ⟨a, x.get e, q⟩
  | .xc c ks ws, _, _, r => by
    obtain ⟨a, C, d, vs, e, hC, q, hl, hd, z⟩ := r
    refine ⟨a, C, d, vs, e, hC, x.fr _ _ q (fun hm => ?_) (fun hm => ?_), hl, ?_, RVs.extS t s x z⟩
    · obtain ⟨o, eo, k⟩ := t a hm
      rw [q] at eo; cases eo; cases k
    · obtain ⟨o, eo, k⟩ := s.mu a hm
      rw [q] at eo; cases eo; cases k
    · rcases hd with hd | ⟨dx, e1, e2⟩
      · exact .inl hd
      · refine .inr ⟨dx, e1, x.fr _ _ e2 (fun hm => ?_) fun hm => ?_⟩
        · obtain ⟨o, eo, k⟩ := t dx hm
          rw [e2] at eo; cases eo; cases k
        · obtain ⟨o, eo, k⟩ := s.mu dx hm
          rw [e2] at eo; cases eo; cases k
  | .tup ws, _, _, r => by
    obtain ⟨a, vs, e, q, z⟩ := r
    refine ⟨a, vs, e, x.fr _ _ q (fun hm => ?_) fun hm => ?_, RVs.extS t s x z⟩
    · obtain ⟨o, eo, k⟩ := t a hm
      rw [q] at eo; cases eo; cases k
    · obtain ⟨o, eo, k⟩ := s.mu a hm
      rw [q] at eo; cases eo; cases k
  | .kt ws, _, _, r => by
    obtain ⟨a, vs, e, q, z⟩ := r
    refine ⟨a, vs, e, ?_, RVs.extS t s x z⟩
    rcases q with (q | ⟨o, q⟩) | q
    · refine .inl (.inl (x.fr _ _ q (fun hm => ?_) fun hm => ?_))
      · obtain ⟨o, eo, k⟩ := t a hm
        rw [q] at eo; cases eo; cases k
      · obtain ⟨o, eo, k⟩ := s.mu a hm
        rw [q] at eo; cases eo; cases k
    · refine .inl (.inr ⟨o, x.fr _ _ q (fun hm => ?_) fun hm => ?_⟩)
      · obtain ⟨o, eo, k⟩ := t a hm
        rw [q] at eo; cases eo; cases k
      · obtain ⟨o, eo, k⟩ := s.mu a hm
        rw [q] at eo; cases eo; cases k
    · exact .inr q
  | .fl ws, _, _, r => by
    obtain ⟨a, vs, e, q, z⟩ := r
    refine ⟨a, vs, e, ?_, RVs.extS t s x z⟩
    rcases q with ⟨o, q⟩ | q
    · refine .inl ⟨o, x.fr _ _ q (fun hm => ?_) fun hm => ?_⟩
      · obtain ⟨o, eo, k⟩ := t a hm
        rw [q] at eo; cases eo; cases k
      · obtain ⟨o, eo, k⟩ := s.mu a hm
        rw [q] at eo; cases eo; cases k
    · exact .inr q
  | .tl ws, _, f, r => by
    obtain ⟨a, vs, e, q, n, z⟩ := r
    exact ⟨a, vs, e, x.fr _ _ q n (f a e), x.notin q n, RVs.extS t s x z⟩
theorem RVs.extS {g : Gx} {S : Addr → Prop} {μ μ' : List Addr} {H H' : Hp} (t : Trk μ H) (s : SOk S μ H) (x : ExtS S μ H μ' H') : ∀ {ws : List D} {vs : List V}, RVs g μ H ws vs → RVs g μ' H' ws vs
  | [], _, r => r
  | w :: ws, _, r => by
    obtain ⟨v, rr, e, nt, q, z⟩ := r
    exact ⟨v, rr, e, nt, RV.extS t s x (by cases w <;> first | exact True.intro | cases nt) q, RVs.extS t s x z⟩
end
/-- the source may be asked at every later state -/
structure SrcOk (g : Gx) (J : It) (src : Src) (S : Addr → Prop) (μ : List Addr) (H : Hp) : Prop where
  so : SOk S μ H
  ok : ∀ μ' H' h', ExtS S μ H μ' H' → RH g μ' h' H' → ∀ i, match src i h' with
    | none => True
    | some none => J.stop i H'
    | some (some w) => J.go i H' ∧ ∀ x H2, J.yld i H' x H2 → Ext μ' H' μ' H2 ∧ RH g μ' h' H2 ∧ w.isTl = false ∧ RV g μ' H2 w x
theorem SrcOk.ext {g : Gx} {J : It} {src : Src} {S : Addr → Prop} {μ μ' : List Addr} {H H' : Hp} (s : SrcOk g J src S μ H) (x : Ext μ H μ' H') : SrcOk g J src S μ' H' := ⟨s.so.ext x, fun μ2 H2 h2 x2 r2 i => s.ok μ2 H2 h2 (x.transS x2 fun b sb _ => s.so.nin b sb) r2 i⟩
theorem SrcOk.at {g : Gx} {J : It} {src : Src} {S : Addr → Prop} {μ : List Addr} {H : Hp} {h : Hh} (s : SrcOk g J src S μ H) (r : RH g μ h H) (i : Nat) : match src i h with
    | none => True
    | some none => J.stop i H
    | some (some w) => J.go i H ∧ ∀ x H2, J.yld i H x H2 → Ext μ H μ H2 ∧ RH g μ h H2 ∧ w.isTl = false ∧ RV g μ H2 w x := s.ok μ H h ((Ext.refl r.trk).toS fun b sb _ => s.so.nin b sb) r i
def tOfI (X : Cx) (tg iter : Expr) : TI := fun σ H R => ∀ pins s, Inv X pins σ H s → wpAny (model X.prog X.w) X.A (eval iter X.env) (fun v s1 => wpAny (model X.prog X.w) X.A (pyIter v) (PIE X pins σ tg R) X.xe s1) X.xe s
theorem pi_of {X : Cx} {tg iter : Expr} : PI X tg iter (tOfI X tg iter) := ⟨fun pins s σ H R I h => h pins s I⟩
theorem piAt {X : Cx} {tg iter : Expr} {t : TI} (p : PI X tg iter t) {σ : L2.St} {H : Hp} {R : It → Hp → Prop} (h : t σ H R) : tOfI X tg iter σ H R := fun pins s I => p.run pins s σ H R I h
def SI (g : Gx) (X : Cx) (Wx : WX) (tg iter : Expr) (m : M Src) : Prop := ∀ (σw : Sg) (h : Hh) (σ : L2.St) (H : Hp) (μ : List Addr) (R : It → Hp → Prop), RS g μ H σw σ → RH g μ h H →
  Po g Wx σ μ H (m σw h) (fun src h' μ' H' => ∀ J, SrcOk g J src (InFl μ H) μ' H' → R J H') → tOfI X tg iter σ H R
def forL (src : Src) (t : Tg) (b : MS) : Nat → Nat → MS
  | 0, _ => fun _ _ => .bad
  | n + 1, i => fun σ h => match src i h with
    | none => .bad
    | some none => .nx σ h
    | some (some w) => match t.set w σ h with
      | none => .bad
      | some σ1 => match b σ1 h with
        | .nx σ2 h2 => forL src t b n (i + 1) σ2 h2
        | .cont σ2 h2 => forL src t b n (i + 1) σ2 h2
        | .brk σ2 h2 => .nx σ2 h2
        | r => r
def msFor (mi : M Src) (t : Tg) (b : MS) : MS := fun σ h => (mi σ h).then σ fun src h1 => forL src t b loopN 0 σ h1
section
variable {g : Gx} {X : Cx} {Wx : WX} {tg iter : Expr} {body : List Stmt} {mi : M Src} {t : Tg} {mb : MS} {pos : Pos}
theorem ss_for (hp : PassesOwn (model X.prog X.w) X.A X.env X.xe) (hc : X.calm = true) (hi : SI g X Wx tg iter mi) (hg : SG g X tg t) (hb : SL g X Wx body mb) (hs : ∀ x, foldedSetIterable iter X.env x = pure x) :
    SS g X Wx (.For tg iter body [] pos) (msFor mi t mb) := by
  intro σw h σ H μ E rs rh po
  refine psAt (ps_for hp hc pi_of pg_of pss_of hs) (hi σw h σ H μ _ rs rh ((PoS.then rs rh po).imp fun src h1 μ1 H1 x1 r1 p1 J sk => ?_))
  generalize InFl μ H = S0 at sk
  refine ⟨fun i m σ H => ∃ σw h μ, RS g μ H σw σ ∧ RH g μ h H ∧ SrcOk g J src S0 μ H ∧ PoS g Wx μ H (forL src t mb m i σw h) E, ⟨loopN, σw, h1, μ1, rs.ext rh.trk x1, r1, sk, p1 μ1 H1 x1⟩, ?_⟩
  rintro i m σ H ⟨σw, h, μ, rs, rh, sk, po⟩
  cases m with
  | zero => exact po.elim
  | succ n =>
    simp only [forL] at po
    have sk1 := sk.at rh i
    cases e1 : src i h with
    | none => rw [e1] at po; exact po.elim
    | some o =>
      rw [e1] at po sk1
      cases o with
      | none => exact .inl ⟨sk1, po.at rh rs⟩
      | some w =>
        obtain ⟨go, yl⟩ := sk1
        refine .inr ⟨go, fun σ' H' => ∃ σw h μ, RS g μ H' σw σ' ∧ RH g μ h H' ∧ SrcOk g J src S0 μ H' ∧ PoS g Wx μ H' (forL src t mb n (i + 1) σw h) E, fun σ' H' q => ⟨n, Nat.lt_succ_self n, q⟩, fun x H2 y => ?_⟩
        obtain ⟨x2, r2, nt, q2⟩ := yl x H2 y
        simp only at po
        cases e2 : t.set w σw h with
        | none => rw [e2] at po; exact po.elim
        | some σ1 =>
          rw [e2] at po
          simp only at po
          refine hg w x σw σ1 h σ H2 μ _ (rs.ext rh.trk x2) r2 nt q2 e2 fun σ3 rs3 _ => ?_
          refine hb σ1 h σ3 H2 μ _ rs3 r2 ?_
          cases hx : mb σ1 h with
          | nx σ4 h4 => rw [hx] at po; exact fun μ5 H5 σ5 x5 r5 s5 => ⟨σ4, h4, μ5, s5, r5, sk.ext (x2.trans x5), PoS.ext (r := forL src t mb n (i + 1) σ4 h4) po (x2.trans x5)⟩
          | cont σ4 h4 => rw [hx] at po; exact fun μ5 H5 σ5 x5 r5 s5 => ⟨σ4, h4, μ5, s5, r5, sk.ext (x2.trans x5), PoS.ext (r := forL src t mb n (i + 1) σ4 h4) po (x2.trans x5)⟩
          | brk σ4 h4 => rw [hx] at po; exact fun μ5 H5 σ5 x5 r5 s5 => po μ5 H5 σ5 (x2.trans x5) r5 s5
          | ret w4 h4 => rw [hx] at po; exact fun μ5 H5 v x5 r5 q5 f5 => po μ5 H5 v (x2.trans x5) r5 q5 (f5.back x2)
          | exc c fs σ4 h4 => rw [hx] at po; exact fun μ5 H5 σ5 cv d x5 r5 s5 v5 => po μ5 H5 σ5 cv d (x2.trans x5) r5 s5 v5
          | bad => rw [hx] at po; exact po.elim
end
end PV
end
section
/-! PVA12: what is walked; list comprehensions. -/
namespace PV
open PySem PySem.Spec PyProof.Rows L2

def srcL (x : D) : Src := fun i h => match asL h x with
  | some ws => some ws[i]?
  | none => none
def srcT (ws : List D) : Src := fun i _ => some ws[i]?
def srcS (z : Str) : Src := fun i _ => some ((z.cps.toList[i]?).map fun c => .str ⟨#[c]⟩)
def srcR (lo : Int) (n : Nat) : Src := fun i _ => some (if i < n then some (.int (lo + i)) else none)
def srcE (s : Src) : Src := fun i h => match s i h with
  | some (some w) => some (some (.tup [.int (i : Nat), w]))
  | r => r
def srcZ (s t : Src) : Src := fun i h => match s i h with
  | none => none
  | some a => match t i h with
    | none => none
    | some b => match a, b with
      | some w, some y => some (some (.tup [w, y]))
      | _, _ => some none
section
variable {g : Gx} {X : Cx} {Wx : WX} {S : Addr → Prop} {μ : List Addr} {H : Hp} {h : Hh}
theorem fst {x : D} {v : V} {ws : List D} (e : asT x = some ws) : FrS S x v := by
  cases x <;> first | exact True.intro | cases e
theorem src_list {x : D} {a : Addr} (hv : RV g μ H x (.ref a)) (tr : Trk μ H) (so : SOk S μ H) (fx : FrS S x (.ref a)) : SrcOk g (Itl g.K a) (srcL x) S μ H := by
  refine ⟨so, ?_⟩
  intro μ' H' h' x1 r1 i
  unfold srcL
  cases e : asL h' x with
  | none => exact True.intro
  | some ws =>
    obtain ⟨b, vs, eb, s1, z⟩ := asL_ok r1 (hv.extS tr so x1 fx) e
    cases eb
    cases e2 : ws[i]? with
    | none => simp only [e2]; exact ⟨vs, s1, by rw [z.length]; exact List.getElem?_eq_none_iff.mp e2⟩
    | some w =>
      simp only [e2]
      obtain ⟨v, ev, nt, q⟩ := z.get e2
      refine ⟨⟨vs, v, s1, ev⟩, fun y H2 yl => ?_⟩
      obtain ⟨rfl, yl⟩ := yl
      have := yl vs s1
      rw [ev] at this; cases this
      exact ⟨.refl r1.trk, r1, nt, q⟩
theorem src_tup {x : D} {ws : List D} {a : Addr} (hv : RV g μ H x (.ref a)) (tr : Trk μ H) (so : SOk S μ H) (e : asT x = some ws) : SrcOk g (Itt g.K a) (srcT ws) S μ H := by
  refine ⟨so, ?_⟩
  intro μ' H' h' x1 r1 i
  unfold srcT
  obtain ⟨b, vs, eb, s1, z⟩ := asT_ok (hv.extS tr so x1 (fst e)) e
  cases eb
  cases e2 : ws[i]? with
  | none => exact ⟨vs, s1, by rw [z.length]; exact List.getElem?_eq_none_iff.mp e2⟩
  | some w =>
    obtain ⟨v, ev, nt, q⟩ := z.get e2
    refine ⟨⟨vs, v, s1, ev⟩, fun y H2 yl => ?_⟩
    obtain ⟨rfl, yl⟩ := yl
    have := yl vs s1
    rw [ev] at this; cases this
    exact ⟨.refl r1.trk, r1, nt, q⟩
theorem src_str (so : SOk S μ H) (z : Str) : SrcOk g (Its z) (srcS z) S μ H := by
  refine ⟨so, ?_⟩
  intro μ' H' h' x1 r1 i
  unfold srcS
  cases e2 : z.cps.toList[i]? with
  | none =>
    have := List.getElem?_eq_none_iff.mp e2
    show z.cps.size ≤ i
    simpa using this
  | some c =>
    have e3 : z.cps[i]? = some c := by simpa using e2
    refine ⟨?_, fun y H2 yl => ?_⟩
    · show i < z.cps.size
      have := (List.getElem?_eq_some_iff.mp e2).1
      simpa using this
    · obtain ⟨rfl, c', ec, rfl⟩ := yl
      rw [e3] at ec; cases ec
      exact ⟨.refl r1.trk, r1, rfl, rfl⟩
theorem src_rng (so : SOk S μ H) (lo : Int) (n : Nat) : SrcOk g (Itr lo n) (srcR lo n) S μ H := by
  refine ⟨so, ?_⟩
  intro μ' H' h' x1 r1 i
  unfold srcR
  by_cases hi : i < n
  · rw [if_pos hi]
    refine ⟨hi, fun y H2 yl => ?_⟩
    obtain ⟨rfl, rfl⟩ := yl
    exact ⟨.refl r1.trk, r1, rfl, rfl⟩
  · rw [if_neg hi]
    exact Nat.le_of_not_lt hi
theorem pair_new {h' : Hh} {μ' : List Addr} {H' : Hp} {T : Addr} {w1 w2 : D} {v1 v2 : V} (r1 : RH g μ' h' H') (n : H' T = none) (n1 : w1.isTl = false) (n2 : w2.isTl = false) (q1 : RV g μ' H' w1 v1) (q2 : RV g μ' H' w2 v2) :
    Ext μ' H' μ' (upd H' T (.tup [v1, v2])) ∧ RH g μ' h' (upd H' T (.tup [v1, v2])) ∧ (D.tup [w1, w2]).isTl = false ∧ RV g μ' (upd H' T (.tup [v1, v2])) (.tup [w1, w2]) (.ref T) :=
  ⟨.new r1.trk n, r1.new n, rfl, .newT r1 n ⟨v1, [v2], rfl, n1, q1, v2, [], rfl, n2, q2, rfl⟩⟩
theorem src_enumL {x : D} {a : Addr} (hv : RV g μ H x (.ref a)) (tr : Trk μ H) (so : SOk S μ H) (fx : FrS S x (.ref a)) : SrcOk g (Ite g.K a) (srcE (srcL x)) S μ H := by
  refine ⟨so, ?_⟩
  intro μ' H' h' x1 r1 i
  unfold srcE srcL
  cases e : asL h' x with
  | none => exact True.intro
  | some ws =>
    obtain ⟨b, vs, eb, s1, z⟩ := asL_ok r1 (hv.extS tr so x1 fx) e
    cases eb
    cases e2 : ws[i]? with
    | none => simp only [e2]; exact ⟨vs, s1, by rw [z.length]; exact List.getElem?_eq_none_iff.mp e2⟩
    | some w =>
      simp only [e2]
      obtain ⟨v, ev, nt, q⟩ := z.get e2
      refine ⟨⟨vs, v, s1, ev⟩, fun y H2 yl => ?_⟩
      obtain ⟨T, v', rfl, nT, rfl, yl⟩ := yl
      have := yl vs s1
      rw [ev] at this; cases this
      exact pair_new r1 nT rfl nt rfl q
theorem src_enumT {x : D} {ws : List D} {a : Addr} (hv : RV g μ H x (.ref a)) (tr : Trk μ H) (so : SOk S μ H) (e : asT x = some ws) : SrcOk g (IteT g.K a) (srcE (srcT ws)) S μ H := by
  refine ⟨so, ?_⟩
  intro μ' H' h' x1 r1 i
  unfold srcE srcT
  obtain ⟨b, vs, eb, s1, z⟩ := asT_ok (hv.extS tr so x1 (fst e)) e
  cases eb
  cases e2 : ws[i]? with
  | none => exact ⟨vs, s1, by rw [z.length]; exact List.getElem?_eq_none_iff.mp e2⟩
  | some w =>
    obtain ⟨v, ev, nt, q⟩ := z.get e2
    refine ⟨⟨vs, v, s1, ev⟩, fun y H2 yl => ?_⟩
    obtain ⟨T, v', rfl, nT, rfl, yl⟩ := yl
    have := yl vs s1
    rw [ev] at this; cases this
    exact pair_new r1 nT rfl nt rfl q
theorem src_zipT {x y : D} {ws us : List D} {a b : Addr} (hx : RV g μ H x (.ref a)) (hy : RV g μ H y (.ref b)) (tr : Trk μ H) (so : SOk S μ H) (e : asT x = some ws) (e' : asT y = some us) : SrcOk g (RZ.ItzT g.K a b) (srcZ (srcT ws) (srcT us)) S μ H := by
  refine ⟨so, ?_⟩
  intro μ' H' h' x1 r1 i
  unfold srcZ srcT
  obtain ⟨a', vs, eb, s1, z⟩ := asT_ok (hx.extS tr so x1 (fst e)) e
  cases eb
  obtain ⟨b', vs', eb, s1', z'⟩ := asT_ok (hy.extS tr so x1 (fst e')) e'
  cases eb
  cases e2 : ws[i]? with
  | none => exact ⟨vs, vs', s1, s1', .inl (by rw [z.length]; exact List.getElem?_eq_none_iff.mp e2)⟩
  | some w =>
    cases e3 : us[i]? with
    | none => exact ⟨vs, vs', s1, s1', .inr (by rw [z'.length]; exact List.getElem?_eq_none_iff.mp e3)⟩
    | some u =>
      obtain ⟨v, ev, nt, q⟩ := z.get e2
      obtain ⟨v', ev', nt', q'⟩ := z'.get e3
      refine ⟨⟨vs, vs', v, v', s1, s1', ev, ev'⟩, fun y H2 yl => ?_⟩
      obtain ⟨T, c, c', rfl, nT, rfl, yl, yl'⟩ := yl
      have t1 := yl vs s1
      rw [ev] at t1; cases t1
      have t2 := yl' vs' s1'
      rw [ev'] at t2; cases t2
      exact pair_new r1 nT nt nt' q q'
theorem src_zipL {x y : D} {a b : Addr} (hx : RV g μ H x (.ref a)) (hy : RV g μ H y (.ref b)) (tr : Trk μ H) (so : SOk S μ H) (fx : FrS S x (.ref a)) (fy : FrS S y (.ref b)) : SrcOk g (Itz g.K a b) (srcZ (srcL x) (srcL y)) S μ H := by
  refine ⟨so, ?_⟩
  intro μ' H' h' x1 r1 i
  unfold srcZ srcL
  cases e : asL h' x with
  | none => exact True.intro
  | some ws =>
    cases e' : asL h' y with
    | none => exact True.intro
    | some us =>
      obtain ⟨a', vs, eb, s1, z⟩ := asL_ok r1 (hx.extS tr so x1 fx) e
      cases eb
      obtain ⟨b', vs', eb, s1', z'⟩ := asL_ok r1 (hy.extS tr so x1 fy) e'
      cases eb
      cases e2 : ws[i]? with
      | none => simp only [e2]; exact ⟨vs, vs', s1, s1', .inl (by rw [z.length]; exact List.getElem?_eq_none_iff.mp e2)⟩
      | some w =>
        cases e3 : us[i]? with
        | none => simp only [e2, e3]; exact ⟨vs, vs', s1, s1', .inr (by rw [z'.length]; exact List.getElem?_eq_none_iff.mp e3)⟩
        | some u =>
          simp only [e2, e3]
          obtain ⟨v, ev, nt, q⟩ := z.get e2
          obtain ⟨v', ev', nt', q'⟩ := z'.get e3
          refine ⟨⟨vs, vs', v, v', s1, s1', ev, ev'⟩, fun y H2 yl => ?_⟩
          obtain ⟨T, c, c', rfl, nT, rfl, yl, yl'⟩ := yl
          have t1 := yl vs s1
          rw [ev] at t1; cases t1
          have t2 := yl' vs' s1'
          rw [ev'] at t2; cases t2
          exact pair_new r1 nT nt nt' q q'
end
/-- what a plain expression is walked as -/
def srcOf (x : D) (h : Hh) : Option Src := match asT x with
  | some ws => some (srcT ws)
  | none => match asL h x with
    | some _ => some (srcL x)
    | none => match x with
      | .str z => some (srcS z)
      | _ => none
def miE (m : M D) : M Src := fun σ h => (m σ h).bind fun x h1 => match srcOf x h1 with
  | some s => .ok s h1
  | none => .bad
def miR1 (m : M D) : M Src := fun σ h => (m σ h).bind fun x h1 => match x with
  | .int j => if -(2 ^ 62) ≤ j ∧ j < 2 ^ 62 then .ok (srcR 0 j.toNat) h1 else .bad
  | _ => .bad
def miR2 (a b : M D) : M Src := fun σ h => (a σ h).bind fun x h1 => (b σ h1).bind fun y h2 => match x, y with
  | .int i, .int j => if -(2 ^ 62) ≤ i ∧ i < 2 ^ 62 ∧ -(2 ^ 62) ≤ j ∧ j < 2 ^ 62 then .ok (srcR i (j - i).toNat) h2 else .bad
  | _, _ => .bad
def miEn (m : M D) : M Src := fun σ h => (m σ h).bind fun x h1 => match asT x with
  | some ws => .ok (srcE (srcT ws)) h1
  | none => match asL h1 x with
    | some _ => .ok (srcE (srcL x)) h1
    | none => .bad
def miZ (a b : M D) : M Src := fun σ h => (a σ h).bind fun x h1 => (b σ h1).bind fun y h2 => match asT x, asT y with
  | some ws, some us => .ok (srcZ (srcT ws) (srcT us)) h2
  | _, _ => match asL h2 x, asL h2 y with
    | some _, some _ => .ok (srcZ (srcL x) (srcL y)) h2
    | _, _ => .bad
section
variable {g : Gx} {X : Cx} {Wx : WX} {tg e e2 : Expr} {me me2 : M D} {p pos tpos : Pos} {elts : List Expr} {kk : Nat}
theorem si_e (hK : X.K = g.K) (he : SE g X Wx e me) : SI g X Wx tg e (miE me) := by
  intro σw h σ H μ Rr rs rh po
  unfold miE at po
  cases hx : me σw h with
  | bad => rw [hx] at po; exact po.elim
  | exc c fs h1 =>
    rw [hx] at po
    refine piAt (pi_list pe_of) (he σw h σ H μ _ rs rh ?_)
    rw [hx]; exact po
  | ok x h1 =>
    rw [hx, PV.R.bind_ok] at po
    unfold srcOf at po
    cases e1 : asT x with
    | some ws =>
      rw [e1] at po
      refine piAt (pi_tup pe_of) (he σw h σ H μ _ rs rh ?_)
      rw [hx]
      intro μ1 H1 x1 r1 v q f
      obtain ⟨a, vs, rfl, s1, z⟩ := asT_ok q e1
      refine ⟨a, rfl, ⟨vs, by rw [hK]; exact s1⟩, ?_⟩
      rw [hK]
      exact po μ1 H1 x1 r1 _ (src_tup q r1.trk (.of x1) e1)
    | none =>
      rw [e1] at po
      cases e2 : asL h1 x with
      | some ws =>
        simp only [e2] at po
        refine piAt (pi_list pe_of) (he σw h σ H μ _ rs rh ?_)
        rw [hx]
        intro μ1 H1 x1 r1 v q f
        obtain ⟨a, vs, rfl, s1, z⟩ := asL_ok r1 q e2
        refine ⟨a, rfl, ⟨vs, by rw [hK]; exact s1⟩, ?_⟩
        rw [hK]
        exact po μ1 H1 x1 r1 _ (src_list q r1.trk (.of x1) f.toS)
      | none =>
        simp only [e2] at po
        cases x <;> first | exact po.elim | skip
        rename_i z
        refine piAt (pi_str pe_of) (he σw h σ H μ _ rs rh ?_)
        rw [hx]
        intro μ1 H1 x1 r1 v q f
        exact ⟨z, q, po μ1 H1 x1 r1 _ (src_str (.of x1) z)⟩
theorem si_r1 (hg : Gl X "range") (hm : X.mg "range" = none) (hs : starEach [e] X.env = [(false, eval e X.env)]) (he : SE g X Wx e me) : SI g X Wx tg (.Call (.Name "range" p) [e] [] pos) (miR1 me) := by
  intro σw h σ H μ Rr rs rh po
  refine piAt (pi_range1 hg hm (pa_cons pe_of pa_nil hs) hs) (he σw h σ H μ _ rs rh (po.bind.imp fun x h1 μ1 H1 x1 r1 p1 v q f => ?_))
  split at p1
  · split at p1
    · rename_i j hj
      rw [show v = .int j from q]
      exact ⟨j, rfl, hj.1, hj.2, p1.at r1 _ (src_rng (.of x1) 0 j.toNat)⟩
    · exact p1.elim
  · exact p1.elim
theorem si_r2 (hg : Gl X "range") (hm : X.mg "range" = none) (hs : starEach [e, e2] X.env = [(false, eval e X.env), (false, eval e2 X.env)]) (hs2 : starEach [e2] X.env = [(false, eval e2 X.env)]) (he : SE g X Wx e me) (he2 : SE g X Wx e2 me2) :
    SI g X Wx tg (.Call (.Name "range" p) [e, e2] [] pos) (miR2 me me2) := by
  intro σw h σ H μ Rr rs rh po
  refine piAt (pi_range2 hg hm (pa_cons pe_of (pa_cons pe_of pa_nil hs2) (by rw [hs, hs2])) hs hs2) ?_
  refine he σw h σ H μ _ rs rh (po.bind.imp fun x h1 μ1 H1 x1 r1 p1 vx qx fx => ?_)
  refine he2 σw h1 σ H1 μ1 _ (rs.ext rh.trk x1) r1 (p1.bind.imp fun y h2 μ2 H2 x2 r2 p2 vy qy fy => ?_)
  split at p2
  · split at p2
    · rename_i i j hj
      rw [show vx = .int i from qx, show vy = .int j from qy]
      exact ⟨i, j, rfl, hj, p2.at r2 _ (src_rng (.of (x1.trans x2)) i _)⟩
    · exact p2.elim
  · exact p2.elim
theorem si_en (hK : X.K = g.K) (hg : Gl X "enumerate") (hm : X.mg "enumerate" = none) (hs : starEach [e] X.env = [(false, eval e X.env)]) (he : SE g X Wx e me) :
    SI g X Wx (.Tuple elts kk tpos) (.Call (.Name "enumerate" p) [e] [] pos) (miEn me) := by
  intro σw h σ H μ Rr rs rh po
  unfold miEn at po
  cases hx : me σw h with
  | bad => rw [hx] at po; exact po.elim
  | exc c fs h1 =>
    rw [hx] at po
    refine piAt (pi_enum hg hm (pa_cons pe_of pa_nil hs) hs) (he σw h σ H μ _ rs rh ?_)
    rw [hx]; exact po
  | ok x h1 =>
    rw [hx, PV.R.bind_ok] at po
    cases e1 : asT x with
    | some ws =>
      rw [e1] at po
      refine piAt (pi_enumT hg hm (pa_cons pe_of pa_nil hs) hs) (he σw h σ H μ _ rs rh ?_)
      rw [hx]
      intro μ1 H1 x1 r1 v q f
      obtain ⟨a, vs, rfl, s1, z⟩ := asT_ok q e1
      refine ⟨a, vs, rfl, by rw [hK]; exact s1, ?_⟩
      rw [hK]
      exact po μ1 H1 x1 r1 _ (src_enumT q r1.trk (.of x1) e1)
    | none =>
      rw [e1] at po
      cases e2 : asL h1 x with
      | none => simp only [e2] at po; exact po.elim
      | some ws =>
        simp only [e2] at po
        refine piAt (pi_enum hg hm (pa_cons pe_of pa_nil hs) hs) (he σw h σ H μ _ rs rh ?_)
        rw [hx]
        intro μ1 H1 x1 r1 v q f
        obtain ⟨a, vs, rfl, s1, z⟩ := asL_ok r1 q e2
        refine ⟨a, vs, rfl, by rw [hK]; exact s1, ?_⟩
        rw [hK]
        exact po μ1 H1 x1 r1 _ (src_enumL q r1.trk (.of x1) f.toS)
theorem si_zip (hK : X.K = g.K) (hg : Gl X "zip") (hm : X.mg "zip" = none) (hs : starEach [e, e2] X.env = [(false, eval e X.env), (false, eval e2 X.env)]) (hs2 : starEach [e2] X.env = [(false, eval e2 X.env)]) (he : SE g X Wx e me) (he2 : SE g X Wx e2 me2) :
    SI g X Wx (.Tuple elts kk tpos) (.Call (.Name "zip" p) [e, e2] [] pos) (miZ me me2) := by
  intro σw h σ H μ Rr rs rh po
  refine piAt (RZ.pi_zipA hg hm (pa_cons pe_of (pa_cons pe_of pa_nil hs2) (by rw [hs, hs2])) (by rw [hs, hs2]) (by rw [hs2]; rfl)) ?_
  refine he σw h σ H μ _ rs rh (po.bind.imp fun x h1 μ1 H1 x1 r1 p1 vx qx fx => ?_)
  refine he2 σw h1 σ H1 μ1 _ (rs.ext rh.trk x1) r1 (p1.bind.imp fun y h2 μ2 H2 x2 r2 p2 vy qy fy => ?_)
  have qx2 := qx.ext r1.trk x2
  split at p2
  · rename_i ws us e1 e2
    obtain ⟨a, vs, rfl, s1, z⟩ := asT_ok qx2 e1
    obtain ⟨b, vs', rfl, s1', z'⟩ := asT_ok qy e2
    refine ⟨a, b, vs, vs', rfl, .inr ⟨by rw [hK]; exact s1, by rw [hK]; exact s1', ?_⟩⟩
    rw [hK]
    exact p2.at r2 _ (src_zipT qx2 qy r2.trk (.of (x1.trans x2)) e1 e2)
  · split at p2
    · rename_i ws us e1 e2
      obtain ⟨a, vs, rfl, s1, z⟩ := asL_ok r2 qx2 e1
      obtain ⟨b, vs', rfl, s1', z'⟩ := asL_ok r2 qy e2
      refine ⟨a, b, vs, vs', rfl, .inl ⟨by rw [hK]; exact s1, by rw [hK]; exact s1', ?_⟩⟩
      rw [hK]
      exact p2.at r2 _ (src_zipL qx2 qy r2.trk (.of (x1.trans x2)) fx.toS (fy.back x1).toS)
    · exact p2.elim
end
end PV
end
section
/-! PVA13: list comprehensions. -/
namespace PV
open PySem PySem.Spec PyProof.Rows L2

/-! ### an object that is being made, not tracked -/
section
variable {g : Gx} {μ μ' μ1 : List Addr} {h : Hh} {H H' H1 : Hp} {a : Addr} {o o' : HO}
theorem sqT_upd {b : Addr} {vs : List V} (q : H a = some o) (m : isMut o = true) (s : SqT g.K H b vs) : SqT g.K (upd H a o') b vs := by
  rcases s with (s | ⟨ob, s⟩) | s
  · refine .inl (.inl ?_)
    rw [upd_ne (fun z => by subst z; rw [q] at s; cases s; cases m)]
    exact s
  · refine .inl (.inr ⟨ob, ?_⟩)
    rw [upd_ne (fun z => by subst z; rw [q] at s; cases s; cases m)]
    exact s
  · exact .inr s
theorem sqF_upd {b : Addr} {vs : List V} (q : H a = some o) (m : isMut o = true) (s : SqF g.K H b vs) : SqF g.K (upd H a o') b vs := by
  rcases s with ⟨ob, s⟩ | s
  · refine .inl ⟨ob, ?_⟩
    rw [upd_ne (fun z => by subst z; rw [q] at s; cases s; cases m)]
    exact s
  · exact .inr s
end
mutual
theorem RV.upd {g : Gx} {μ : List Addr} {H : Hp} {a : Addr} {o o' : HO} (q : H a = some o) (m : isMut o = true) : ∀ {w : D} {v : V}, w.isTl = false → RV g μ H w v → RV g μ (L2.upd H a o') w v
  | .non, _, _, r => r
  | .bl _, _, _, r => r
  | .int _, _, _, r => r
  | .str _, _, _, r => r
  | .ty _, _, _, r => r
  | .fn _, _, _, r => r
  | .cls _, _, _, r => r
  | .ref i, _, _, r => r
  | .xc c ks ws, _, _, r => by
    obtain ⟨b, C, d, vs, e, hC, s, hl, hd, z⟩ := r
    refine ⟨b, C, d, vs, e, hC, ?_, hl, ?_, RVs.upd q m z⟩
    · rw [upd_ne (fun y => by subst y; rw [q] at s; cases s; cases m)]
      exact s
    · rcases hd with hd | ⟨dx, e1, e2⟩
      · exact .inl hd
      · refine .inr ⟨dx, e1, ?_⟩
        rw [upd_ne (fun y => by subst y; rw [q] at e2; cases e2; cases m)]
        exact e2
  | .tup ws, _, _, r => by
    obtain ⟨b, vs, e, s, z⟩ := r
    refine ⟨b, vs, e, ?_, RVs.upd q m z⟩
    rw [upd_ne (fun y => by subst y; rw [q] at s; cases s; cases m)]
    exact s
  | .kt ws, _, _, r => by
    obtain ⟨b, vs, e, s, z⟩ := r
    exact ⟨b, vs, e, sqT_upd q m s, RVs.upd q m z⟩
  | .fl ws, _, _, r => by
    obtain ⟨b, vs, e, s, z⟩ := r
    exact ⟨b, vs, e, sqF_upd q m s, RVs.upd q m z⟩
  | .tl ws, _, n, _ => by cases n
theorem RVs.upd {g : Gx} {μ : List Addr} {H : Hp} {a : Addr} {o o' : HO} (q : H a = some o) (m : isMut o = true) : ∀ {ws : List D} {vs : List V}, RVs g μ H ws vs → RVs g μ (L2.upd H a o') ws vs
  | [], _, r => r
  | w :: ws, _, r => by
    obtain ⟨v, rr, e, nt, z, zs⟩ := r
    exact ⟨v, rr, e, nt, RV.upd q m nt z, RVs.upd q m zs⟩
end
section
variable {g : Gx} {μ μ' μ1 : List Addr} {h : Hh} {H H' H1 : Hp} {a : Addr} {o o' : HO}
theorem RKs.upd {κ : Type} (q : H a = some o) (m : isMut o = true) : ∀ {ws : List (κ × D)} {vs : List (κ × V)}, RKs g μ H ws vs → RKs g μ (L2.upd H a o') ws vs
  | [], _, r => r
  | w :: ws, _, r => by
    obtain ⟨v, rr, e, nt, z, zs⟩ := r
    exact ⟨v, rr, e, nt, z.upd q m nt, RKs.upd q m zs⟩
theorem RH.upd (r : RH g μ h H) (q : H a = some o) (m : isMut o = true) (na : a ∉ μ) : RH g μ h (L2.upd H a o') :=
  ⟨r.len, r.nd, fun i c e => by
    obtain ⟨b, eb, rc⟩ := r.cell i c e
    have nb : b ≠ a := fun z => na (by rw [← z]; exact mem_of_get eb)
    refine ⟨b, eb, ?_⟩
    cases c with
    | lst ws => obtain ⟨vs, e1, z⟩ := rc; exact ⟨vs, (upd_ne nb).trans e1, z.upd q m⟩
    | dK ws => obtain ⟨vs, e1, z⟩ := rc; exact ⟨vs, (upd_ne nb).trans e1, z.upd q m⟩
    | dT ws => obtain ⟨vs, e1, z⟩ := rc; exact ⟨vs, (upd_ne nb).trans e1, z.upd q m⟩
    | ins c fs => obtain ⟨C, dx, vs, k, e1, z⟩ := rc; exact ⟨C, dx, vs, k, (upd_ne nb).trans e1, z.upd q m⟩⟩
theorem Ext.updN (x : Ext μ1 H1 μ H) (t : Trk μ1 H1) (n : H1 a = none) : Ext μ1 H1 μ (L2.upd H a o') :=
  ⟨x.pre, fun b u q nb => by rw [upd_ne (ne_of_none q n)]; exact x.fr b u q nb, fun y hy => by
    rw [upd_ne (t.ne n hy)]; exact x.lv y hy⟩
end

/-! ### loops that make something -/
/-- a loop over J: each turn by stp, at the end Fin -/
def LoopP (J : It) (stp : V → Hp → (Hp → Prop) → Prop) (H : Hp) (Fin : Hp → Prop) : Prop := ∃ W : Nat → Nat → Hp → Prop, (∃ m, W 0 m H) ∧ ∀ i m H, W i m H →
  (J.stop i H ∧ Fin H) ∨ (J.go i H ∧ ∃ Nx : Hp → Prop, (∀ H', Nx H' → ∃ m', m' < m ∧ W (i + 1) m' H') ∧ ∀ x H', J.yld i H x H' → stp x H' Nx)
/-- what has been made so far: acc, told by rel; Gr: the ground it stands on -/
structure Gd (g : Gx) {α : Type} (rel : List Addr → Hp → α → HO → Prop) (Gr : List Addr → Hp → Prop) (a : Addr) (μ : List Addr) (h : Hh) (acc : α) (H : Hp) : Prop where
  x : Gr μ H
  r : RH g μ h H
  na : a ∉ μ
  ob : ∃ o, H a = some o ∧ isMut o = true ∧ rel μ H acc o
structure GrOk (Gr : List Addr → Hp → Prop) (a : Addr) : Prop where
  ext : ∀ {μ H μ' H'}, Gr μ H → Trk μ H → Ext μ H μ' H' → Gr μ' H'
  up : ∀ {μ H o o'}, Gr μ H → H a = some o → isMut o = true → a ∉ μ → isMut o' = true → Gr μ (upd H a o')
def PoL (g : Gx) {α : Type} (rel : List Addr → Hp → α → HO → Prop) (Gr : List Addr → Hp → Prop) (a : Addr) (r : R α) (Fin : Hp → Prop) : Prop := match r with
  | .ok acc h => ∀ μ H, Gd g rel Gr a μ h acc H → Fin H
  | .exc _ _ _ => False
  | .bad => False
def lcL {α : Type} (src : Src) (t : Tg) (body : α → Sg → Hh → R α) (σ0 : Sg) : Nat → Nat → α → Hh → R α
  | 0, _, _, _ => .bad
  | n + 1, i, acc, h => match src i h with
    | none => .bad
    | some none => .ok acc h
    | some (some w) => match t.set w σ0 h with
      | none => .bad
      | some σ1 => (body acc σ1 h).bind fun acc' h' => lcL src t body σ0 n (i + 1) acc' h'
/-- an exception out of a comprehension is not known here -/
def noX {α : Type} (r : R α) : R α := match r with
  | .exc _ _ _ => .bad
  | r => r
theorem grExt {μ1 : List Addr} {H1 : Hp} {a : Addr} (tr : Trk μ1 H1) (nw : H1 a = none) : GrOk (Ext μ1 H1) a := ⟨fun x _ y => x.trans y, fun x _ _ _ _ => x.updN tr nw⟩
section
variable {g : Gx} {α : Type} {rel : List Addr → Hp → α → HO → Prop} {Gr Gr' : List Addr → Hp → Prop} {a : Addr} {J : It} {src : Src} {t : Tg} {body : α → Sg → Hh → R α} {σ0 : Sg} {stp : V → Hp → (Hp → Prop) → Prop} {Fin : Hp → Prop}
theorem PoL.bind {r : R α} {f : α → Hh → R α} (p : PoL g rel Gr a (r.bind f) Fin) : PoL g rel Gr a r fun H => ∃ acc h μ, Gd g rel Gr a μ h acc H ∧ PoL g rel Gr a (f acc h) Fin := by
  cases r with
  | ok acc h => exact fun μ H G => ⟨acc, h, μ, G, p⟩
  | exc _ _ _ => exact p
  | bad => exact p
theorem Gd.sub {μ : List Addr} {h : Hh} {acc : α} {H : Hp} (G : Gd g rel Gr a μ h acc H) (s : Gr μ H → Gr' μ H) : Gd g rel Gr' a μ h acc H := ⟨s G.x, G.r, G.na, G.ob⟩
theorem PoL.sub {r : R α} (p : PoL g rel Gr a r Fin) (s : ∀ {μ H}, Gr' μ H → Gr μ H) : PoL g rel Gr' a r Fin := by
  cases r with
  | ok acc h => exact fun μ H G => p μ H (G.sub s)
  | exc _ _ _ => exact p
  | bad => exact p
theorem Gd.ext {μ μ' : List Addr} {h h' : Hh} {acc : α} {H H' : Hp} (go : GrOk Gr a) (mono : ∀ {μ μ' H H' acc o}, Trk μ H → Ext μ H μ' H' → rel μ H acc o → rel μ' H' acc o)
    (G : Gd g rel Gr a μ h acc H) (x : Ext μ H μ' H') (r : RH g μ' h' H') : Gd g rel Gr a μ' h' acc H' := by
  obtain ⟨o, eo, mo, ro⟩ := G.ob
  exact ⟨go.ext G.x G.r.trk x, r, x.notin eo G.na, o, x.fr a o eo G.na, mo, mono G.r.trk x ro⟩
theorem loop_ok (go : GrOk Gr a) (mono : ∀ {μ μ' H H' acc o}, Trk μ H → Ext μ H μ' H' → rel μ H acc o → rel μ' H' acc o)
    (sk : ∀ μ H h, Gr μ H → RH g μ h H → ∀ i, match src i h with
      | none => True
      | some none => J.stop i H
      | some (some w) => J.go i H ∧ ∀ x H2, J.yld i H x H2 → Ext μ H μ H2 ∧ RH g μ h H2 ∧ w.isTl = false ∧ RV g μ H2 w x)
    (step : ∀ (w : D) (x : V) (acc : α) (h : Hh) (μ : List Addr) (H : Hp) (σ1 : Sg) (Nx : Hp → Prop), Gd g rel Gr a μ h acc H → w.isTl = false → RV g μ H w x → t.set w σ0 h = some σ1 → PoL g rel Gr a (body acc σ1 h) Nx → stp x H Nx)
    {n : Nat} {acc : α} {h : Hh} {μ : List Addr} {H : Hp} (G : Gd g rel Gr a μ h acc H) (po : PoL g rel Gr a (lcL src t body σ0 n 0 acc h) Fin) : LoopP J stp H Fin := by
  refine ⟨fun i m H => ∃ acc h μ, Gd g rel Gr a μ h acc H ∧ PoL g rel Gr a (lcL src t body σ0 m i acc h) Fin, ⟨n, acc, h, μ, G, po⟩, ?_⟩
  rintro i m H ⟨acc, h, μ, G, po⟩
  cases m with
  | zero => exact po.elim
  | succ n =>
    simp only [lcL] at po
    have sk1 := sk μ H h G.x G.r i
    cases e1 : src i h with
    | none => rw [e1] at po; exact po.elim
    | some ow =>
      rw [e1] at po sk1
      cases ow with
      | none => exact .inl ⟨sk1, po μ H G⟩
      | some w =>
        obtain ⟨go1, yl⟩ := sk1
        refine .inr ⟨go1, fun H' => ∃ acc h μ, Gd g rel Gr a μ h acc H' ∧ PoL g rel Gr a (lcL src t body σ0 n (i + 1) acc h) Fin, fun H' q => ⟨n, Nat.lt_succ_self n, q⟩, fun x H2 y => ?_⟩
        obtain ⟨x2, r2, nt, q2⟩ := yl x H2 y
        simp only at po
        cases e2 : t.set w σ0 h with
        | none => rw [e2] at po; exact po.elim
        | some σ1 =>
          rw [e2] at po
          exact step w x acc h μ H2 σ1 _ (G.ext go mono x2 r2) nt q2 e2 (PoL.bind (f := fun acc' h' => lcL src t body σ0 n (i + 1) acc' h') po)
theorem noX_exc {α : Type} {r : R α} {c : Nat} {fs : List (Str × D)} {h : Hh} : noX r ≠ .exc c fs h := by
  cases r <;> intro z <;> cases z
theorem bind_exc {α β : Type} {r : R α} {f : α → Hh → R β} {c : Nat} {fs : List (Str × D)} {h : Hh} (e : r.bind f = .exc c fs h) : r = .exc c fs h ∨ ∃ a h', r = .ok a h' ∧ f a h' = .exc c fs h := by
  cases r with
  | ok a h' => exact .inr ⟨a, h', rfl, e⟩
  | exc c' fs' h' => refine .inl ?_; cases e; rfl
  | bad => cases e
theorem lcL_exc {α : Type} {src : Src} {t : Tg} {body : α → Sg → Hh → R α} {σ0 : Sg} (hb : ∀ acc σ h c fs h', body acc σ h ≠ .exc c fs h') {c : Nat} {fs : List (Str × D)} {h' : Hh} : ∀ (n i : Nat) (acc : α) (h : Hh), lcL src t body σ0 n i acc h ≠ .exc c fs h'
  | 0, i, acc, h => fun z => by cases z
  | n + 1, i, acc, h => fun z => by
    simp only [lcL] at z
    split at z
    · cases z
    · cases z
    · split at z
      · cases z
      · rcases bind_exc z with z | ⟨a, h2, _, z⟩
        · exact hb _ _ _ _ _ _ z
        · exact lcL_exc hb n (i + 1) a h2 z
end

/-! ### list comprehensions -/
def wipeW (σ : Sg) : List Nat → Sg
  | [] => σ
  | v :: vs => (wipeW σ vs).set v none
theorem RS.wipe {g : Gx} {μ : List Addr} {H : Hp} {σw : Sg} {σ : L2.St} (r : RS g μ H σw σ) : ∀ vs : List Nat, RS g μ H (wipeW σw vs) (L2.wipe σ vs)
  | [] => r
  | v :: vs => by
    have ih := RS.wipe r vs
    refine ⟨by unfold wipeW L2.wipe; rw [List.length_set, List.length_set]; exact ih.1, fun i w e => ?_⟩
    unfold wipeW at e
    unfold L2.wipe
    by_cases hv : v = i
    · subst hv
      by_cases hl : v < (wipeW σw vs).length
      · rw [List.getElem?_set_self hl] at e; cases e
      · rw [List.getElem?_eq_none (by simpa using hl)] at e; cases e
    · rw [List.getElem?_set_ne hv] at e ⊢
      exact ih.2 i w e
theorem wipe_wipe (σ : L2.St) (vs : List Nat) : wipe (wipe σ vs) vs = wipe σ vs := by
  have key : ∀ (us : List Nat) (τ : L2.St), (∀ i ∈ us, i < τ.length → τ[i]? = some none) → wipe τ us = τ := by
    intro us
    induction us with
    | nil => intro τ _; rfl
    | cons v us ih =>
      intro τ hz
      unfold wipe
      rw [ih τ fun i hi hl => hz i (List.mem_cons_of_mem _ hi) hl]
      by_cases hv : v < τ.length
      · have e := hz v (by simp) hv
        apply List.ext_getElem?
        intro j
        by_cases hj : v = j
        · subst hj
          rw [List.getElem?_set_self hv, e]
        · rw [List.getElem?_set_ne hj]
      · rw [List.set_eq_of_length_le (by omega)]
  refine key vs (wipe σ vs) fun i hi hl => ?_
  cases q : (wipe σ vs)[i]? with
  | none => rw [List.getElem?_eq_none_iff] at q; omega
  | some o =>
    cases o with
    | none => rfl
    | some v => exact absurd hi (wipe_some q).2
abbrev relL (g : Gx) : List Addr → Hp → List D → HO → Prop := fun μ H acc o => ∃ vs, o = .lst vs ∧ RVs g μ H acc vs
def bodyE (mt : M Bool) (me : M D) : List D → Sg → Hh → R (List D) := fun acc σ h => (noX (mt σ h)).bind fun b h2 => if b = true then
    (noX (me σ h2)).bind fun y h3 => if acc.length < sizeLine then .ok (acc ++ [(stash y h3).1]) (stash y h3).2 else .bad
  else .ok acc h2
def mLc (mi : M Src) (t : Tg) (mt : M Bool) (me : M D) (vs : List Nat) : M D := fun σ h => (mi σ h).bind fun src h1 => (lcL src t (bodyE mt me) (wipeW σ vs) loopN 0 [] h1).bind fun acc h2 => .ok (.tl acc) h2
def mLc2 (mi : M Src) (t : Tg) (mt : M Bool) (mi1 : M Src) (t1 : Tg) (mt1 : M Bool) (me : M D) (vs vs1 : List Nat) : M D := fun σ h => (mi σ h).bind fun src h1 =>
  (lcL src t (fun acc σ1 h => (noX (mt σ1 h)).bind fun b h2 => if b = true then (noX (mi1 σ1 h2)).bind fun src1 h3 => lcL src1 t1 (bodyE mt1 me) (wipeW σ1 vs1) loopN 0 acc h3 else .ok acc h2) (wipeW σ vs) loopN 0 [] h1).bind fun acc h2 => .ok (.tl acc) h2
/-- no exception is wanted -/
abbrev WF : WX := fun _ _ _ _ => False
section
variable {g : Gx} {X : Cx} {Wx : WX} {elt tg iter tg1 iter1 : Expr} {ifs ifs1 : List Expr} {scope : Scope} {own : List (Str × Nat)} {pos : Pos} {mi mi1 : M Src} {t t1 : Tg} {mt mt1 : M Bool} {me : M D}
/-- in every block that the comprehension may run in -/
abbrev BX (X : Cx) (scope : Scope) (s : Shared) (H : Hp) (C : Addr) (cl : List (Str × Addr)) (fp : List Addr) : Cx := X.blk s H scope (compEnvC scope cl C X.env) fp
def tB1 (X : Cx) (scope : Scope) (e : Expr) : TE := fun σ H Q => ∀ s0 H0 C cl fp, tOf (BX X scope s0 H0 C cl fp) e σ H Q
def tBG (X : Cx) (scope : Scope) (e : Expr) : TG := fun v σ H Q => ∀ s0 H0 C cl fp, tOfG (BX X scope s0 H0 C cl fp) e v σ H Q
def tOfTs (X : Cx) (ifs : List Expr) : TT := fun σ H Q => ∀ t, PTs X ifs t → ∀ pins s, Inv X pins σ H s → wpAny (model X.prog X.w) X.A (forIn ifs true fun c r => if r = true then do let ok ← isTrue c X.env (eval c X.env); pure (ForInStep.yield ok) else pure (ForInStep.yield r)) (TP X pins σ Q) X.xe s
def SB (g : Gx) (X : Cx) (scope : Scope) (e : Expr) (m : M D) : Prop := ∀ s0 H0 C cl fp, SE g (BX X scope s0 H0 C cl fp) WF e m
def SBT (g : Gx) (X : Cx) (scope : Scope) (e : Expr) (m : M Bool) : Prop := ∀ s0 H0 C cl fp, ST g (BX X scope s0 H0 C cl fp) WF e m
def SBI (g : Gx) (X : Cx) (scope : Scope) (tg e : Expr) (m : M Src) : Prop := ∀ s0 H0 C cl fp, SI g (BX X scope s0 H0 C cl fp) WF tg e m
def SBG (g : Gx) (X : Cx) (scope : Scope) (e : Expr) (t : Tg) : Prop := ∀ s0 H0 C cl fp, SG g (BX X scope s0 H0 C cl fp) e t
def tBT (X : Cx) (scope : Scope) (e : Expr) : TT := fun σ H Q => ∀ s0 H0 C cl fp, tOfT (BX X scope s0 H0 C cl fp) e σ H Q
def tBI (X : Cx) (scope : Scope) (tg e : Expr) : TI := fun σ H R => ∀ s0 H0 C cl fp, tOfI (BX X scope s0 H0 C cl fp) tg e σ H R
theorem noX_po {α : Type} {σ : L2.St} {μ : List Addr} {H : Hp} {r : R α} {Q : α → Hh → List Addr → Hp → Prop} (p : Po g WF σ μ H (noX r) Q) : Po g WF σ μ H r Q := by
  cases r with
  | ok a h => exact p
  | exc c fs h => exact p.elim
  | bad => exact p
/-- from a loop's wish to an expression's, within a block -/
theorem PoL.po {α β : Type} {rel : List Addr → Hp → β → HO → Prop} {Gr : List Addr → Hp → Prop} {μ : List Addr} {H : Hp} {a : Addr} {σ : L2.St} {acc : β} {h : Hh} {r : R α} {f : α → Hh → R β} {Nx : Hp → Prop} (go : GrOk Gr a)
    (mono : ∀ {μ μ' H H' acc o}, Trk μ H → Ext μ H μ' H' → rel μ H acc o → rel μ' H' acc o) (G : Gd g rel Gr a μ h acc H) (p : PoL g rel Gr a ((noX r).bind f) Nx) :
    Po g WF σ μ H r fun x h1 μ1' H1' => (∀ μ2 H2, Ext μ H μ2 H2 → RH g μ2 h1 H2 → Gd g rel Gr a μ2 h1 acc H2) ∧ PoL g rel Gr a (f x h1) Nx := by
  cases r with
  | ok x h1 => exact fun μ2 H2 x2 r2 => ⟨fun μ3 H3 x3 r3 => G.ext go mono x3 r3, p⟩
  | exc c fs h1 => exact p.elim
  | bad => exact p.elim
theorem relL_mono {μ μ' : List Addr} {H H' : Hp} {acc : List D} {o : HO} (tr : Trk μ H) (x : Ext μ H μ' H') (r : relL g μ H acc o) : relL g μ' H' acc o := by
  obtain ⟨vs, e, z⟩ := r
  exact ⟨vs, e, z.ext tr x⟩
/-- the tests of a clause: none or one -/
inductive STs (g : Gx) (X : Cx) (scope : Scope) : List Expr → M Bool → Prop
  | nil : STs g X scope [] (fun _ h => .ok true h)
  | one {c : Expr} {m : M Bool} (hc : SBT g X scope c m) : STs g X scope [c] m
def tTs (X : Cx) (scope : Scope) : List Expr → TT
  | [c] => tBT X scope c
  | _ => tYes
theorem pts_all {m : M Bool} (h : STs g X scope ifs m) (s0 : Shared) (H0 : Hp) (C : Addr) (cl : List (Str × Addr)) (fp : List Addr) : PTs (BX X scope s0 H0 C cl fp) ifs (tTs X scope ifs) := by
  cases h with
  | nil => exact pts_nil
  | one hc => exact pts_one ⟨fun pins s σ H Q I hq => hq s0 H0 C cl fp pins s I⟩
theorem tests_ok {m : M Bool} (h : STs g X scope ifs m) {σw : Sg} {hh : Hh} {σ : L2.St} {H : Hp} {μ : List Addr} {Q : Bool → Hp → Prop} (rs : RS g μ H σw σ) (rh : RH g μ hh H) (p : Po g WF σ μ H (m σw hh) (fun b h' μ' H' => Q b H')) : tTs X scope ifs σ H Q := by
  cases h with
  | nil => exact p.at rh
  | one hc => exact fun s0 H0 C cl fp => hc s0 H0 C cl fp σw hh σ H μ Q rs rh p
theorem bodyE_exc {acc : List D} {σ : Sg} {h : Hh} {c : Nat} {fs : List (Str × D)} {h' : Hh} : bodyE mt me acc σ h ≠ .exc c fs h' := fun z => by
  unfold bodyE at z
  rcases bind_exc z with z | ⟨b, h2, _, z⟩
  · exact noX_exc z
  · split at z
    · rcases bind_exc z with z | ⟨y, h3, _, z⟩
      · exact noX_exc z
      · split at z <;> cases z
    · cases z
/-- one turn's end: the test, the element -/
theorem turnE {Gr : List Addr → Hp → Prop} {μ : List Addr} {H : Hp} {a : Addr} {acc : List D} {h : Hh} {σw : Sg} {σ : L2.St} {Nx : Hp → Prop} (go : GrOk Gr a) (hts : STs g X scope ifs mt) (he : SB g X scope elt me)
    (G : Gd g (relL g) Gr a μ h acc H) (rs : RS g μ H σw σ) (p : PoL g (relL g) Gr a (bodyE mt me acc σw h) Nx) :
    tTs X scope ifs σ H fun b H3 => if b = true then tB1 X scope elt σ H3 fun y H4 => ∃ acc, H4 a = some (.lst acc) ∧ acc.length < sizeLine ∧ Nx (upd H4 a (.lst (acc ++ [y]))) else Nx H3 := by
  refine tests_ok hts rs G.r ((PoL.po (rel := relL g) go relL_mono G p).imp fun b h2 μ2 H2 x2 r2 q2 => ?_)
  obtain ⟨G2, p2⟩ := q2
  have G2 := G2 μ2 H2 x2 r2
  cases b with
  | false => exact p2 μ2 H2 G2
  | true =>
    simp only [if_true] at p2 ⊢
    intro s0 H0 C cl fp
    refine he s0 H0 C cl fp σw h2 σ H2 μ2 _ (rs.ext G.r.trk x2) r2 ((PoL.po (rel := relL g) go relL_mono G2 p2).imp fun y h3 μ3 H3 x3 r3 q3 v qv fv => ?_)
    obtain ⟨G3, p3⟩ := q3
    obtain ⟨μ3', x3', r3', qv', _⟩ := stash_ok r3 qv fv x3
    have G4 : Gd g (relL g) Gr a μ3' (stash y h3).2 acc H3 := G2.ext go relL_mono x3' r3'
    obtain ⟨x4, r4, na4, o, eo, mo, vs, rfl, z⟩ := G4
    split at p3
    · rename_i hl
      refine ⟨vs, eo, by rw [z.length]; exact hl, p3 μ3' _ ⟨go.up x4 eo rfl na4 rfl, r4.upd eo rfl na4, na4, _, upd_same, rfl, vs ++ [v], rfl, ?_⟩⟩
      exact RVs.append (z.upd eo rfl) ⟨v, [], rfl, stash_isTl, qv'.upd eo rfl stash_isTl, rfl⟩
    · exact p3.elim
theorem lc_fin {Wx : WX} {μ0 μ1 : List Addr} {H0 H1 : Hp} {D : Addr} {r : R (List PV.D)} {σ : L2.St} {Q : VK} (nx : ∀ c fs h, r ≠ .exc c fs h) (x1 : Ext μ0 H0 μ1 H1) (nD : H1 D = none)
    (p1 : Po g Wx σ μ1 H1 (r.bind fun acc h2 => .ok (.tl acc) h2) fun w h' μ' H' => ∀ v, RV g μ' H' w v → Fr H0 w v → Q v H') : PoL g (relL g) (Ext μ1 H1) D r fun H2 => Q (.ref D) H2 := by
  cases r with
  | bad => exact p1.elim
  | exc c fs h2 => exact absurd rfl (nx c fs h2)
  | ok acc h2 =>
    intro μ2 H2 G2
    obtain ⟨o, eo, mo, vs, rfl, z⟩ := G2.ob
    refine p1 μ2 H2 G2.x G2.r (.ref D) ⟨D, vs, rfl, eo, G2.na, z⟩ fun c ec => ?_
    cases ec
    exact Fr.back (w := .tl []) (v := .ref D) x1 (fun c ec => by cases ec; exact nD) D rfl
theorem gd_new {μ1 : List Addr} {H1 : Hp} {h1 : Hh} {D : Addr} (r1 : RH g μ1 h1 H1) (nD : H1 D = none) : Gd g (relL g) (Ext μ1 H1) D μ1 h1 [] (upd H1 D (.lst [])) := ⟨.new r1.trk nD, r1.new nD, fun hm => r1.trk.ne nD hm rfl, _, upd_same, rfl, [], rfl, rfl⟩
/-- the block's slots -/
theorem lc_read (hi : SI g X Wx tg iter mi) (hg : SBG g X scope tg t) (hts : STs g X scope ifs mt) (he : SB g X scope elt me) (hsl : ∀ i ∈ t.slots, i ∈ own.map (·.2))
    {σw : Sg} {h : Hh} {σ : L2.St} {H : Hp} {μ : List Addr} {Q : VK} (rs : RS g μ H σw σ) (rh : RH g μ h H)
    (po : Po g Wx σ μ H (mLc mi t mt me (own.map (·.2)) σw h) (fun w h' μ' H' => ∀ v, RV g μ' H' w v → Fr H w v → Q v H')) :
    tLc (tOfI X tg iter) (tBG X scope tg) (tTs X scope ifs) (tB1 X scope elt) (own.map (·.2)) σ H Q := by
  refine hi σw h σ H μ _ rs rh (po.bind.imp fun src h1 μ1 H1 x1 r1 p1 J sk D nD => ?_)
  have rs1 := (rs.ext rh.trk x1).wipe (own.map (·.2))
  have pl := lc_fin (fun c fs h => lcL_exc (fun _ _ _ _ _ _ => bodyE_exc) _ _ _ _) x1 nD p1
  have go := grExt (a := D) r1.trk nD
  refine loop_ok (rel := relL g) go relL_mono (fun μ H h x r i => (sk.ext x).at r i) (fun w x acc h μ H' σ1 Nx G nt qx e2 p2 => ?_) (gd_new r1 nD) pl
  intro s0 H0 C cl fp
  refine hg s0 H0 C cl fp w x _ σ1 h _ H' μ _ (rs1.ext r1.trk G.x) G.r nt qx e2 fun σ' rs' w' => ⟨?_, turnE go hts he G rs' p2⟩
  rw [w' _ hsl, wipe_wipe]
theorem se_lc (hc : X.calm = true) (hN : X.N.Nodup) (ok : BlkOk X.N X.env.scope scope own) (hsl : ∀ i ∈ t.slots, i ∈ own.map (·.2)) (hs : ∀ x, foldedSetIterable iter X.env x = pure x)
    (hi : SI g X Wx tg iter mi) (hg : SBG g X scope tg t) (hts : STs g X scope ifs mt) (he : SB g X scope elt me) : SE g X Wx (.ListComp elt [⟨tg, iter, ifs, 0⟩] scope pos) (mLc mi t mt me (own.map (·.2))) := by
  intro σw h σ H μ Q rs rh po
  refine peAt (pe_lc hc hN pi_of ok (fun s0 H0 C cl fp => (⟨fun pins s σ H v u Q I r q => q s0 H0 C cl fp pins s u I r⟩ : PG _ _ (tBG X scope tg))) (fun s0 H0 C cl fp => pts_all hts s0 H0 C cl fp)
    (fun s0 H0 C cl fp => (⟨fun pins s σ H Q I q => q s0 H0 C cl fp pins s I⟩ : PE _ _ (tB1 X scope elt))) hs) ?_
  exact lc_read hi hg hts he hsl rs rh po
end
end PV
end
section
/-! PVA14: calls of the text's own defs; what a call leaves behind. -/
namespace PV
open PySem PySem.Spec PyProof.Rows L2

/-! ### a def's promise, where no repr runs around -/
structure FnG (P : Program) (w : World) (K : PySem.W.Frag) (mg : Str → Option Value) (base : Heap) (CX : CXT) (k : Nat) (f : Addr) (fd : FuncData) (ps : List Str) (sp : Sp) : Prop where
  len : ∀ vs H Q E, sp vs H Q E → vs.length = ps.length
  run : ∀ (A : Around) (outer : List Env) (s : Shared) (H : Hp) (args : Args) (us : List Value) (vs : List V) (Q : VK) (E : XK), A.guards = some [] → Room k A → Env0 P w K mg base A outer s H → BindsTo s fd args (ps.zip us) → Vals vs us → sp vs H Q E →
    codeAny (model P w) A (.call (.ref f) args) (CR CX outer P w H s Q E) s
theorem fnG_of {CX : CXT} {P : Program} {w : World} {K : PySem.W.Frag} {mg : Str → Option Value} {base : Heap} {k : Nat} {f : Addr} {name qual : Str} {params : Arguments} {body : List Stmt} {scope : Scope} {dV kV doc pm cdv ct oc : Value} {an od : Option Addr}
    {osl : Array (Option Value)} {N ps : List Str} {sp : Sp} (lk : K.lookup f = some ⟨oc, od, .func (PySem.W.fnOf name qual params body scope dV kV doc pm an cdv ct), osl⟩) (hcd : PySem.W.codeIn K cdv qual = true) (S : FnScope N ps scope)
    (len : ∀ vs H Q E, sp vs H Q E → vs.length = ps.length)
    (hbody : ∀ (A : Around) (outer : List Env) (s : Shared) (H : Hp) (vs : List V) (Q : VK) (E : XK), A.guards = some [] → Room k (A.deeper (envOfC qual scope s.heap.objs.size f cdv)) → sp vs H Q E →
      ∃ t, PSs (cxOf CX P w K mg base N qual scope f cdv A outer s H E) body t ∧ t { nx := fun _ H' => Q .non H', rt := Q } (start N vs) H) :
    FnG P w K mg base CX (k + 1) f (PySem.W.fnOf name qual params body scope dV kV doc pm an cdv ct) ps sp := by
  refine ⟨len, fun A outer s H args us vs Q E hgd hr e0 hb r hsp => ?_⟩
  have hl := len _ _ _ _ hsp
  have KX : K.In s.heap := e0.mod.kin.keeps fun b o e => (e0.bs b o e).1
  have lim : s.heap.NoLimit := e0.mod.nolimit.keeps fun b o e => (e0.bs b o e).1
  have hkind : ∀ y ∈ ps.zip us, scope.names.lookup y.1 = some .local ∨ (scope.names.lookup y.1 = some .cell ∧ ((cellsFrom (s.heap.objs.size + 1) scope.names []).lookup y.1).isSome = true) := fun ⟨n, v⟩ hy => by
    rcases S.par n (List.of_mem_zip hy).1 with q | q
    · exact .inl q
    · exact .inr ⟨q, PySem.W.cellsFrom_some _ _ _ (.inl q)⟩
  refine codeAny_call_function hr.depth (KX _ _ lk) rfl S.co S.gen rfl (PySem.W.codeRec_of KX hcd) (hb _ _ _ _ ?_)
  refine wpAny_newFunctionEnv_cells S.kind hkind fun env he s1 x => ?_
  subst he
  refine ⟨lim.keeps x.toInCall.keep, codeAny_func ?_⟩
  obtain ⟨t, ht, hq⟩ := hbody A outer s H vs Q E hgd (hr.deeper _) hsp
  have I : Inv (cxOf CX P w K mg base N qual scope f cdv A outer s H E) [] (start N vs) H s1 := inv_start S hr.hd e0 hl r x
  refine wpAny_mono (ht.run [] s1 (start N vs) H _ I hq) (fun fl s' hs => ?_) fun e s' hs => hs
  have fin : ∀ {σ' : L2.St} {H' : Hp} {v : V} {u : Value}, Inv (cxOf CX P w K mg base N qual scope f cdv A outer s H E) [] σ' H' s' → RelV v u → Q v H' → CE outer P w H s Q u s' :=
    fun {σ' H' v u} J rv q => ⟨v, H', J.os, J.bare, J.base, J.hok, rv, q⟩
  cases fl with
  | ret u =>
    obtain ⟨v, σ', H', J, rv, q⟩ := hs
    exact fin J rv q
  | next =>
    obtain ⟨σ', H', J, q⟩ := hs
    exact fin (v := V.non) (u := Value.none) J rfl q
  | brk =>
    obtain ⟨_, _, _, q⟩ := hs
    exact False.elim q
  | cont =>
    obtain ⟨_, _, _, q⟩ := hs
    exact False.elim q

/-! ### a call by values -/
def cgOf (X : Cx) (f : Addr) (vs : List V) (σ : L2.St) (H : Hp) (Q : VK) : Prop := ∀ pins s us, Inv X pins σ H s → Vals vs us → wpAny (model X.prog X.w) X.A (call (.ref f) us) (EP X pins σ Q) X.xe s
section
variable {X : Cx} {W : WX} {k : Nat} {f : Addr} {fd : FuncData} {ps : List Str} {sp : Sp} {dvs : List V} {ds : List Value} {x : Str} {p pos : Pos} {e : Expr} {es : List Expr}
theorem cg_run {σ : L2.St} {H : Hp} {Q : VK} {vs : List V} (tk : Takes X W) (hgd : X.A.guards = some []) (F : FnG X.prog X.w X.K X.mg X.base (CX X.prog X.w) k f fd ps sp) (hr : Room k X.A) (hb : Binds X.K fd ps ds) (hd : Vals dvs ds)
    (h : sp (vs ++ dvs) H Q (fun cv d H' => W cv d σ H')) : cgOf X f vs σ H Q := by
  intro pins s us I r
  have r2 : Vals (vs ++ dvs) (us ++ ds) := r.append hd
  have hl : (us ++ ds).length = ps.length := by rw [← r2.length]; exact F.len _ _ _ _ h
  refine wpAny_call (codeAny_mono (F.run X.A X.stack s H ⟨us, []⟩ (us ++ ds) (vs ++ dvs) Q _ hgd hr I.env0 (hb s us I.kIn hl) r2 h) fun r s' hq => ?_)
  cases r with
  | error e => exact tk _ _ (XE.of_call I (fun _ _ _ z => z) hq)
  | ok fl =>
    cases fl with
    | ret u => exact I.after hq
    | next => exact False.elim hq
    | brk => exact False.elim hq
    | cont => exact False.elim hq
def tCG (X : Cx) (f : Addr) (t : TA) : TE := fun σ H Q => t σ H fun vs H1 => cgOf X f vs σ H1 Q
theorem pe_cg (hg : Gl X x) (hm : X.mg x = some (.ref f)) (hk : PySem.W.keepIn X.K (.ref f) = true) (hdb : (x == ("__debug__" : Str)) = false) (he : starEach (e :: es) X.env = (false, eval e X.env) :: starEach es X.env)
    (hpl : (backTo pos (starEach es X.env)).any (·.1) = false) : PE X (.Call (.Name x p) (e :: es) [] pos) (tCG X f (tOfA X (e :: es))) := by
  refine ⟨fun pins s σ H Q I h => ?_⟩
  refine wpAny_Call_Name_kw (ld_glob I hg hm ?_ hdb)
  refine PySem.W.callWith_K (h₀ := X.base) I.ok.mod.kin hk (thn (h pos pins s I) fun us s1 ⟨vs, H1, I1, r, q⟩ => ⟨I1.kIn, ?_⟩) he hpl
  exact q pins s1 us I1 r
theorem pe_cg0 (hg : Gl X x) (hm : X.mg x = some (.ref f)) (hk : PySem.W.keepIn X.K (.ref f) = true) (hdb : (x == ("__debug__" : Str)) = false) : PE X (.Call (.Name x p) [] [] pos) (fun σ H Q => cgOf X f [] σ H Q) := by
  refine ⟨fun pins s σ H Q I h => ?_⟩
  refine wpAny_Call_Name_kw (ld_glob I hg hm ?_ hdb)
  exact PySem.W.callWith_K0 I.kIn hk (h pins s [] I .nil)
end

/-! ### what a call leaves: the new cells go where nobody holds them -/
mutual
def D.lim (n : Nat) : D → Bool
  | .ref i => decide (i < n)
  | .tup ws => D.lims n ws
  | .kt ws => D.lims n ws
  | .tl ws => D.lims n ws
  | .fl ws => D.lims n ws
  | .xc _ _ ws => D.lims n ws
  | _ => true
def D.lims (n : Nat) : List D → Bool
  | [] => true
  | w :: ws => D.lim n w && D.lims n ws
end
def limK {κ : Type} (n : Nat) : List (κ × D) → Bool
  | [] => true
  | p :: ps => D.lim n p.2 && limK n ps
def Cl.lim (n : Nat) : Cl → Bool
  | .lst ws => D.lims n ws
  | .dK kvs => limK n kvs
  | .dT kvs => limK n kvs
  | .ins _ fs => limK n fs
/-- the cells of the caller as they were, or without a hold on new ones -/
def gcOk (n : Nat) : Hh → Hh → Bool
  | [], _ => true
  | c :: cs, d :: ds => (decide (d = c) || d.lim n) && gcOk n cs ds
  | _ :: _, [] => false
def gc (h : Hh) (w : D) (h' : Hh) : R D := if gcOk h.length h h' = true then
    if w.lim h.length = true then .ok w (h'.take h.length) else match w with
      | .ref i => match h'[i]? with
        | some (.lst ws) => if D.lims h.length ws = true ∧ h.length ≤ i then .ok (.tl ws) (h'.take h.length) else .ok w h'
        | some c => if c.lim h.length = true ∧ h.length ≤ i then .ok (.ref h.length) (h'.take h.length ++ [c]) else .ok w h'
        | none => .ok w h'
      | w => .ok w h'
  else .ok w h'
def gcX (h : Hh) (c : Nat) (fs : List (Str × D)) (h' : Hh) : R D := if gcOk h.length h h' = true ∧ limK h.length fs = true then .exc c fs (h'.take h.length) else .exc c fs h'
def gcR (h : Hh) (r : R D) : R D := match r with
  | .ok w h' => gc h w h'
  | .exc c fs h' => gcX h c fs h'
  | .bad => .bad
mutual
theorem RV.lim {g : Gx} {μ : List Addr} {H : Hp} : ∀ {w : D} {v : V}, RV g μ H w v → D.lim μ.length w = true
  | .non, _, _ => rfl
  | .bl _, _, _ => rfl
  | .int _, _, _ => rfl
  | .str _, _, _ => rfl
  | .ty _, _, _ => rfl
  | .fn _, _, _ => rfl
  | .cls _, _, _ => rfl
  | .ref i, _, r => by
    obtain ⟨a, e, _⟩ := r
    simp only [D.lim, decide_eq_true_eq]
    rcases Nat.lt_or_ge i μ.length with z | z
    · exact z
    · rw [List.getElem?_eq_none z] at e; cases e
  | .tup ws, _, r => by obtain ⟨_, _, _, _, z⟩ := r; simp only [D.lim]; exact RVs.lim z
  | .xc c ks ws, _, r => by obtain ⟨_, _, _, _, _, _, _, _, _, z⟩ := r; simp only [D.lim]; exact RVs.lim z
  | .kt ws, _, r => by obtain ⟨_, _, _, _, z⟩ := r; simp only [D.lim]; exact RVs.lim z
  | .fl ws, _, r => by obtain ⟨_, _, _, _, z⟩ := r; simp only [D.lim]; exact RVs.lim z
  | .tl ws, _, r => by obtain ⟨_, _, _, _, _, z⟩ := r; simp only [D.lim]; exact RVs.lim z
theorem RVs.lim {g : Gx} {μ : List Addr} {H : Hp} : ∀ {ws : List D} {vs : List V}, RVs g μ H ws vs → D.lims μ.length ws = true
  | [], _, _ => rfl
  | w :: ws, _, r => by
    obtain ⟨v, rr, _, _, q, z⟩ := r
    simp only [D.lims, RV.lim q, RVs.lim z, Bool.and_self]
end
mutual
theorem RV.cut {g : Gx} {μ e : List Addr} {H : Hp} : ∀ {w : D} {v : V}, D.lim μ.length w = true → RV g (μ ++ e) H w v → RV g μ H w v
  | .non, _, _, r => r
  | .bl _, _, _, r => r
  | .int _, _, _, r => r
  | .str _, _, _, r => r
  | .ty _, _, _, r => r
  | .fn _, _, _, r => r
  | .cls _, _, _, r => r
  | .ref i, _, l, r => by
    obtain ⟨a, ea, q⟩ := r
    simp only [D.lim, decide_eq_true_eq] at l
    rw [List.getElem?_append_left l] at ea
    exact ⟨a, ea, q⟩
  | .xc c ks ws, _, l, r => by obtain ⟨a, C, d, vs, e1, hC, q, hl, hd, z⟩ := r; exact ⟨a, C, d, vs, e1, hC, q, hl, hd, RVs.cut (by simpa only [D.lim] using l) z⟩
  | .tup ws, _, l, r => by obtain ⟨a, vs, e1, q, z⟩ := r; exact ⟨a, vs, e1, q, RVs.cut (by simpa only [D.lim] using l) z⟩
  | .kt ws, _, l, r => by obtain ⟨a, vs, e1, q, z⟩ := r; exact ⟨a, vs, e1, q, RVs.cut (by simpa only [D.lim] using l) z⟩
  | .fl ws, _, l, r => by obtain ⟨a, vs, e1, q, z⟩ := r; exact ⟨a, vs, e1, q, RVs.cut (by simpa only [D.lim] using l) z⟩
  | .tl ws, _, l, r => by obtain ⟨a, vs, e1, q, n, z⟩ := r; exact ⟨a, vs, e1, q, fun hm => n (List.mem_append_left _ hm), RVs.cut (by simpa only [D.lim] using l) z⟩
theorem RVs.cut {g : Gx} {μ e : List Addr} {H : Hp} : ∀ {ws : List D} {vs : List V}, D.lims μ.length ws = true → RVs g (μ ++ e) H ws vs → RVs g μ H ws vs
  | [], _, _, r => r
  | w :: ws, _, l, r => by
    obtain ⟨v, rr, e1, nt, q, z⟩ := r
    simp only [D.lims, Bool.and_eq_true] at l
    exact ⟨v, rr, e1, nt, RV.cut l.1 q, RVs.cut l.2 z⟩
end
section
variable {g : Gx} {μ e : List Addr} {H H' : Hp} {h h' : Hh}
theorem RKs.cut {κ : Type} : ∀ {ws : List (κ × D)} {vs : List (κ × V)}, limK μ.length ws = true → RKs g (μ ++ e) H ws vs → RKs g μ H ws vs
  | [], _, _, r => r
  | w :: ws, _, l, r => by
    obtain ⟨v, rr, e1, nt, q, z⟩ := r
    simp only [limK, Bool.and_eq_true] at l
    exact ⟨v, rr, e1, nt, q.cut l.1, RKs.cut l.2 z⟩
theorem RKs.lim {κ : Type} : ∀ {ws : List (κ × D)} {vs : List (κ × V)}, RKs g μ H ws vs → limK μ.length ws = true
  | [], _, _ => rfl
  | w :: ws, _, r => by
    obtain ⟨v, rr, _, _, q, z⟩ := r
    simp only [limK, q.lim, RKs.lim z, Bool.and_self]
theorem RC.lim {a : Addr} {c : Cl} (r : RC g μ H a c) : c.lim μ.length = true := by
  cases c with
  | lst ws => obtain ⟨_, _, z⟩ := r; exact z.lim
  | dK ws => obtain ⟨_, _, z⟩ := r; exact z.lim
  | dT ws => obtain ⟨_, _, z⟩ := r; exact z.lim
  | ins c fs => obtain ⟨_, _, _, _, _, z⟩ := r; exact z.lim
theorem RC.cut {a : Addr} {c : Cl} (l : c.lim μ.length = true) (r : RC g (μ ++ e) H a c) : RC g μ H a c := by
  cases c with
  | lst ws => obtain ⟨vs, q, z⟩ := r; exact ⟨vs, q, z.cut l⟩
  | dK ws => obtain ⟨vs, q, z⟩ := r; exact ⟨vs, q, z.cut l⟩
  | dT ws => obtain ⟨vs, q, z⟩ := r; exact ⟨vs, q, z.cut l⟩
  | ins c fs => obtain ⟨C, dx, vs, k, q, z⟩ := r; exact ⟨C, dx, vs, k, q, z.cut l⟩
theorem gcOk_get {n : Nat} : ∀ {h h' : Hh} {i : Nat} {c : Cl}, gcOk n h h' = true → i < h.length → h'[i]? = some c → h[i]? = some c ∨ c.lim n = true
  | [], _, i, c, _, hl, _ => by simp at hl
  | d :: ds, [], i, c, k, _, _ => by simp [gcOk] at k
  | d :: ds, d' :: ds', 0, c, k, _, e => by
    simp only [gcOk, Bool.and_eq_true, Bool.or_eq_true, decide_eq_true_eq] at k
    simp at e; subst e
    rcases k.1 with z | z
    · exact .inl (by simp [z])
    · exact .inr z
  | d :: ds, d' :: ds', i + 1, c, k, hl, e => by
    simp only [gcOk, Bool.and_eq_true] at k
    simp at e hl
    rcases gcOk_get k.2 (by simpa using hl) e with z | z
    · exact .inl (by simpa using z)
    · exact .inr z
theorem gcOk_len {n : Nat} : ∀ {h h' : Hh}, gcOk n h h' = true → h.length ≤ h'.length
  | [], _, _ => Nat.zero_le _
  | d :: ds, [], k => by simp [gcOk] at k
  | d :: ds, d' :: ds', k => by
    simp only [gcOk, Bool.and_eq_true] at k
    simp only [List.length_cons]
    exact Nat.succ_le_succ (gcOk_len k.2)
/-- the cells of the caller, by themselves -/
theorem RH.shrink (r0 : RH g μ h H) (r : RH g (μ ++ e) h' H') (k : gcOk h.length h h' = true) : RH g μ (h'.take h.length) H' := by
  have hl := gcOk_len k
  refine ⟨by rw [List.length_take, r0.len]; omega, r0.nd, fun i c ei => ?_⟩
  have hi : i < h.length := by
    rcases Nat.lt_or_ge i h.length with z | z
    · exact z
    · rw [List.getElem?_take_eq_none z] at ei; cases ei
  rw [List.getElem?_take_of_lt hi] at ei
  obtain ⟨a, ea, rc⟩ := r.cell i c ei
  rw [List.getElem?_append_left (by rw [r0.len]; exact hi)] at ea
  refine ⟨a, ea, rc.cut ?_⟩
  rcases gcOk_get k hi ei with z | z
  · obtain ⟨b, _, rc0⟩ := r0.cell i c z
    exact rc0.lim
  · rw [r0.len]; exact z
theorem Ext.shrink (x : Ext μ H (μ ++ e) H') : Ext μ H μ H' := ⟨⟨[], by simp, by simp⟩, x.fr, x.lv⟩
/-- what a call leaves is enough -/
theorem gc_ok {σ : L2.St} {Wx : WX} {r : R D} {Q' : VK} (r0 : RH g μ h H) (po : Po g Wx σ μ H (gcR h r) (fun w h' μ' H' => ∀ v, RV g μ' H' w v → Fr H w v → Q' v H')) :
    Po g Wx σ μ H r (fun w h' μ' H' => ∀ v, RV g μ' H' w v → Fr H w v → Q' v H') := by
  cases r with
  | bad => exact po
  | exc c fs h1 =>
    simp only [gcR, gcX] at po
    split at po
    · rename_i k
      intro μ1 H1 cv d x1 r1 xv
      obtain ⟨⟨e1, rfl, _⟩, _, _⟩ := id x1
      obtain ⟨C, vs, k1, k2, k3, z⟩ := xv
      exact po μ H1 cv d x1.shrink (r0.shrink r1 k.1) ⟨C, vs, k1, k2, k3, z.cut (by rw [r0.len]; exact k.2)⟩
    · exact po
  | ok w h1 =>
    simp only [gcR, gc] at po
    split at po
    · rename_i k
      intro μ1 H1 x1 r1 v qv fv
      obtain ⟨⟨e1, rfl, fr1⟩, _, _⟩ := id x1
      have r2 := r0.shrink r1 k
      split at po
      · rename_i kl
        exact po μ H1 x1.shrink r2 v (qv.cut (by rw [r0.len]; exact kl)) fv
      · split at po
        · rename_i i _
          have plain : ∀ {r : R D}, r = .ok (.ref i) h1 → Po g Wx σ μ H r (fun w h' μ' H' => ∀ v, RV g μ' H' w v → Fr H w v → Q' v H') → Q' v H1 := fun er p => by
            subst er; exact p (μ ++ e1) H1 x1 r1 v qv fv
          obtain ⟨a, ea, rfl⟩ := qv
          split at po
          · rename_i ws ec
            split at po
            · rename_i hc
              obtain ⟨b, eb, vs, hb, z⟩ := r1.cell i _ ec
              rw [ea] at eb; cases eb
              rw [List.getElem?_append_right (by rw [r0.len]; exact hc.2)] at ea
              have hm : a ∈ e1 := mem_of_get ea
              have na : a ∉ μ := fun h2 => (List.nodup_append.mp r1.nd).2.2 a h2 a hm rfl
              exact po μ H1 x1.shrink r2 (.ref a) ⟨a, vs, rfl, hb, na, z.cut (by rw [r0.len]; exact hc.1)⟩ fun c ec => by cases ec; exact fr1 a hm
            · exact plain rfl po
          · rename_i c ncl ec
            split at po
            · rename_i hc
              obtain ⟨b, eb, rc⟩ := r1.cell i _ ec
              rw [ea] at eb; cases eb
              rw [List.getElem?_append_right (by rw [r0.len]; exact hc.2)] at ea
              have hm : a ∈ e1 := mem_of_get ea
              have na : a ∉ μ := fun h2 => (List.nodup_append.mp r1.nd).2.2 a h2 a hm rfl
              have x3 : Ext μ H (μ ++ [a]) H1 := ⟨⟨[a], rfl, fun y hy => by
                have : y = a := by simpa using hy
                subst this; exact fr1 _ hm⟩, x1.fr, x1.lv⟩
              refine po (μ ++ [a]) H1 x3 (r2.track na (rc.cut (by rw [r0.len]; exact hc.1))) (.ref a) ⟨a, ?_, rfl⟩ (.of rfl)
              rw [← r0.len]; simp
            · exact plain rfl po
          · exact plain rfl po
        · exact po (μ ++ e1) H1 x1 r1 v qv fv
    · exact po
end
end PV
end
section
/-! PVA15: dict displays; keyword arguments. -/
namespace PV
open PySem PySem.Spec PyProof.Rows L2

/-! ### dict displays -/
def mPairs : List (M D × M D) → M (List (D × D))
  | [] => fun _ h => .ok [] h
  | (k, v) :: r => fun σ h => (k σ h).bind fun x h1 => (v σ h1).bind fun y h2 => (mPairs r σ (stash y h2).2).bind fun ps h3 => .ok ((x, (stash y h2).1) :: ps) h3
def keyed : List (D × D) → Option (List (Key × D))
  | [] => some []
  | (k, v) :: r => match toK k, keyed r with
    | some k, some r => some ((k, v) :: r)
    | _, _ => none
def mergeD (more : List (Key × D)) : List (Key × D) := more.foldl (fun acc kv => putD acc kv.1 kv.2) []
def mDisp (ps : List (M D × M D)) : M D := fun σ h => (mPairs ps σ h).bind fun kvs h1 => match keyed kvs with
  | some kvs => if kvs.length ≤ 15 then .ok (.ref h1.length) (h1 ++ [.dK (mergeD kvs)]) else .bad
  | none => .bad
/-- pairs of related values -/
def RPs (g : Gx) (μ : List Addr) (H : Hp) : List (D × D) → List (V × V) → Prop
  | [], vs => vs = []
  | p :: ps, vs => ∃ k v r, vs = (k, v) :: r ∧ RV g μ H p.1 k ∧ p.2.isTl = false ∧ RV g μ H p.2 v ∧ RPs g μ H ps r
inductive SPs (g : Gx) (X : Cx) (Wx : WX) : List (Option Expr) → List Expr → List (M D × M D) → Prop
  | nil : SPs g X Wx [] [] []
  | cons {k v : Expr} {ks : List (Option Expr)} {vs : List Expr} {mk mv : M D} {ms : List (M D × M D)} (hk : SE g X Wx k mk) (hv : SE g X Wx v mv) (hr : SPs g X Wx ks vs ms) : SPs g X Wx (some k :: ks) (v :: vs) ((mk, mv) :: ms)
section
variable {g : Gx} {X : Cx} {Wx : WX} {keys : List (Option Expr)} {values : List Expr} {ms : List (M D × M D)} {pos : Pos}
/-- the weakest readings of the pairs -/
def trsOf (X : Cx) : List (Option Expr) → List Expr → List (TE × TE)
  | some k :: ks, v :: vs => (tOf X k, tOf X v) :: trsOf X ks vs
  | _, _ => []
theorem pps_of (h : SPs g X Wx keys values ms) : PPs X pos keys values (trsOf X keys values) := by
  induction h with
  | nil => exact pps_nil
  | cons _ _ _ ih => exact pps_cons pe_of pe_of ih
theorem pairs_ok (h : SPs g X Wx keys values ms) : ∀ (σw : Sg) (hh : Hh) (σ : L2.St) (H : Hp) (μ : List Addr) (Q : List (V × V) → Hp → Prop), RS g μ H σw σ → RH g μ hh H →
    Po g Wx σ μ H (mPairs ms σw hh) (fun ps h' μ' H' => ∀ vs, RPs g μ' H' ps vs → Q vs H') → tPairs (trsOf X keys values) σ H Q := by
  induction h with
  | nil => intro σw hh σ H μ Q rs rh po; exact po.at rh [] rfl
  | @cons k v ks vs mk mv ms hk hv hr ih =>
    intro σw hh σ H μ Q rs rh po
    refine hk σw hh σ H μ _ rs rh (po.bind.imp fun x h1 μ1 H1 x1 r1 p1 vx qx fx => ?_)
    have rs1 := rs.ext rh.trk x1
    refine hv σw h1 σ H1 μ1 _ rs1 r1 (p1.bind2.imp fun y h2 μ2 H2 x2 r2 p2 vy qy fy => ?_)
    obtain ⟨μ2', x2', r2', q2', _⟩ := stash_ok r2 qy fy x2
    refine ih σw _ σ H2 μ2' _ (rs1.ext r1.trk x2') r2' ((p2 μ2' H2 x2').bind.imp fun ps h3 μ3 H3 x3 r3 p3 vs qs => ?_)
    exact p3.at r3 _ ⟨vx, vy, vs, rfl, (qx.ext r1.trk x2').ext r2'.trk x3, stash_isTl, q2'.ext r2'.trk x3, qs⟩
theorem keyed_ok {μ : List Addr} {H : Hp} : ∀ {ps : List (D × D)} {kvs : List (Key × D)} {vs : List (V × V)}, keyed ps = some kvs → RPs g μ H ps vs → ∃ us : List (Key × V), vs = us.map (fun kv => (kV kv.1, kv.2)) ∧ RKs g μ H kvs us
  | [], kvs, vs, e, r => by
    unfold keyed at e; cases e
    exact ⟨[], r, rfl⟩
  | (k, w) :: ps, kvs, vs, e, r => by
    obtain ⟨vk, v, rr, rfl, qk, nt, qv, z⟩ := r
    unfold keyed at e
    split at e
    · rename_i k' r' e1 e2
      cases e
      obtain ⟨us, rfl, zz⟩ := keyed_ok e2 z
      rw [show vk = kV k' from toK_ok e1 qk]
      exact ⟨(k', v) :: us, rfl, v, us, rfl, nt, qv, zz⟩
    · cases e
theorem merge_ok {μ : List Addr} {H : Hp} : ∀ {more : List (Key × D)} {vs : List (Key × V)} {acc : List (Key × D)} {us : List (Key × V)}, RKs g μ H more vs → RKs g μ H acc us →
    RKs g μ H (more.foldl (fun acc kv => putD acc kv.1 kv.2) acc) (vs.foldl (fun acc kv => putK acc kv.1 kv.2) us)
  | [], vs, acc, us, r, s => by rw [show vs = [] from r]; exact s
  | p :: more, _, acc, us, r, s => by
    obtain ⟨v, rr, rfl, nt, q, z⟩ := r
    exact merge_ok (more := more) (vs := rr) (acc := putD acc p.1 p.2) (us := putK us p.1 v) z (putD_ok s p.1 nt q)
theorem se_disp (hs : SPs g X Wx keys values ms) (hall : keys.all (·.isSome) = true) (hl : keys.length = values.length) (h0 : keys ≠ []) (h15 : keys.length ≤ 15) : SE g X Wx (.Dict keys values pos) (mDisp ms) := by
  intro σw h σ H μ Q rs rh po
  refine peAt (pe_disp (pps_of hs) hall hl h0 h15) fun p np => ?_
  refine pairs_ok hs σw h σ _ μ _ (rs.ext rh.trk (.new rh.trk np)) (rh.new np) ((po.bind2.ext (.new rh.trk np)).imp fun kvs h1 μ1 H1 x1 r1 p1 vs qs => ?_)
  have x01 : Ext μ H μ1 H1 := (Ext.new rh.trk np).trans x1
  have np1 : p ∉ μ := fun hm => rh.trk.ne np hm rfl
  have hp1 : H1 p = some (.dK []) := x1.fr p _ upd_same np1
  have np2 : p ∉ μ1 := x1.notin upd_same np1
  have key : ∀ kvs', keyed kvs = some kvs' → kvs'.length ≤ 15 → (∀ μ2 H2, Ext μ H μ2 H2 → Po g Wx σ μ2 H2 (.ok (.ref h1.length) (h1 ++ [.dK (mergeD kvs')]) : R D) (fun w h' μ' H' => ∀ v, RV g μ' H' w v → Fr H w v → Q v H')) →
      H1 p = some (.dK []) ∧ ∃ us : List (Key × V), vs = us.map (fun kv => (kV kv.1, kv.2)) ∧ us.length ≤ 15 ∧ Q (.ref p) (upd H1 p (.dK (mergeK [] us))) := by
    intro kvs' ek hlen p2
    obtain ⟨us, rfl, z⟩ := keyed_ok ek qs
    refine ⟨hp1, us, rfl, by rw [z.length]; exact hlen, ?_⟩
    have z2 : RKs g μ1 H1 (mergeD kvs') (mergeK [] us) := merge_ok z rfl
    have r2 : RH g μ1 h1 (upd H1 p (.dK (mergeK [] us))) := r1.upd hp1 rfl np2
    have x2 : Ext μ H (μ1 ++ [p]) (upd H1 p (.dK (mergeK [] us))) := by
      have x3 := x01.updN (o' := .dK (mergeK [] us)) rh.trk np
      obtain ⟨⟨e1, rfl, f1⟩, f2, f3⟩ := x3
      exact ⟨⟨e1 ++ [p], by simp, fun y hy => by
        rcases List.mem_append.mp hy with hy | hy
        · exact f1 y hy
        · have : y = p := by simpa using hy
          subst this; exact np⟩, f2, f3⟩
    have r3 := r2.track (c := .dK (mergeD kvs')) np2 ⟨_, upd_same, z2.upd hp1 rfl⟩
    exact (p2 _ _ x2).at r3 (.ref p) ⟨p, by rw [← r1.len]; simp, rfl⟩ (.of rfl)
  cases ek : keyed kvs with
  | none => rw [ek] at p1; exact (p1 μ1 H1 x01).elim
  | some kvs' =>
    rw [ek] at p1
    by_cases hlen : kvs'.length ≤ 15
    · simp only [hlen, if_true] at p1
      exact key kvs' ek hlen p1
    · simp only [hlen, if_false] at p1
      exact (p1 μ1 H1 x01).elim
end

/-! ### calls of own defs -/
/-- the values in the order of the parameters -/
def permL {α : Type} (perm : List Nat) (l : List α) : Option (List α) := mapO (fun i => l[i]?) perm
abbrev Cll := Nat → List D → Hh → R D
def mCall (cl : Cll) (f : Nat) (m : M (List D)) : M D := fun σ h => gcR h ((m σ h).bind fun ws h1 => cl f ws h1)
def mCallP (cl : Cll) (f : Nat) (m : M (List D)) (perm : List Nat) : M D := fun σ h => gcR h ((m σ h).bind fun ws h1 => match permL perm ws with
  | some ws => cl f ws h1
  | none => .bad)
/-- a def by its own-level meaning -/
def spOf (g : Gx) (n : Nat) (cl : List D → Hh → R D) : Sp := fun vs H Q E => ∃ (ws : List D) (h : Hh) (μ : List Addr) (σ : L2.St), vs.length = n ∧ RVs g μ H ws vs ∧ RH g μ h H ∧
  Po g (fun cv d _ H' => E cv d H') σ μ H (cl ws h) (fun w h' μ' H' => ∀ v, RV g μ' H' w v → Fr H w v → Q v H')
section
variable {g : Gx} {X : Cx} {Wx : WX} {k : Nat} {f : Nat} {fa : Addr} {fd : FuncData} {ps : List Str} {cl : Cll} {x : Str} {p pos : Pos} {e : Expr} {es : List Expr} {ms : List (M D)}
theorem cg_own {n : Nat} {ds : List Value} {dws : List D} {dvs : List V} {σ : L2.St} {H : Hp} {Q : VK} {vs : List V} {ws : List D} {h : Hh} {μ : List Addr} (tk : Takes X Wx) (hgd : X.A.guards = some []) (hr : Room k X.A)
    (F : FnG X.prog X.w X.K X.mg X.base (CX X.prog X.w) k fa fd ps (spOf g ps.length (cl f))) (hb : Binds X.K fd ps ds) (hd : Vals dvs ds) (rd : RVs g μ H dws dvs)
    (hl : vs.length + dvs.length = ps.length) (q : RVs g μ H ws vs) (rh : RH g μ h H)
    (po : Po g Wx σ μ H (cl f (ws ++ dws) h) (fun w h' μ' H' => ∀ v, RV g μ' H' w v → Fr H w v → Q v H')) : cgOf X fa vs σ H Q := by
  refine cg_run tk hgd F hr hb hd ⟨ws ++ dws, h, μ, σ, by rw [List.length_append]; exact hl, q.append rd, rh, ?_⟩
  cases hx : cl f (ws ++ dws) h with
  | ok w h1 => rw [hx] at po; exact po
  | exc c fs h1 => rw [hx] at po; exact po
  | bad => rw [hx] at po; exact po
theorem se_call {ds : List Value} {dws : List D} {dvs : List V} (tk : Takes X Wx) (hgd : X.A.guards = some []) (hr : Room k X.A) (F : FnG X.prog X.w X.K X.mg X.base (CX X.prog X.w) k fa fd ps (spOf g ps.length (cl f)))
    (hb : Binds X.K fd ps ds) (hd : Vals dvs ds) (rd : ∀ μ H, RVs g μ H dws dvs) (hg : Gl X x) (hm : X.mg x = some (.ref fa)) (hk : PySem.W.keepIn X.K (.ref fa) = true) (hdb : (x == ("__debug__" : Str)) = false)
    (he : starEach (e :: es) X.env = (false, eval e X.env) :: starEach es X.env) (hpl : (backTo pos (starEach es X.env)).any (·.1) = false) (hl : ms.length + dws.length = ps.length)
    (ha : SA g X Wx (e :: es) (mArgs ms)) : SE g X Wx (.Call (.Name x p) (e :: es) [] pos) (mCall (fun f ws h => cl f (ws ++ dws) h) f (mArgs ms)) := by
  intro σw h σ H μ Q rs rh po
  refine peAt (pe_cg hg hm hk hdb he hpl) ?_
  have po2 := gc_ok rh po
  cases hx : mArgs ms σw h with
  | bad => rw [hx] at po2; exact po2.elim
  | exc c fs h1 =>
    rw [hx] at po2
    refine ha σw h σ H μ _ rs rh ?_
    rw [hx]; exact po2
  | ok ws h1 =>
    rw [hx, R.bind_ok] at po2
    refine ha σw h σ H μ _ rs rh ?_
    rw [hx]
    intro μ1 H1 x1 r1 vs qs
    have l1 := qs.length
    have l2 := mArgs_len hx
    have l3 := (rd μ1 H1).length
    exact cg_own (n := 0) tk hgd hr F hb hd (rd μ1 H1) (by omega) qs r1 ((po2.ext x1).imp fun w h3 μ3 H3 x3 r3 q3 v qv fv => q3 v qv (fv.back x1))
theorem se_call0 {ds : List Value} {dws : List D} {dvs : List V} (tk : Takes X Wx) (hgd : X.A.guards = some []) (hr : Room k X.A) (F : FnG X.prog X.w X.K X.mg X.base (CX X.prog X.w) k fa fd ps (spOf g ps.length (cl f)))
    (hb : Binds X.K fd ps ds) (hd : Vals dvs ds) (rd : ∀ μ H, RVs g μ H dws dvs) (hg : Gl X x) (hm : X.mg x = some (.ref fa)) (hk : PySem.W.keepIn X.K (.ref fa) = true) (hdb : (x == ("__debug__" : Str)) = false)
    (hl : dws.length = ps.length) : SE g X Wx (.Call (.Name x p) [] [] pos) (mCall (fun f ws h => cl f (ws ++ dws) h) f (mArgs [])) := by
  intro σw h σ H μ Q rs rh po
  refine peAt (pe_cg0 hg hm hk hdb) ?_
  have po2 := gc_ok rh po
  have l3 := (rd μ H).length
  exact cg_own (n := 0) tk hgd hr F hb hd (rd μ H) (by simpa using l3.trans hl) (show RVs g μ H [] [] from rfl) rh po2
/-! ### with keywords -/
def tOfK (X : Cx) (kws : List Keyword) : TA := fun σ H Q => ∀ pos pins s, Inv X pins σ H s → wpAny (model X.prog X.w) X.A (evalAll ((backToKw pos (keywordEach kws X.env)).map (·.2))) (AP X pins σ Q) X.xe s
theorem pk_of {kws : List Keyword} : PK X kws (tOfK X kws) := ⟨fun pos pins s σ H Q I h => h pos pins s I⟩
theorem pkAt {kws : List Keyword} {t : TA} (p : PK X kws t) {σ : L2.St} {H : Hp} {Q : List V → Hp → Prop} (h : t σ H Q) : tOfK X kws σ H Q := fun pos pins s I => p.run pos pins s σ H Q I h
def SK (g : Gx) (X : Cx) (Wx : WX) (kws : List Keyword) (m : M (List D)) : Prop := ∀ (σw : Sg) (h : Hh) (σ : L2.St) (H : Hp) (μ : List Addr) (Q : List V → Hp → Prop), RS g μ H σw σ → RH g μ h H →
  Po g Wx σ μ H (m σw h) (fun ws h' μ' H' => ∀ vs, RVs g μ' H' ws vs → Q vs H') → tOfK X kws σ H Q
theorem sk_nil : SK g X Wx [] (mArgs []) := fun σw h σ H μ Q rs rh po => pkAt pk_nil (po.at rh [] rfl)
theorem sk_cons {nm : Option Str} {kpos : Pos} {kws : List Keyword} {ma : M D} (ha : SE g X Wx e ma) (hr : SK g X Wx kws (mArgs ms)) : SK g X Wx (⟨nm, e, kpos⟩ :: kws) (mArgs (ma :: ms)) := by
  intro σw h σ H μ Q rs rh po
  refine pkAt (pk_cons pe_of pk_of) (ha σw h σ H μ _ rs rh (po.bind2.imp fun w h1 μ1 H1 x1 r1 p1 v qv fv => ?_))
  obtain ⟨μ1', x1', r1', q1', _⟩ := stash_ok r1 qv fv x1
  refine hr σw _ σ H1 μ1' _ (rs.ext rh.trk x1') r1' ((p1 μ1' H1 x1').bind.imp fun ws h2 μ2 H2 x2 r2 p2 vs qs => ?_)
  exact p2.at r2 (v :: vs) ⟨v, vs, rfl, stash_isTl, q1'.ext r1'.trk x2, qs⟩
/-- how a call with keywords binds -/
def KB (K : PySem.W.Frag) (fd : FuncData) (ps : List Str) (n : Nat) (ks : List Str) (perm : List Nat) : Prop := ∀ (s : Shared) (us ws xs : List Value), K.In s.heap → us.length = n → ws.length = ks.length → permL perm (us ++ ws) = some xs →
  BindsTo s fd ⟨us, ks.zip ws⟩ (ps.zip xs)
theorem mArgs_app : ∀ {ms ns : List (M D)} {σw : Sg} {h : Hh}, mArgs (ms ++ ns) σw h = (mArgs ms σw h).bind fun ws h1 => (mArgs ns σw h1).bind fun us h2 => .ok (ws ++ us) h2
  | [], ns, σw, h => by
    simp only [List.nil_append, mArgs, R.bind_ok]
    cases mArgs ns σw h <;> rfl
  | m :: ms, ns, σw, h => by
    simp only [List.cons_append, mArgs]
    cases h2 : m σw h with
    | bad => rfl
    | exc _ _ _ => rfl
    | ok w hh =>
      simp only [R.bind_ok]
      rw [mArgs_app]
      cases mArgs ms σw (stash w hh).2 with
      | bad => rfl
      | exc _ _ _ => rfl
      | ok ws h3 =>
        simp only [R.bind_ok]
        cases mArgs ns σw h3 <;> rfl
theorem permL_rel {μ : List Addr} {H : Hp} {ws xs : List D} {vs : List V} : ∀ {perm : List Nat}, permL perm ws = some xs → RVs g μ H ws vs → ∃ ys, permL perm vs = some ys ∧ RVs g μ H xs ys
  | perm, e, r => by
    unfold permL at e ⊢
    induction perm generalizing xs with
    | nil => unfold mapO at e; cases e; exact ⟨[], rfl, rfl⟩
    | cons i perm ih =>
      unfold mapO at e
      split at e
      · rename_i a b ea eb
        cases e
        obtain ⟨v, ev, nt, q⟩ := r.get ea
        obtain ⟨ys, ey, z⟩ := ih eb
        refine ⟨v :: ys, ?_, v, ys, rfl, nt, q, z⟩
        unfold mapO
        rw [ev, ey]
      · cases e
theorem permL_vals {vs ys : List V} {us : List Value} : ∀ {perm : List Nat}, permL perm vs = some ys → Vals vs us → ∃ xs, permL perm us = some xs ∧ Vals ys xs
  | perm, e, r => by
    unfold permL at e ⊢
    induction perm generalizing ys with
    | nil => unfold mapO at e; cases e; exact ⟨[], rfl, .nil⟩
    | cons i perm ih =>
      unfold mapO at e
      split at e
      · rename_i a b ea eb
        cases e
        obtain ⟨u, eu, q⟩ := r.get ea
        obtain ⟨xs, ex, z⟩ := ih eb
        refine ⟨u :: xs, ?_, .cons q z⟩
        unfold mapO
        rw [eu, ex]
      · cases e
/-- the call by values, with keywords -/
theorem cgK_run {kws : List Keyword} {ks : List Str} {perm : List Nat} {n : Nat} {σ : L2.St} {H : Hp} {Q : VK} {vs zs ys : List V} {us zus : List Value} {pins : List (Addr × Obj)} {s : Shared} {sp : Sp} (tk : Takes X Wx) (hgd : X.A.guards = some []) (hr : Room k X.A)
    (F : FnG X.prog X.w X.K X.mg X.base (CX X.prog X.w) k fa fd ps sp) (kb : KB X.K fd ps n ks perm) (I : Inv X pins σ H s) (r : Vals vs us) (rz : Vals zs zus) (hn : vs.length = n) (hz : zs.length = ks.length)
    (ep : permL perm (vs ++ zs) = some ys) (h : sp ys H Q (fun cv d H' => Wx cv d σ H')) : wpAny (model X.prog X.w) X.A (call (.ref fa) us (ks.zip zus)) (EP X pins σ Q) X.xe s := by
  obtain ⟨xs, ex, rx⟩ := permL_vals ep (r.append rz)
  have hu : us.length = n := by rw [← r.length]; exact hn
  have hw : zus.length = ks.length := by rw [← rz.length]; exact hz
  refine wpAny_call (codeAny_mono (F.run X.A X.stack s H ⟨us, ks.zip zus⟩ xs ys Q _ hgd hr I.env0 (kb s us zus xs I.kIn hu hw ex) rx h) fun r s' hq => ?_)
  cases r with
  | error e => exact tk _ _ (XE.of_call I (fun _ _ _ z => z) hq)
  | ok fl =>
    cases fl with
    | ret u => exact I.after hq
    | next => exact False.elim hq
    | brk => exact False.elim hq
    | cont => exact False.elim hq
theorem se_callK0 {kws : List Keyword} {ks : List Str} {perm : List Nat} (tk : Takes X Wx) (hgd : X.A.guards = some []) (hr : Room k X.A) (F : FnG X.prog X.w X.K X.mg X.base (CX X.prog X.w) k fa fd ps (spOf g ps.length (cl f)))
    (kb : KB X.K fd ps 0 ks perm) (hg : Gl X x) (hm : X.mg x = some (.ref fa)) (hk : PySem.W.keepIn X.K (.ref fa) = true) (hdb : (x == ("__debug__" : Str)) = false)
    (hall : (backToKw pos (keywordEach kws X.env)).all (·.1.isSome) = true) (hks : (backToKw pos (keywordEach kws X.env)).filterMap (·.1) = ks) (hno : (backToKw pos (keywordEach kws X.env)).any (·.1.isNone) = false)
    (hp : perm.length = ps.length) (hlk : ms.length = ks.length) (ha : SK g X Wx kws (mArgs ms)) : SE g X Wx (.Call (.Name x p) [] kws pos) (mCallP cl f (mArgs ms) perm) := by
  intro σw h σ H μ Q rs rh po
  have po2 := gc_ok rh po
  intro pins s I
  refine wpAny_Call_Name_kw (ld_glob I hg hm ?_ hdb)
  have main : tOfK X kws σ H fun zs H1 => ∀ pins s us, Inv X pins σ H1 s → Vals zs us → wpAny (model X.prog X.w) X.A (call (.ref fa) [] (ks.zip us)) (EP X pins σ Q) X.xe s := by
    refine ha σw h σ H μ _ rs rh ?_
    cases hx : mArgs ms σw h with
    | bad => rw [hx] at po2; exact po2.elim
    | exc c fs h1 => rw [hx] at po2; exact po2
    | ok ws h1 =>
      rw [hx, R.bind_ok] at po2
      intro μ1 H1 x1 r1 vs qs pins s us I r
      have l1 := qs.length
      have l2 := mArgs_len hx
      cases ep : permL perm ws with
      | none => rw [ep] at po2; exact po2.elim
      | some xs =>
        rw [ep] at po2
        simp only at po2
        obtain ⟨ys, ey, z⟩ := permL_rel ep qs
        refine cgK_run (kws := kws) tk hgd hr F kb I (.nil) r rfl (by omega) (by simpa using ey) ⟨xs, h1, μ1, σ, ?_, z, r1, ?_⟩
        · rw [mapO_len ey]; exact hp
        · have po3 := (po2.ext x1).imp (Q' := fun w h' μ' H' => ∀ v, RV g μ' H' w v → Fr H1 w v → Q v H') fun w h3 μ3 H3 x3 r3 q3 v qv fv => q3 v qv (fv.back x1)
          cases hc : cl f xs h1 with
          | ok w h4 => rw [hc] at po3; exact po3
          | exc c fs h4 => rw [hc] at po3; exact po3
          | bad => rw [hc] at po3; exact po3
  refine PySem.W.callWith_KW0 (h₀ := X.base) I.ok.mod.kin hk hall (thn (main pos pins s I) fun us s1 ⟨vs, H1, I1, r, q⟩ => ⟨I1.kIn, ?_⟩) (by rw [hno]; rfl)
  rw [hks]
  exact q pins s1 us I1 r
end
end PV
end
section
/-! PVA16: some more rules; the inner language and what it does. -/
namespace PV
open PySem PySem.Spec PyProof.Rows L2

/-! ### -x, a op b op c -/
def negW (x : D) (h : Hh) : R D := match x with
  | .int i => .ok (.int (-i)) h
  | _ => .bad
def mChain (f f' : D → D → Hh → R D) (a b c : M D) : M D := fun σ h => (a σ h).bind fun x h1 => (b σ h1).bind fun y h2 => (f x y h2).bind fun z h3 => match z with
  | .bl true => (c σ h3).bind fun w h4 => f' y w h4
  | .bl false => .ok (.bl false) h3
  | _ => .bad
section
variable {g : Gx} {X : Cx} {Wx : WX} {a b c : Expr} {ma mb mc : M D} {f f' : D → D → Hh → R D} {pos : Pos}
theorem se_neg (ha : SE g X Wx a ma) : SE g X Wx (.UnaryOp .USub a pos) (mF1 negW ma) := by
  intro σw h σ H μ Q rs rh po
  refine peAt (pe_un un_neg pe_of) (ha σw h σ H μ _ rs rh (po.bind.imp fun x h1 μ1 H1 x1 r1 p1 v qv fv => ?_))
  unfold negW at p1
  split at p1
  · exact ⟨_, qv, p1.at r1 _ rfl (.of rfl)⟩
  · exact p1.elim
theorem chain_run {op op' : CmpOp} (so : SO g X Wx (compareOp op) f) (so' : SO g X Wx (compareOp op') f') (ha : SE g X Wx a ma) (hb : SE g X Wx b mb) (hc : SE g X Wx c mc) {σw : Sg} {h : Hh} {σ : L2.St} {H : Hp} {μ : List Addr} {Q : VK} (rs : RS g μ H σw σ) (rh : RH g μ h H)
    (po : Po g Wx σ μ H (mChain f f' ma mb mc σw h) (fun w h' μ' H' => ∀ v, RV g μ' H' w v → Fr H w v → Q v H')) : tChain (rOf X (compareOp op)) (rOf X (compareOp op')) (tOf X a) (tOf X b) (tOf X c) σ H Q := by
  refine ha σw h σ H μ _ rs rh (po.bind.imp fun x h1 μ1 H1 x1 r1 p1 vx qx fx => ?_)
  refine hb σw h1 σ H1 μ1 _ (rs.ext rh.trk x1) r1 (p1.bind.imp fun y h2 μ2 H2 x2 r2 p2 vy qy fy => ?_)
  have rs2 := rs.ext rh.trk (x1.trans x2)
  refine so x y h2 σ H2 μ2 vx vy _ r2 (qx.ext r1.trk x2) qy (p2.bind.imp fun z h3 μ3 H3 x3 r3 p3 vz qz fz => ?_)
  split at p3
  · refine ⟨true, qz, ?_⟩
    rw [if_pos rfl]
    refine hc σw h3 σ H3 μ3 _ (rs2.ext r2.trk x3) r3 (p3.bind.imp fun w h4 μ4 H4 x4 r4 p4 vw qw fw => ?_)
    exact so' y w h4 σ H4 μ4 vy vw Q r4 ((qy.ext r2.trk x3).ext r3.trk x4) qw (p4.imp fun w5 h5 μ5 H5 x5 r5 q5 v qv fv => q5 v qv (fv.back (((x1.trans x2).trans x3).trans x4)))
  · refine ⟨false, qz, ?_⟩
    rw [if_neg Bool.false_ne_true]
    exact p3.at r3 _ rfl (.of rfl)
  · exact p3.elim
theorem se_chain {op op' : CmpOp} (so : SO g X Wx (compareOp op) f) (so' : SO g X Wx (compareOp op') f') (ha : SE g X Wx a ma) (hb : SE g X Wx b mb) (hc : SE g X Wx c mc) (hm : lastMarks [op, op'] [b, c] = false) :
    SE g X Wx (.Compare a [op, op'] [b, c] pos) (mChain f f' ma mb mc) := fun σw h σ H μ Q rs rh po => peAt (pe_chain op_of op_of pe_of pe_of pe_of hm) (chain_run so so' ha hb hc rs rh po)
theorem st_chain {op op' : CmpOp} (so : SO g X Wx (compareOp op) f) (so' : SO g X Wx (compareOp op') f') (ha : SE g X Wx a ma) (hb : SE g X Wx b mb) (hc : SE g X Wx c mc) (hm : lastMarks [op, op'] [b, c] = false) :
    ST g X Wx (.Compare a [op, op'] [b, c] pos) (mB (mChain f f' ma mb mc)) := fun σw h σ H μ Q rs rh po => ptAt (pt_chain op_of op_of pe_of pe_of pe_of hm) (chain_run (Q := fun v H' => ∃ k, v = .bl k ∧ Q k H') so so' ha hb hc rs rh (test_of po))
end

/-! ### comprehensions with two clauses; assigned at once -/
section
variable {g : Gx} {X : Cx} {Wx : WX} {elt tg iter tg1 iter1 : Expr} {ifs ifs1 : List Expr} {scope : Scope} {own : List (Str × Nat)} {pos : Pos} {mi mi1 : M Src} {t t1 : Tg} {mt mt1 : M Bool} {me : M D} {vs1 : List Nat}
theorem lc2_read (hi : SI g X Wx tg iter mi) (hg : SBG g X scope tg t) (hts : STs g X scope ifs mt) (hi1 : SBI g X scope tg1 iter1 mi1) (hg1 : SBG g X scope tg1 t1) (hts1 : STs g X scope ifs1 mt1) (he : SB g X scope elt me)
    (hsl : ∀ i ∈ t.slots, i ∈ own.map (·.2)) (hsl1 : ∀ i ∈ t1.slots, i ∈ vs1)
    {σw : Sg} {h : Hh} {σ : L2.St} {H : Hp} {μ : List Addr} {Q : VK} (rs : RS g μ H σw σ) (rh : RH g μ h H)
    (po : Po g Wx σ μ H (mLc2 mi t mt mi1 t1 mt1 me (own.map (·.2)) vs1 σw h) (fun w h' μ' H' => ∀ v, RV g μ' H' w v → Fr H w v → Q v H')) :
    tLc2 (tOfI X tg iter) (tBG X scope tg) (tTs X scope ifs) (tBI X scope tg1 iter1) (tBG X scope tg1) (tTs X scope ifs1) (tB1 X scope elt) (own.map (·.2)) vs1 σ H Q := by
  refine hi σw h σ H μ _ rs rh (po.bind.imp fun src h1 μ1 H1 x1 r1 p1 J sk D nD => ?_)
  have rs1 := (rs.ext rh.trk x1).wipe (own.map (·.2))
  generalize hbd : (fun (acc : List PV.D) (σ1 : Sg) (h : Hh) => (noX (mt σ1 h)).bind fun b h2 => if b = true then (noX (mi1 σ1 h2)).bind fun src1 h3 => lcL src1 t1 (bodyE mt1 me) (wipeW σ1 vs1) loopN 0 acc h3 else .ok acc h2) = bd at p1
  have nb : ∀ acc σ h c fs h', bd acc σ h ≠ .exc c fs h' := by
    intro acc σ h c fs h' z
    rw [← hbd] at z
    rcases bind_exc z with z | ⟨b, h2, _, z⟩
    · exact noX_exc z
    · split at z
      · rcases bind_exc z with z | ⟨y, h3, _, z⟩
        · exact noX_exc z
        · exact lcL_exc (fun _ _ _ _ _ _ => bodyE_exc) _ _ _ _ z
      · cases z
  have pl := lc_fin (fun c fs h => lcL_exc nb _ _ _ _) x1 nD p1
  have go := grExt (a := D) r1.trk nD
  refine loop_ok (rel := relL g) go relL_mono (fun μ H h x r i => (sk.ext x).at r i) (fun w x acc h μ H' σ1 Nx G nt qx e2 p2 => ?_) (gd_new r1 nD) pl
  intro s0 H0 C cl fp
  refine hg s0 H0 C cl fp w x _ σ1 h _ H' μ _ (rs1.ext r1.trk G.x) G.r nt qx e2 fun σ' rs' w' => ⟨by rw [w' _ hsl, wipe_wipe], ?_⟩
  rw [← hbd] at p2
  refine tests_ok hts rs' G.r ((PoL.po (rel := relL g) go relL_mono G p2).imp fun b h2 μ2 H2 x2 r2 q2 => ?_)
  obtain ⟨G2, p3⟩ := q2
  have G2 := G2 μ2 H2 x2 r2
  have rs2 := rs'.ext G.r.trk x2
  cases b with
  | false => exact p3 μ2 H2 G2
  | true =>
    simp only [if_true] at p3 ⊢
    intro s0 H0 C cl fp
    refine hi1 s0 H0 C cl fp σ1 h2 σ' H2 μ2 _ rs2 r2 ((PoL.po (rel := relL g) go relL_mono G2 p3).imp fun src1 h3 μ3 H3 x3 r3 q3 J1 sk1 => ?_)
    obtain ⟨G3, p4⟩ := q3
    have G3 := G3 μ3 H3 x3 r3
    have sD : InFl μ2 H2 D := by
      obtain ⟨o, eo, mo, _⟩ := G2.ob
      exact ⟨o, eo, mo, G2.na⟩
    have rs3 := (rs2.ext r2.trk x3).wipe vs1
    generalize InFl μ2 H2 = S at sk1 sD
    -- the inner loop, over a ground of its own
    let Gr : List Addr → Hp → Prop := fun μ H => Ext μ1 H1 μ H ∧ ExtS S μ3 H3 μ H ∧ SOk S μ H ∧ RS g μ H (wipeW σ1 vs1) (wipe σ' vs1)
    have go1 : GrOk Gr D := by
      refine ⟨fun {μ H μ' H'} gr tr x => ?_, fun {μ H o o'} gr eo mo no mo' => ?_⟩
      · obtain ⟨y1, y2, y3, y4⟩ := gr
        exact ⟨y1.trans x, y2.trans x y3.nin, y3.ext x, y4.ext tr x⟩
      · obtain ⟨y1, y2, y3, y4⟩ := gr
        refine ⟨y1.updN r1.trk nD, y2.upd sD, ⟨fun b sb => ?_, y3.nin⟩, y4.1, fun i w e => ?_⟩
        · by_cases hb : b = D
          · subst hb; exact ⟨o', upd_same, mo'⟩
          · rw [upd_ne hb]; exact y3.mu b sb
        · obtain ⟨v, ev, nt, q⟩ := y4.2 i w e
          exact ⟨v, ev, nt, q.upd eo mo nt⟩
    have G4 : Gd g (relL g) Gr D μ3 h3 acc H3 := G3.sub fun x => ⟨x, (Ext.refl r3.trk).toS fun b sb _ => sk1.so.nin b sb, sk1.so, rs3⟩
    refine loop_ok (rel := relL g) go1 relL_mono (fun μ H h x r i => sk1.ok μ H h x.2.1 r i) (fun w x acc h μ H' σ2 Nx1 G nt qx e2 p5 => ?_) G4 (p4.sub fun x => x.1)
    intro s0 H0 C cl fp
    refine hg1 s0 H0 C cl fp w x _ σ2 h _ H' μ _ G.x.2.2.2 G.r nt qx e2 fun σ3 rs3 w3 => ⟨?_, turnE go1 hts1 he G rs3 p5⟩
    rw [w3 _ hsl1, wipe_wipe]
theorem se_lc2 (hc : X.calm = true) (hN : X.N.Nodup) (ok : BlkOk X.N X.env.scope scope own) (hv : ∀ i ∈ vs1, i ∈ own.map (·.2)) (hsl : ∀ i ∈ t.slots, i ∈ own.map (·.2)) (hsl1 : ∀ i ∈ t1.slots, i ∈ vs1)
    (hs : ∀ x, foldedSetIterable iter X.env x = pure x) (hs1 : ∀ env x, foldedSetIterable iter1 env x = pure x)
    (hi : SI g X Wx tg iter mi) (hg : SBG g X scope tg t) (hts : STs g X scope ifs mt) (hi1 : SBI g X scope tg1 iter1 mi1) (hg1 : SBG g X scope tg1 t1) (hts1 : STs g X scope ifs1 mt1) (he : SB g X scope elt me) :
    SE g X Wx (.ListComp elt [⟨tg, iter, ifs, 0⟩, ⟨tg1, iter1, ifs1, 0⟩] scope pos) (mLc2 mi t mt mi1 t1 mt1 me (own.map (·.2)) vs1) := by
  intro σw h σ H μ Q rs rh po
  refine peAt (pe_lc2 hc hN pi_of ok hv (fun s0 H0 C cl fp => (⟨fun pins s σ H v u Q I r q => q s0 H0 C cl fp pins s u I r⟩ : PG _ _ (tBG X scope tg))) (fun s0 H0 C cl fp => pts_all hts s0 H0 C cl fp)
    (fun s0 H0 C cl fp => (⟨fun pins s σ H R I q => q s0 H0 C cl fp pins s I⟩ : PI _ _ _ (tBI X scope tg1 iter1)))
    (fun s0 H0 C cl fp => (⟨fun pins s σ H v u Q I r q => q s0 H0 C cl fp pins s u I r⟩ : PG _ _ (tBG X scope tg1))) (fun s0 H0 C cl fp => pts_all hts1 s0 H0 C cl fp)
    (fun s0 H0 C cl fp => (⟨fun pins s σ H Q I q => q s0 H0 C cl fp pins s I⟩ : PE _ _ (tB1 X scope elt))) hs hs1) ?_
  exact lc2_read hi hg hts hi1 hg1 hts1 he hsl hsl1 rs rh po
end
end PV
end
section
/-! PVA17: the rules in the form that generated proofs use. -/
namespace PV
open PySem PySem.Spec PyProof.Rows L2

/-! ### a list comprehension stored at once -/
section
variable {g : Gx} {X : Cx} {Wx : WX} {elt tg iter tg1 iter1 : Expr} {ifs ifs1 : List Expr} {scope : Scope} {own : List (Str × Nat)} {pos py spos : Pos} {mi mi1 : M Src} {t t1 : Tg} {mt mt1 : M Bool} {me : M D} {vs1 : List Nat} {i : Nat} {y : Str}
theorem asg_run {m : M D} {t : TE} (hr : ∀ {σw : Sg} {h : Hh} {σ : L2.St} {H : Hp} {μ : List Addr} {Q : VK}, RS g μ H σw σ → RH g μ h H → Po g Wx σ μ H (m σw h) (fun w h' μ' H' => ∀ v, RV g μ' H' w v → Fr H w v → Q v H') → t σ H Q)
    {σw : Sg} {h : Hh} {σ : L2.St} {H : Hp} {μ : List Addr} {E : Ends} (rs : RS g μ H σw σ) (rh : RH g μ h H) (po : PoS g Wx μ H (msAsg (.nm i) m σw h) E) : tAsg t (gName i) E σ H := by
  refine hr rs rh ((PoS.then rs rh po).imp fun w h1 μ1 H1 x1 r1 p1 v qv fv => ?_)
  obtain ⟨μ1', x1', r1', q1', _⟩ := stash_ok r1 qv fv x1
  have p2 := p1 μ1' H1 x1'
  simp only [Tg.set] at p2
  exact p2.at r1' ((rs.ext rh.trk x1').set stash_isTl q1' i)
theorem ss_setLc (hc : X.calm = true) (hN : X.N.Nodup) (hy : X.N[i]? = some y) (hyl : X.env.scope.names.lookup y = some .local) (hsw : swapsWith (.ListComp elt [⟨tg, iter, ifs, 0⟩] scope pos) (some (.Name y py)) spos.line X.env = pure true)
    (ok : BlkOk X.N X.env.scope scope own) (hsl : ∀ i ∈ t.slots, i ∈ own.map (·.2)) (hs : ∀ x, foldedSetIterable iter X.env x = pure x)
    (hi : SI g X Wx tg iter mi) (hg : SBG g X scope tg t) (hts : STs g X scope ifs mt) (he : SB g X scope elt me) : SS g X Wx (.Assign [.Name y py] (.ListComp elt [⟨tg, iter, ifs, 0⟩] scope pos) spos) (msAsg (.nm i) (mLc mi t mt me (own.map (·.2)))) := by
  intro σw h σ H μ E rs rh po
  refine psAt (ps_setLc hc hN hy hyl hsw pi_of ok (fun s0 H0 C cl fp => (⟨fun pins s σ H v u Q I r q => q s0 H0 C cl fp pins s u I r⟩ : PG _ _ (tBG X scope tg))) (fun s0 H0 C cl fp => pts_all hts s0 H0 C cl fp)
    (fun s0 H0 C cl fp => (⟨fun pins s σ H Q I q => q s0 H0 C cl fp pins s I⟩ : PE _ _ (tB1 X scope elt))) hs) ?_
  exact asg_run (lc_read hi hg hts he hsl) rs rh po
theorem ss_setLc2 (hc : X.calm = true) (hN : X.N.Nodup) (hy : X.N[i]? = some y) (hyl : X.env.scope.names.lookup y = some .local) (hsw : swapsWith (.ListComp elt [⟨tg, iter, ifs, 0⟩, ⟨tg1, iter1, ifs1, 0⟩] scope pos) (some (.Name y py)) spos.line X.env = pure true)
    (ok : BlkOk X.N X.env.scope scope own) (hv : ∀ i ∈ vs1, i ∈ own.map (·.2)) (hsl : ∀ i ∈ t.slots, i ∈ own.map (·.2)) (hsl1 : ∀ i ∈ t1.slots, i ∈ vs1)
    (hs : ∀ x, foldedSetIterable iter X.env x = pure x) (hs1 : ∀ env x, foldedSetIterable iter1 env x = pure x)
    (hi : SI g X Wx tg iter mi) (hg : SBG g X scope tg t) (hts : STs g X scope ifs mt) (hi1 : SBI g X scope tg1 iter1 mi1) (hg1 : SBG g X scope tg1 t1) (hts1 : STs g X scope ifs1 mt1) (he : SB g X scope elt me) :
    SS g X Wx (.Assign [.Name y py] (.ListComp elt [⟨tg, iter, ifs, 0⟩, ⟨tg1, iter1, ifs1, 0⟩] scope pos) spos) (msAsg (.nm i) (mLc2 mi t mt mi1 t1 mt1 me (own.map (·.2)) vs1)) := by
  intro σw h σ H μ E rs rh po
  refine psAt (ps_setLc2 hc hN hy hyl hsw pi_of ok hv (fun s0 H0 C cl fp => (⟨fun pins s σ H v u Q I r q => q s0 H0 C cl fp pins s u I r⟩ : PG _ _ (tBG X scope tg))) (fun s0 H0 C cl fp => pts_all hts s0 H0 C cl fp)
    (fun s0 H0 C cl fp => (⟨fun pins s σ H R I q => q s0 H0 C cl fp pins s I⟩ : PI _ _ _ (tBI X scope tg1 iter1)))
    (fun s0 H0 C cl fp => (⟨fun pins s σ H v u Q I r q => q s0 H0 C cl fp pins s u I r⟩ : PG _ _ (tBG X scope tg1))) (fun s0 H0 C cl fp => pts_all hts1 s0 H0 C cl fp)
    (fun s0 H0 C cl fp => (⟨fun pins s σ H Q I q => q s0 H0 C cl fp pins s I⟩ : PE _ _ (tB1 X scope elt))) hs hs1) ?_
  exact asg_run (lc2_read hi hg hts hi1 hg1 hts1 he hsl hsl1) rs rh po
end

/-! ### what a context offers -/
abbrev FST := Program → World → PySem.W.Frag → (Str → Option Value) → Heap → Gx → Nat → Cll → Prop
structure Good (FS : FST) (g : Gx) (k : Nat) (cl : Cll) (N : List Str) (sc : Scope) (fq : Str → Bool) (X : Cx) (Wx : WX) : Prop where
  K : X.K = g.K
  calm : X.calm = true
  eN : X.N = N
  nd : N.Nodup
  sc : X.env.scope = sc
  fn : X.fn = fq
  room : Room (k + 3) X.A
  gd : X.A.guards = some []
  tk : Takes X Wx
  fs : FS X.prog X.w X.K X.mg X.base g k cl
def okV (N : List Str) (sc : Scope) (i : Nat) (x : Str) : Bool := decide (N[i]? = some x) && (match sc.names.lookup x with
  | some .local => true
  | some .cell => true
  | some .free => true
  | _ => false) && !(x == ("__debug__" : Str)) && !(x == ("__classdict__" : Str))
def okT (N : List Str) (sc : Scope) (fq : Str → Bool) (i : Nat) (x : Str) : Bool := decide (N[i]? = some x) && (match sc.names.lookup x with
  | some .local => true
  | some .cell => fq x
  | _ => false)
def okL (N : List Str) (sc : Scope) (i : Nat) (x : Str) : Bool := decide (N[i]? = some x) && (match sc.names.lookup x with
  | some .local => true
  | _ => false)
def okG (sc : Scope) (x : Str) : Bool := (match sc.names.lookup x with
  | some .globalImplicit => true
  | _ => false) && !(x == ("__debug__" : Str)) && !(decide (x = "__name__"))
section
variable {FS : FST} {g : Gx} {k : Nat} {cl : Cll} {N : List Str} {sc : Scope} {fq : Str → Bool} {X : Cx} {Wx : WX} {pos p : Pos} {x : Str} {i : Nat}
theorem Good.un (G : Good FS g k cl N sc fq X Wx) : X.A.units + 65 < cLine := by have := G.room.un; omega
theorem Good.xN (G : Good FS g k cl N sc fq X Wx) : X.N.Nodup := by rw [G.eN]; exact G.nd
theorem Good.var (G : Good FS g k cl N sc fq X Wx) (i : Nat) (h : okV N sc i x = true) : SE g X Wx (.Name x pos) (mV i) := by
  unfold okV at h
  simp only [Bool.and_eq_true, Bool.not_eq_true', decide_eq_true_eq] at h
  obtain ⟨⟨⟨h1, h2⟩, h3⟩, h4⟩ := h
  refine se_var (by rw [G.eN]; exact h1) ?_ h3 h4
  rw [G.sc]
  unfold Vis
  split at h2
  · exact .inl ‹_›
  · exact .inr (.inl ‹_›)
  · exact .inr (.inr ‹_›)
  · cases h2
theorem Good.tgt (G : Good FS g k cl N sc fq X Wx) (i : Nat) (h : okT N sc fq i x = true) : SG g X (.Name x pos) (.nm i) := by
  unfold okT at h
  simp only [Bool.and_eq_true, decide_eq_true_eq] at h
  obtain ⟨h1, h2⟩ := h
  refine sg_name G.xN (by rw [G.eN]; exact h1) ?_ ?_
  · rw [G.sc]
    unfold L2.Loc
    split at h2
    · exact .inl ‹_›
    · exact .inr ‹_›
    · cases h2
  · rw [G.sc, G.fn]
    split at h2
    · exact .inr ‹_›
    · exact .inl h2
    · cases h2
theorem Good.loc (G : Good FS g k cl N sc fq X Wx) (h : okL N sc i x = true) : X.N[i]? = some x ∧ X.env.scope.names.lookup x = some .local := by
  unfold okL at h
  simp only [Bool.and_eq_true, decide_eq_true_eq] at h
  obtain ⟨h1, h2⟩ := h
  refine ⟨by rw [G.eN]; exact h1, ?_⟩
  rw [G.sc]
  split at h2
  · rename_i e; exact e
  · cases h2
theorem Good.gl (G : Good FS g k cl N sc fq X Wx) (h : okG sc x = true) : Gl X x ∧ (x == ("__debug__" : Str)) = false ∧ x ≠ "__name__" := by
  unfold okG at h
  simp only [Bool.and_eq_true, Bool.not_eq_true', decide_eq_false_iff_not] at h
  obtain ⟨⟨h1, h2⟩, h3⟩ := h
  refine ⟨?_, h2, h3⟩
  unfold Gl Env.kindOf
  rw [G.sc]
  split at h1
  · rename_i e; exact e
  · cases h1
/-- a name of the module that holds a plain value -/
theorem Good.con (G : Good FS g k cl N sc fq X Wx) {u : Value} {v : V} {w : D} (h : okG sc x = true) (hm : X.mg x = some u) (ru : RelV v u) (nt : w.isTl = false) (rv : ∀ μ H, RV g μ H w v) : SE g X Wx (.Name x pos) (mC w) := by
  obtain ⟨h1, h2, h3⟩ := G.gl h
  exact se_c ⟨fun pins s σ H Q I q => ld_glob I h1 hm ⟨v, H, I, ru, q⟩ h2⟩ nt rv
/-- a built-in type by its name -/
theorem Good.typ (G : Good FS g k cl N sc fq X Wx) {n : String} (h : okG sc x = true) (hm : X.mg x = none) (hv : bootBuiltins x = some (.type n)) : SE g X Wx (.Name x pos) (mC (.ty n)) := by
  obtain ⟨h1, h2, h3⟩ := G.gl h
  exact se_c ⟨fun pins s σ H Q I q => ld_blt I h1 hm hv (show _ from ⟨.ty n, H, I, rfl, q⟩) h3 h2⟩ rfl fun _ _ => rfl
theorem Good.b1 (G : Good FS g k cl N sc fq X Wx) {bv : Value} {f : D → Hh → R D} {a : Expr} {ma : M D} (h : okG sc x = true) (hm : X.mg x = none) (hv : bootBuiltins x = some bv) (hb : isBt bv = true) (s : SC1 g X Wx bv f) (he : starEach [a] X.env = [(false, eval a X.env)]) (ha : SE g X Wx a ma) :
    SE g X Wx (.Call (.Name x p) [a] [] pos) (mF1 f ma) := by
  obtain ⟨h1, h2, h3⟩ := G.gl h
  exact se_b1 s hb h1 hm hv h3 h2 he ha
theorem Good.b2 (G : Good FS g k cl N sc fq X Wx) {bv : Value} {f : D → D → Hh → R D} {a b : Expr} {ma mb : M D} (h : okG sc x = true) (hm : X.mg x = none) (hv : bootBuiltins x = some bv) (hb : isBt bv = true) (s : SC2 g X Wx bv f)
    (he : starEach [a, b] X.env = [(false, eval a X.env), (false, eval b X.env)]) (he2 : starEach [b] X.env = [(false, eval b X.env)]) (ha : SE g X Wx a ma) (hb' : SE g X Wx b mb) :
    SE g X Wx (.Call (.Name x p) [a, b] [] pos) (mOp f ma mb) := by
  obtain ⟨h1, h2, h3⟩ := G.gl h
  exact se_b2 s hb h1 hm hv h3 h2 he he2 ha hb'
end

/-! ### defs -/
/-- a def of the module: its object, its promise -/
def FnF (P : Program) (w : World) (K : PySem.W.Frag) (mg : Str → Option Value) (base : Heap) (g : Gx) (k : Nat) (cl : Cll) (f : Nat) (x : Str) (st : Stmt) (ps : List Str) : Prop :=
  ∃ fa fd, mg x = some (.ref fa) ∧ g.fa f = some fa ∧ FunD K x x (defArgs st) (defBody st) (defScope st) [] [] fa fd ∧ FnG P w K mg base (CX P w) (k + 3) fa fd ps (spOf g ps.length (cl f))
/-- how its arguments are bound, all by place -/
def BdF (x : Str) (st : Stmt) (ps : List Str) : Prop := ∀ (kV doc pm : Value) (an : Option Addr) (cdv ct : Value) (us : List Value), us.length = ps.length → bindArgs (PySem.W.fnOf x x (defArgs st) (defBody st) (defScope st) .none kV doc pm an cdv ct) ⟨us, []⟩ = pure (ps.zip us)
def BdK (x : Str) (st : Stmt) (ps ks : List Str) (perm : List Nat) : Prop := ∀ (kV doc pm : Value) (an : Option Addr) (cdv ct : Value) (ws xs : List Value), ws.length = ks.length → permL perm ws = some xs →
  bindArgs (PySem.W.fnOf x x (defArgs st) (defBody st) (defScope st) .none kV doc pm an cdv ct) ⟨[], ks.zip ws⟩ = pure (ps.zip xs)
section
variable {FS : FST} {g : Gx} {k : Nat} {cl : Cll} {N : List Str} {sc : Scope} {fq : Str → Bool} {X : Cx} {Wx : WX} {pos p : Pos} {x : Str} {i f : Nat} {st : Stmt} {ps : List Str} {e : Expr} {es : List Expr} {ms : List (M D)}
theorem mCall_eq (cl : Cll) (f : Nat) (m : M (List D)) : mCall (fun f ws h => cl f (ws ++ []) h) f m = mCall cl f m := by
  simp only [List.append_nil]
theorem Good.call (G : Good FS g k cl N sc fq X Wx) (h : okG sc x = true) (F : FnF X.prog X.w X.K X.mg X.base g k cl f x st ps) (bd : BdF x st ps)
    (he : starEach (e :: es) X.env = (false, eval e X.env) :: starEach es X.env) (hpl : (backTo pos (starEach es X.env)).any (·.1) = false) (hl : ms.length = ps.length)
    (ha : SA g X Wx (e :: es) (mArgs ms)) : SE g X Wx (.Call (.Name x p) (e :: es) [] pos) (mCall cl f (mArgs ms)) := by
  obtain ⟨h1, h2, h3⟩ := G.gl h
  obtain ⟨fa, fd, hm, hf, D, FG⟩ := F
  rw [← mCall_eq]
  exact se_call (dws := []) (dvs := []) (ds := []) G.tk G.gd G.room FG (D.bindsN bd) .nil (fun _ _ => rfl) h1 hm D.kp h2 he hpl (by simpa using hl) ha
theorem Good.call0 (G : Good FS g k cl N sc fq X Wx) (h : okG sc x = true) (F : FnF X.prog X.w X.K X.mg X.base g k cl f x st []) (bd : BdF x st []) : SE g X Wx (.Call (.Name x p) [] [] pos) (mCall cl f (mArgs [])) := by
  obtain ⟨h1, h2, h3⟩ := G.gl h
  obtain ⟨fa, fd, hm, hf, D, FG⟩ := F
  rw [← mCall_eq]
  exact se_call0 (dws := []) (dvs := []) (ds := []) G.tk G.gd G.room FG (D.bindsN bd) .nil (fun _ _ => rfl) h1 hm D.kp h2 rfl
theorem FunD.kb {K : PySem.W.Frag} {fa : Addr} {fd : FuncData} {ks : List Str} {perm : List Nat} (D : FunD K x x (defArgs st) (defBody st) (defScope st) [] [] fa fd) (bd : BdK x st ps ks perm) : KB K fd ps 0 ks perm := by
  obtain ⟨oc, od, dV, kV, doc, pm, an, cdv, ct, osl, rfl, lk, hcd, hD, hK⟩ := D.ex
  rcases hD with ⟨_, rfl⟩ | ⟨e, _⟩
  · intro s us ws xs KX hu hw ex
    have : us = [] := List.eq_nil_of_length_eq_zero hu
    subst this
    exact .of_eq (bd kV doc pm an cdv ct ws xs hw ex)
  · exact absurd rfl e
theorem Good.callK (G : Good FS g k cl N sc fq X Wx) {kws : List Keyword} (ks : List Str) (perm : List Nat) (h : okG sc x = true) (F : FnF X.prog X.w X.K X.mg X.base g k cl f x st ps) (bd : BdK x st ps ks perm)
    (hall : (backToKw pos (keywordEach kws X.env)).all (·.1.isSome) = true) (hks : (backToKw pos (keywordEach kws X.env)).filterMap (·.1) = ks) (hno : (backToKw pos (keywordEach kws X.env)).any (·.1.isNone) = false)
    (hp : perm.length = ps.length) (hlk : ms.length = ks.length) (ha : SK g X Wx kws (mArgs ms)) : SE g X Wx (.Call (.Name x p) [] kws pos) (mCallP cl f (mArgs ms) perm) := by
  obtain ⟨h1, h2, h3⟩ := G.gl h
  obtain ⟨fa, fd, hm, hf, D, FG⟩ := F
  exact se_callK0 G.tk G.gd G.room FG (FunD.kb D bd) h1 hm D.kp h2 hall hks hno hp hlk ha
end

/-! ### within a comprehension -/
theorem Good.blk {FS : FST} {g : Gx} {k : Nat} {cl : Cll} {N : List Str} {sc : Scope} {fq : Str → Bool} {X : Cx} {Wx : WX} (G : Good FS g k cl N sc fq X Wx) (scope : Scope) (s0 : Shared) (H0 : Hp) (C : Addr) (cls : List (Str × Addr)) (fp : List Addr) :
    Good FS g k cl N (relS scope sc) (fun x => scope.names.lookup x == some .cell) (BX X scope s0 H0 C cls fp) WF where
  K := G.K
  calm := G.calm
  eN := G.eN
  nd := G.nd
  sc := by rw [← G.sc]; rfl
  fn := rfl
  room := G.room
  gd := G.gd
  tk := fun u s' ⟨a, B, sI, pins, σ, H, cls, d, e, I, nb, up, sky, na, os, ag, w⟩ => w.elim
  fs := G.fs
/-- the names of a block -/
def okB (N : List Str) (sc scope : Scope) (own : List (Str × Nat)) : Bool := (match scope.kind with
    | .function => true
    | _ => false) && scope.names.all (fun y => match scope.names.lookup y.1, y.2 with
    | some .local, .local => true
    | some .cell, .cell => true
    | some .free, .free => true
    | some .globalImplicit, .globalImplicit => true
    | _, _ => false) && own.all (fun p => decide (N[p.2]? = some p.1)) && scope.names.all (fun y => match y.2 with
    | .free => (match sc.names.lookup y.1 with
      | some .cell => true
      | some .free => true
      | _ => false)
    | .local => decide (y.1 ∈ own.map (·.1)) || decide (y.1 ∉ N)
    | .cell => decide (y.1 ∈ own.map (·.1)) || decide (y.1 ∉ N)
    | .globalImplicit => true
    | _ => false)
theorem Good.bok {FS : FST} {g : Gx} {k : Nat} {cl : Cll} {N : List Str} {sc : Scope} {fq : Str → Bool} {X : Cx} {Wx : WX} {scope : Scope} {own : List (Str × Nat)} (G : Good FS g k cl N sc fq X Wx) (h : okB N sc scope own = true) : BlkOk X.N X.env.scope scope own := by
  unfold okB at h
  simp only [Bool.and_eq_true, List.all_eq_true, decide_eq_true_eq] at h
  obtain ⟨⟨⟨h1, h2⟩, h3⟩, h4⟩ := h
  rw [G.eN, G.sc]
  refine ⟨?_, fun y hy => ?_, h3, fun y hy e => ?_, fun y hy e => ?_⟩
  · split at h1
    · assumption
    · cases h1
  · have z := h2 y hy
    split at z
    · rw [‹y.2 = _›]; assumption
    · rw [‹y.2 = _›]; assumption
    · rw [‹y.2 = _›]; assumption
    · rw [‹y.2 = _›]; assumption
    · cases z
  · have z := h4 y hy
    rw [e] at z
    simp only at z
    split at z
    · exact .inl ‹_›
    · exact .inr ‹_›
    · cases z
  · have z := h4 y hy
    rcases e with e | e
    · rw [e] at z
      simpa using z
    · rw [e] at z
      simpa using z
def subN (l vs : List Nat) : Bool := l.all fun i => decide (i ∈ vs)
theorem subN_ok {l vs : List Nat} (h : subN l vs = true) : ∀ i ∈ l, i ∈ vs := fun i hi => of_decide_eq_true (List.all_eq_true.mp h i hi)

/-! ### comprehensions, by the context's offer -/
section
variable {FS : FST} {g : Gx} {k : Nat} {cl : Cll} {N : List Str} {sc : Scope} {fq : Str → Bool} {X : Cx} {Wx : WX} {elt tg iter tg1 iter1 : Expr} {ifs ifs1 : List Expr} {scope : Scope} {pos py spos : Pos} {mi mi1 : M Src} {t t1 : Tg} {mt mt1 : M Bool} {me : M D} {y : Str}
abbrev fqB (scope : Scope) : Str → Bool := fun x => scope.names.lookup x == some .cell
/-- none or one test, within a block -/
inductive GTs (FS : FST) (g : Gx) (k : Nat) (cl : Cll) (N : List Str) (sc : Scope) (fq : Str → Bool) : List Expr → M Bool → Prop
  | nil : GTs FS g k cl N sc fq [] (fun _ h => .ok true h)
  | one {c : Expr} {m : M Bool} (hc : ∀ X, Good FS g k cl N sc fq X WF → ST g X WF c m) : GTs FS g k cl N sc fq [c] m
theorem GTs.sts (G : Good FS g k cl N sc fq X Wx) (h : GTs FS g k cl N (relS scope sc) (fqB scope) ifs mt) : STs g X scope ifs mt := by
  cases h with
  | nil => exact .nil
  | one hc => exact .one fun s0 H0 C c1 fp => hc _ (G.blk scope s0 H0 C c1 fp)
theorem Good.lc (G : Good FS g k cl N sc fq X Wx) (own : List (Str × Nat)) (vs : List Nat) (hB : okB N sc scope own = true) (hvs : own.map (·.2) = vs) (hsl : subN t.slots vs = true) (hs : ∀ x, foldedSetIterable iter X.env x = pure x) (hi : SI g X Wx tg iter mi)
    (hg : ∀ X, Good FS g k cl N (relS scope sc) (fqB scope) X WF → SG g X tg t) (ht : GTs FS g k cl N (relS scope sc) (fqB scope) ifs mt) (he : ∀ X, Good FS g k cl N (relS scope sc) (fqB scope) X WF → SE g X WF elt me) :
    SE g X Wx (.ListComp elt [⟨tg, iter, ifs, 0⟩] scope pos) (mLc mi t mt me vs) := by
  subst hvs
  exact se_lc G.calm G.xN (G.bok hB) (subN_ok hsl) hs hi (fun s0 H0 C c1 fp => hg _ (G.blk scope s0 H0 C c1 fp)) (ht.sts G) (fun s0 H0 C c1 fp => he _ (G.blk scope s0 H0 C c1 fp))
theorem Good.lc2 (G : Good FS g k cl N sc fq X Wx) (own : List (Str × Nat)) (vs vs1 : List Nat) (hB : okB N sc scope own = true) (hvs : own.map (·.2) = vs) (hsl : subN t.slots vs = true) (hv1 : subN vs1 vs = true) (hsl1 : subN t1.slots vs1 = true)
    (hs : ∀ x, foldedSetIterable iter X.env x = pure x) (hs1 : ∀ env x, foldedSetIterable iter1 env x = pure x) (hi : SI g X Wx tg iter mi)
    (hg : ∀ X, Good FS g k cl N (relS scope sc) (fqB scope) X WF → SG g X tg t) (ht : GTs FS g k cl N (relS scope sc) (fqB scope) ifs mt)
    (hi1 : ∀ X, Good FS g k cl N (relS scope sc) (fqB scope) X WF → SI g X WF tg1 iter1 mi1)
    (hg1 : ∀ X, Good FS g k cl N (relS scope sc) (fqB scope) X WF → SG g X tg1 t1) (ht1 : GTs FS g k cl N (relS scope sc) (fqB scope) ifs1 mt1)
    (he : ∀ X, Good FS g k cl N (relS scope sc) (fqB scope) X WF → SE g X WF elt me) :
    SE g X Wx (.ListComp elt [⟨tg, iter, ifs, 0⟩, ⟨tg1, iter1, ifs1, 0⟩] scope pos) (mLc2 mi t mt mi1 t1 mt1 me vs vs1) := by
  subst hvs
  exact se_lc2 G.calm G.xN (G.bok hB) (subN_ok hv1) (subN_ok hsl) (subN_ok hsl1) hs hs1 hi (fun s0 H0 C c1 fp => hg _ (G.blk scope s0 H0 C c1 fp)) (ht.sts G)
    (fun s0 H0 C c1 fp => hi1 _ (G.blk scope s0 H0 C c1 fp)) (fun s0 H0 C c1 fp => hg1 _ (G.blk scope s0 H0 C c1 fp)) (ht1.sts G) (fun s0 H0 C c1 fp => he _ (G.blk scope s0 H0 C c1 fp))
/-- the compiler stores the list at once: a local name of the def, on one line -/
def okSw (sc scope : Scope) (y : Str) (py pos : Pos) : Bool := (match sc.kind with
    | .function => true
    | _ => false) && (py.line == pos.line) && !(scope.names.any fun (n, k) => n == y && (k == .local || k == .cell))
theorem Good.sw (G : Good FS g k cl N sc fq X Wx) {gs : List Comprehension} {l : Nat} (h : okSw sc scope y py pos = true) (hy : X.env.scope.names.lookup y = some .local) : swapsWith (.ListComp elt gs scope pos) (some (.Name y py)) l X.env = pure true := by
  unfold okSw at h
  simp only [Bool.and_eq_true, Bool.not_eq_true'] at h
  obtain ⟨⟨h1, h2⟩, h3⟩ := h
  refine sw_true ?_ hy h2 h3
  rw [G.sc]
  split at h1
  · rename_i e; exact e
  · cases h1
theorem Good.setLc (G : Good FS g k cl N sc fq X Wx) (i : Nat) (own : List (Str × Nat)) (vs : List Nat) (hl : okL N sc i y = true) (hw : okSw sc scope y py pos = true) (hB : okB N sc scope own = true) (hvs : own.map (·.2) = vs) (hsl : subN t.slots vs = true) (hs : ∀ x, foldedSetIterable iter X.env x = pure x) (hi : SI g X Wx tg iter mi)
    (hg : ∀ X, Good FS g k cl N (relS scope sc) (fqB scope) X WF → SG g X tg t) (ht : GTs FS g k cl N (relS scope sc) (fqB scope) ifs mt) (he : ∀ X, Good FS g k cl N (relS scope sc) (fqB scope) X WF → SE g X WF elt me) :
    SS g X Wx (.Assign [.Name y py] (.ListComp elt [⟨tg, iter, ifs, 0⟩] scope pos) spos) (msAsg (.nm i) (mLc mi t mt me vs)) := by
  subst hvs
  obtain ⟨h1, h2⟩ := G.loc hl
  exact ss_setLc G.calm G.xN h1 h2 (G.sw hw h2) (G.bok hB) (subN_ok hsl) hs hi (fun s0 H0 C c1 fp => hg _ (G.blk scope s0 H0 C c1 fp)) (ht.sts G) (fun s0 H0 C c1 fp => he _ (G.blk scope s0 H0 C c1 fp))
theorem Good.setLc2 (G : Good FS g k cl N sc fq X Wx) (i : Nat) (own : List (Str × Nat)) (vs vs1 : List Nat) (hl : okL N sc i y = true) (hw : okSw sc scope y py pos = true) (hB : okB N sc scope own = true) (hvs : own.map (·.2) = vs) (hsl : subN t.slots vs = true) (hv1 : subN vs1 vs = true) (hsl1 : subN t1.slots vs1 = true)
    (hs : ∀ x, foldedSetIterable iter X.env x = pure x) (hs1 : ∀ env x, foldedSetIterable iter1 env x = pure x) (hi : SI g X Wx tg iter mi)
    (hg : ∀ X, Good FS g k cl N (relS scope sc) (fqB scope) X WF → SG g X tg t) (ht : GTs FS g k cl N (relS scope sc) (fqB scope) ifs mt)
    (hi1 : ∀ X, Good FS g k cl N (relS scope sc) (fqB scope) X WF → SI g X WF tg1 iter1 mi1)
    (hg1 : ∀ X, Good FS g k cl N (relS scope sc) (fqB scope) X WF → SG g X tg1 t1) (ht1 : GTs FS g k cl N (relS scope sc) (fqB scope) ifs1 mt1)
    (he : ∀ X, Good FS g k cl N (relS scope sc) (fqB scope) X WF → SE g X WF elt me) :
    SS g X Wx (.Assign [.Name y py] (.ListComp elt [⟨tg, iter, ifs, 0⟩, ⟨tg1, iter1, ifs1, 0⟩] scope pos) spos) (msAsg (.nm i) (mLc2 mi t mt mi1 t1 mt1 me vs vs1)) := by
  subst hvs
  obtain ⟨h1, h2⟩ := G.loc hl
  exact ss_setLc2 G.calm G.xN h1 h2 (G.sw hw h2) (G.bok hB) (subN_ok hv1) (subN_ok hsl) (subN_ok hsl1) hs hs1 hi (fun s0 H0 C c1 fp => hg _ (G.blk scope s0 H0 C c1 fp)) (ht.sts G)
    (fun s0 H0 C c1 fp => hi1 _ (G.blk scope s0 H0 C c1 fp)) (fun s0 H0 C c1 fp => hg1 _ (G.blk scope s0 H0 C c1 fp)) (ht1.sts G) (fun s0 H0 C c1 fp => he _ (G.blk scope s0 H0 C c1 fp))
/-! ### stores -/
theorem sws_env {ts : List Expr} {v : Expr} {env env' : Env} (h : env.scope = env'.scope) : swappedStores ts v env = swappedStores ts v env' := by
  unfold swappedStores Env.blockKind Env.kindOf
  rw [h]
theorem sw_env {v : Expr} {tg : Option Expr} {l : Nat} {env env' : Env} (h : env.scope = env'.scope) : swapsWith v tg l env = swapsWith v tg l env' := by
  unfold swapsWith Env.blockKind Env.kindOf
  rw [h]
/-- some environment with this scope -/
def env0 (sc : Scope) : Env := { scope := sc, locals := 0, globals := 0, cells := [], qual := "", func := none, code := .none, frame := none, builtins := 0 }
theorem Good.par (G : Good FS g k cl N sc fq X Wx) (i j : Nat) {x y : Str} {a b : Expr} {ma mb : M D} {px py pt : Pos} {kt k2 pt2} (hi : okL N sc i x = true) (hj : okL N sc j y = true) (hij : i ≠ j) (ha : SA g X Wx [a, b] (mArgs [ma, mb]))
    (hw : swappedStores [.Tuple [.Name x px, .Name y py] kt pt] (.Tuple [a, b] k2 pt2) (env0 sc) = pure (some [x, y])) (hs : swapsWithSole [.Tuple [.Name x px, .Name y py] kt pt] (.Tuple [a, b] k2 pt2) spos.line X.env = pure false) :
    SS g X Wx (.Assign [.Tuple [.Name x px, .Name y py] kt pt] (.Tuple [a, b] k2 pt2) spos) (msAsg (.tu [.nm i, .nm j]) (mTup (mArgs [ma, mb]))) := by
  obtain ⟨h1, h2⟩ := G.loc hi
  obtain ⟨h3, h4⟩ := G.loc hj
  exact ss_par G.calm G.xN h1 h3 hij h2 h4 ha ((sws_env G.sc).trans hw) hs
theorem Good.par3 (G : Good FS g k cl N sc fq X Wx) (i j l : Nat) {x y z : Str} {a b c : Expr} {ma mb mc : M D} {px py pz pt : Pos} {kt k2 pt2} (hi : okL N sc i x = true) (hj : okL N sc j y = true) (hl : okL N sc l z = true) (hij : i ≠ j) (hil : i ≠ l) (hjl : j ≠ l) (ha : SA g X Wx [a, b, c] (mArgs [ma, mb, mc]))
    (hw : swappedStores [.Tuple [.Name x px, .Name y py, .Name z pz] kt pt] (.Tuple [a, b, c] k2 pt2) (env0 sc) = pure (some [x, y, z])) (hs : swapsWithSole [.Tuple [.Name x px, .Name y py, .Name z pz] kt pt] (.Tuple [a, b, c] k2 pt2) spos.line X.env = pure false) :
    SS g X Wx (.Assign [.Tuple [.Name x px, .Name y py, .Name z pz] kt pt] (.Tuple [a, b, c] k2 pt2) spos) (msAsg (.tu [.nm i, .nm j, .nm l]) (mTup (mArgs [ma, mb, mc]))) := by
  obtain ⟨h1, h2⟩ := G.loc hi
  obtain ⟨h3, h4⟩ := G.loc hj
  obtain ⟨h5, h6⟩ := G.loc hl
  exact ss_par3 G.calm G.xN h1 h3 h5 hij hil hjl h2 h4 h6 ha ((sws_env G.sc).trans hw) hs
end
end PV
end
section
/-! PVA18: defs as plain functions. -/
namespace PV
open PySem PySem.Spec PyProof.Rows L2

/-- what a def's own body has, and a try's body too -/
structure HP (X : Cx) : Prop where
  p : PassesOwn (model X.prog X.w) X.A X.env X.xe
  st : X.stack = X.env :: X.outer
  fr : X.env.frame = some X.env.locals
  ex : X.ex = []
def startW (n : Nat) (ws : List D) : Sg := ws.map some ++ List.replicate (n - ws.length) none
def outR (r : RT) : R D := match r with
  | .nx _ h => .ok .non h
  | .ret w h => .ok w h
  | .exc c fs _ h => .exc c fs h
  | _ => .bad
/-- a def: how many names, how many parameters, what its body does -/
structure Fd where
  nN : Nat
  np : Nat
  body : Cll → MS
abbrev Tab := Nat → Option Fd
def runF (d : Fd) (cl : Cll) (ws : List D) (h : Hh) : R D := if ws.length = d.np then outR (d.body cl (startW d.nN ws) h) else .bad
def callF (T : Tab) : Nat → Cll
  | 0 => fun _ _ _ => .bad
  | k + 1 => fun f ws h => match T f with
    | some d => runF d (callF T k) ws h
    | none => .bad
theorem start_rel {g : Gx} {μ : List Addr} {H : Hp} {N : List Str} : ∀ {ws : List D} {vs : List V}, RVs g μ H ws vs → ws.length ≤ N.length → RS g μ H (startW N.length ws) (L2.start N vs) := by
  intro ws vs q hl
  have l := q.length
  refine ⟨?_, fun i w e => ?_⟩
  · unfold startW L2.start
    simp [l]
  · unfold startW at e
    unfold L2.start
    rcases Nat.lt_or_ge i ws.length with hi | hi
    · rw [List.getElem?_append_left (by simpa using hi)] at e
      rw [List.getElem?_map] at e
      cases e2 : ws[i]? with
      | none => rw [e2] at e; cases e
      | some w' =>
        rw [e2] at e
        cases e
        obtain ⟨v, ev, nt, z⟩ := q.get e2
        refine ⟨v, ?_, nt, z⟩
        rw [List.getElem?_append_left (by simpa [l] using hi), List.getElem?_map, ev]
        rfl
    · rw [List.getElem?_append_right (by simpa using hi)] at e
      rw [List.getElem?_replicate] at e
      split at e <;> cases e
section
variable {FS : FST} {P : Program} {w : World} {K : PySem.W.Frag} {mg : Str → Option Value} {base : Heap} {g : Gx} {k : Nat} {x : Str} {st : Stmt} {fa : Addr} {fd : FuncData} {N ps : List Str} {T : Tab} {f : Nat} {m : Cll → MS}
theorem fnG_zero {n : Nat} : FnG P w K mg base (CX P w) n fa fd ps (spOf g ps.length (callF T 0 f)) :=
  ⟨fun vs H Q E ⟨ws, h, μ, σ, hl, _⟩ => hl, fun A outer s H args us vs Q E _ _ _ _ _ ⟨ws, h, μ, σ, hl, q, rh, po⟩ => po.elim⟩
theorem fnG_step {q : Str} {dvs : List V} {kws : List (Str × V)} (D : FunD K x q (defArgs st) (defBody st) (defScope st) dvs kws fa fd) (S : FnScope N ps (defScope st)) (hK : K = g.K) (fs : FS P w K mg base g k (callF T k)) (hT : T f = some ⟨N.length, ps.length, m⟩) (hn : ps.length ≤ N.length)
    (sl : ∀ X Wx, Good FS g k (callF T k) N (defScope st) (fun _ => true) X Wx → HP X → SL g X Wx (defBody st) (m (callF T k))) :
    FnG P w K mg base (CX P w) (k + 1 + 3) fa fd ps (spOf g ps.length (callF T (k + 1) f)) := by
  obtain ⟨oc, od, dV, kV, doc, pm, an, cdv, ct, osl, rfl, lk, hcd, _, _⟩ := D.ex
  refine fnG_of (k := k + 3) lk hcd S (fun vs H Q E ⟨ws, h, μ, σ, hl, _⟩ => hl) fun A outer s H vs Q E hgd hr ⟨ws, h, μ, σ, hl, qq, rh, po⟩ => ?_
  have l := qq.length
  refine ⟨_, pss_of, ?_⟩
  have G : Good FS g k (callF T k) N (defScope st) (fun _ => true) (cxOf (CX P w) P w K mg base N q (defScope st) fa cdv A outer s H E) (fun cv d _ H' => E cv d H') :=
    ⟨hK, rfl, rfl, S.nd, rfl, rfl, hr, hgd, takes_of rfl rfl rfl rfl, fs⟩
  refine sl _ _ G ⟨passes_of rfl, rfl, rfl, rfl⟩ (startW N.length ws) h (L2.start N vs) H μ _ (start_rel qq (by omega)) rh ?_
  have e : callF T (k + 1) f ws h = runF ⟨N.length, ps.length, m⟩ (callF T k) ws h := by simp only [callF, hT]
  rw [e] at po
  have hw : ws.length = ps.length := by omega
  simp only [runF, hw, if_true] at po
  cases hx : m (callF T k) (startW N.length ws) h with
  | nx σ1 h1 => rw [hx] at po; exact fun μ1 H1 σ1' x1 r1 s1 => po μ1 H1 x1 r1 .non rfl (.of rfl)
  | ret w1 h1 => rw [hx] at po; exact fun μ1 H1 v x1 r1 q1 f1 => po μ1 H1 x1 r1 v q1 f1
  | brk σ1 h1 => rw [hx] at po; exact po.elim
  | cont σ1 h1 => rw [hx] at po; exact po.elim
  | exc c fs1 σ1 h1 => rw [hx] at po; exact fun μ1 H1 σ1' cv d x1 r1 s1 v1 => po μ1 H1 cv d x1 r1 v1
  | bad => rw [hx] at po; exact po.elim
theorem fnF_zero (D : FunD K x x (defArgs st) (defBody st) (defScope st) [] [] fa fd) (hm : mg x = some (.ref fa)) (hf : g.fa f = some fa) : FnF P w K mg base g 0 (callF T 0) f x st ps := ⟨fa, fd, hm, hf, D, fnG_zero⟩
theorem fnF_step (D : FunD K x x (defArgs st) (defBody st) (defScope st) [] [] fa fd) (hm : mg x = some (.ref fa)) (hf : g.fa f = some fa) (S : FnScope N ps (defScope st)) (hK : K = g.K) (fs : FS P w K mg base g k (callF T k)) (hT : T f = some ⟨N.length, ps.length, m⟩) (hn : ps.length ≤ N.length)
    (sl : ∀ X Wx, Good FS g k (callF T k) N (defScope st) (fun _ => true) X Wx → HP X → SL g X Wx (defBody st) (m (callF T k))) : FnF P w K mg base g (k + 1) (callF T (k + 1)) f x st ps :=
  ⟨fa, fd, hm, hf, D, fnG_step D S hK fs hT hn sl⟩
end
end PV
end
section
/-! PVA19: a law's end, from the promise of its def. -/
namespace PV
open PySem PySem.Spec PyProof.Rows L2

/-- the script alone may be tracked, and it is never written -/
structure Alone (K : PySem.W.Frag) (H : Hp) (a : Addr) : Prop where
  at_ : ∀ b, H b = none ∨ b = a ∧ ∃ o xs, H b = some (.frz o (.lst xs))
  own : H a = none ∨ K.lookup a = none
section
variable {P : Program} {w : World} {K : PySem.W.Frag} {mg mb : Str → Option Value} {k : Nat} {fa a : Addr} {fd : FuncData} {x : Str} {sp : Sp} {s₁ : Shared} {vs : List Value} {ns : List Int} {H : Hp}
theorem law_from (al : Alone K H a) (KX : K.In s₁.heap) (hns : s₁.heap.Ns mainGlobals mg) (hb : s₁.heap.Ns builtinsNs mb) (hbb : ∀ x : Str, x ≠ "__name__" → mb x = bootBuiltins x) (hlim : s₁.heap.NoLimit) (hg : s₁.gens = #[])
    (ha : s₁.heap.get? a = some { cls := .type "list", data := .seq vs.toArray }) (hok : HOk P w H s₁.heap) (hr : Room k callerA)
    (F : ∀ base : Heap, K.In base → base.Ns mainGlobals mg → FnG P w K mg base (CX P w) k fa fd [x] sp) (hbind : ∀ (s : Shared) (u : Value), BindsTo s fd ⟨[u], []⟩ [(x, u)])
    (hsp : sp [.ref a] H (fun v _ => v = .bl true) fun _ _ _ => False) :
    codeAny (model P w) callerA (.call (.ref fa) ⟨[.ref a], []⟩) (fun r s' => r = .ok (.ret (.bool true)) ∧ OldK s₁.heap s'.heap ∧ s'.os = s₁.os ∧ AllBare s'.gens) s₁ := by
  generalize hB : hidT s₁.heap H = B
  have get : ∀ {b : Addr} {o : Obj}, s₁.heap.get? b = some o → H b = none → B.get? b = some o := fun e n => by rw [← hB]; exact hidT_get e n
  have dict : ∀ {b : Addr} {o : Obj} {es : Array DictEntry} {ep : Nat}, s₁.heap.get? b = some o → o.data = .dict es ep → H b = none := by
    intro b o es ep e d
    rcases al.at_ b with z | ⟨rfl, _⟩
    · exact z
    · exfalso
      rw [ha] at e
      cases Option.some.inj e
      exact Data.noConfusion d
  have keepNs : ∀ {b : Addr} {m : Str → Option Value}, s₁.heap.Ns b m → B.Ns b m := by
    rintro b m ⟨o, es, ep, e, d, r⟩
    exact ⟨o, es, ep, get e (dict e d), d, r⟩
  have kb : K.In B := by
    intro b o e
    refine get (KX b o e) ?_
    rcases al.at_ b with z | ⟨rfl, _⟩
    · exact z
    · rcases al.own with z | z
      · exact z
      · rw [z] at e; cases e
  obtain ⟨mc, c1, c2⟩ := hlim
  have env : Env0 P w K mg B callerA [] s₁ H := ⟨rfl, ⟨kb, keepNs hns, ⟨mb, keepNs hb, hbb⟩, ⟨mc, keepNs c1, c2⟩⟩, fun b o e => of_hidT (by rw [hB]; exact e), by rw [← hB]; exact Nat.le_of_eq (hidT_size _ _), trivial, fun b hb => absurd (show b ∈ ([] : List Addr) from hb) (by simp), hok, .of_eq hg⟩
  have run := (F B kb (keepNs hns)).run callerA [] s₁ H ⟨[.ref a], []⟩ [.ref a] [.ref a] _ _ rfl hr env (hbind s₁ (.ref a)) (.cons rfl .nil) hsp
  refine codeAny_mono run ?_
  rintro (e | fl) s' hq
  · obtain ⟨_, _, _, _, _, _, _, _, _, _, _, _, z⟩ := hq
    exact z.elim
  · cases fl with
    | next => exact False.elim hq
    | brk => exact False.elim hq
    | cont => exact False.elim hq
    | ret u =>
      obtain ⟨v, H', os, bare, un, hok', rv, qv⟩ := hq
      rw [show v = .bl true from qv] at rv
      rw [show u = Value.bool true from rv]
      refine ⟨rfl, OldK.of_keep fun b o e => ?_, os, bare⟩
      rcases al.at_ b with z | ⟨rfl, ob, xs, z⟩
      · exact un.keep b o e z (fun z => absurd (show b ∈ ([] : List Addr) from z) (by simp)) (by simp)
      · have h1 := (hok b _ z).1
        have h2 := (hok' b _ (un.frzs b ob _ z)).1
        exact h2.trans (h1.symm.trans e)
theorem law_callG (KX : K.In s₁.heap) (hns : s₁.heap.Ns mainGlobals mg) (hb : s₁.heap.Ns builtinsNs mb) (hbb : ∀ x : Str, x ≠ "__name__" → mb x = bootBuiltins x) (hlim : s₁.heap.NoLimit) (hg : s₁.gens = #[])
    (ha : s₁.heap.get? a = some { cls := .type "list", data := .seq vs.toArray }) (hi : IntsAre vs ns) (hl : ns.length ≤ sizeLine) (hr : Room k callerA)
    (F : ∀ base : Heap, K.In base → base.Ns mainGlobals mg → FnG P w K mg base (CX P w) k fa fd [x] sp) (hbind : ∀ (s : Shared) (u : Value), BindsTo s fd ⟨[u], []⟩ [(x, u)])
    (hsp : ∀ H : Hp, SqF K H a (ns.map V.int) → sp [.ref a] H (fun v _ => v = .bl true) fun _ _ _ => False) :
    codeAny (model P w) callerA (.call (.ref fa) ⟨[.ref a], []⟩) (fun r s' => r = .ok (.ret (.bool true)) ∧ OldK s₁.heap s'.heap ∧ s'.os = s₁.os ∧ AllBare s'.gens) s₁ := by
  have rv := vals_ints hi
  have lv := hi.length
  by_cases hk : K.lookup a = none
  · have e : (fun b : Addr => if b = a then some (HO.frz { cls := .type "list", data := .seq vs.toArray } (.lst (ns.map V.int))) else none) a = some (HO.frz { cls := .type "list", data := .seq vs.toArray } (.lst (ns.map V.int))) := if_pos rfl
    generalize hH : (fun b : Addr => if b = a then some (HO.frz { cls := .type "list", data := .seq vs.toArray } (.lst (ns.map V.int))) else none) = H at e
    have other : ∀ b, b ≠ a → H b = none := fun b n => by rw [← hH]; exact if_neg n
    refine law_from (H := H) ⟨fun b => ?_, .inr hk⟩ KX hns hb hbb hlim hg ha (fun b u z => ?_) hr F hbind (hsp H (.inl ⟨_, e⟩))
    · by_cases n : b = a
      · exact .inr ⟨n, by rw [n]; exact ⟨_, _, e⟩⟩
      · exact .inl (other b n)
    · by_cases n : b = a
      · subst n
        rw [e] at z
        cases Option.some.inj z
        exact ⟨ha, by rw [List.length_map]; exact hl, vs, _, rv, ha⟩
      · rw [other b n] at z; cases z
  · cases q : K.lookup a with
    | none => exact absurd q hk
    | some o =>
      have e := KX a o q
      rw [ha] at e
      cases Option.some.inj e
      exact law_from (H := fun _ => none) ⟨fun _ => .inl rfl, .inl rfl⟩ KX hns hb hbb hlim hg ha (fun b u z => by cases z) hr F hbind
        (hsp _ (.inr ⟨_, vs.toArray, _, q, rfl, rfl, rfl, by rw [List.size_toArray, lv]; exact hl, by simpa using rv⟩))
end
theorem walkG {l : PySem.W.OpenLaw} {n k : Nat} {q : Program} {loose : List Str} {XP : (Str → Option Value) → Heap → Prop} {YP : World → Heap → Prop} {d : DefRec} {x : Str} (hn : l.most = some n) (hn2 : n ≤ sizeLine) (hdf : d.params.defaults = []) (hr : Room k callerA)
    (F : ∀ (w : World) (mg : Str → Option Value) (fa : Addr) (h : Heap), YP w h → h.Ns mainGlobals mg → mg d.name = some (.ref fa) →
      ∃ (K : PySem.W.Frag) (fd : FuncData) (sp : Sp), K.In h ∧ (∀ (s : Shared) (u : Value), BindsTo s fd ⟨[u], []⟩ [(x, u)]) ∧
        (∀ (H : Hp) (a : Addr) (ns : List Int), ns.length ≤ n → SqF K H a (ns.map V.int) → sp [.ref a] H (fun v _ => v = .bl true) fun _ _ _ => False) ∧
        ∀ base : Heap, K.In base → base.Ns mainGlobals mg → FnG l.prog w K mg base (CX l.prog w) k fa fd [x] sp) :
    PySem.W.WalkO q loose XP YP l.row.toRowW d [] (fun f vs => PySem.call f vs) := by
  refine Att.attach_call hn hdf ?_
  intro w s₀ s₁ mg mb fa o pm cd doc a vs ns G Y ho hd hcd hmg hobj hints hlen hg
  obtain ⟨K, fd, sp, KX, hb, hsp, hF⟩ := F w mg fa _ Y G.T.g hmg
  exact law_callG KX G.T.g G.T.b G.T.builtins G.T.nolimit hg hobj hints (Nat.le_trans hlen hn2) hr hF hb fun H hS => hsp H a ns hlen hS
end PV
end
section
/-! PVA20: methods and isinstance, in the form that generated proofs use. -/
namespace PV
open PySem PySem.Spec PyProof.Rows L2

def on1 (T : String) (op : Op1) : String → Option Op1 := fun t => if t = T then some op else none
def on0 (T : String) (op : Op0) : String → Option Op0 := fun t => if t = T then some op else none
def on2 (T : String) (op : Op2) : String → Option Op2 := fun t => if t = T then some op else none
theorem mf_append : MtF "list" "append" "list.append" := ⟨PySem.F.plainAttrs_list, PySem.F.slot_list_append, PySem.F.type_list_append⟩
theorem mf_extend : MtF "list" "extend" "list.extend" := ⟨PySem.F.plainAttrs_list, PySem.F.slot_list_extend, PySem.F.type_list_extend⟩
theorem mf_pop : MtF "list" "pop" "list.pop" := ⟨PySem.F.plainAttrs_list, PySem.F.slot_list_pop, PySem.F.type_list_pop⟩
theorem mf_insert : MtF "list" "insert" "list.insert" := ⟨PySem.F.plainAttrs_list, PySem.F.slot_list_insert, PySem.F.type_list_insert⟩
theorem mf_join : MtF "str" "join" "str.join" := ⟨PySem.F.plainAttrs_str, PySem.F.slot_str_join, PySem.F.type_str_join⟩
theorem mf_split : MtF "str" "split" "str.split" := ⟨PySem.F.plainAttrs_str, PySem.F.slot_str_split, PySem.F.type_str_split⟩
theorem mf_get : MtF "dict" "get" "dict.get" := ⟨PySem.F.plainAttrs_dict, PySem.F.slot_dict_get, PySem.F.type_dict_get⟩
section
variable {FS : FST} {g : Gx} {k : Nat} {cl : Cll} {N : List Str} {sc : Scope} {fq : Str → Bool} {X : Cx} {Wx : WX} {o a b : Expr} {mo ma mb : M D} {name : Str} {apos cpos : Pos} {T id : String} {op0 : Op0} {op1 : Op1} {op2 : Op2}
theorem Good.m0 (G : Good FS g k cl N sc fq X Wx) (F : MtF T name id) (sm : SM0 g X Wx id op0) (hbase : attributeBase o name X.env (eval o X.env) = eval o X.env) (hline : (apos.endLine == cpos.line) = true) (ho : SE g X Wx o mo) :
    SE g X Wx (.Call (.Attribute o name apos) [] [] cpos) (mM0 (on0 T op0) mo) :=
  se_m0 G.K F (fun T' op e => by
    unfold on0 at e
    split at e
    · rename_i h; subst h; cases e; exact ⟨id, F, sm⟩
    · cases e) hbase hline ho
theorem Good.m1 (G : Good FS g k cl N sc fq X Wx) (F : MtF T name id) (sm : SM1 g X Wx id op1) (hbase : attributeBase o name X.env (eval o X.env) = eval o X.env) (hline : (apos.endLine == cpos.line) = true) (hs : starEach [a] X.env = [(false, eval a X.env)])
    (ho : SE g X Wx o mo) (ha : SE g X Wx a ma) : SE g X Wx (.Call (.Attribute o name apos) [a] [] cpos) (mM1 (on1 T op1) mo ma) :=
  se_m1 G.K F (fun T' op e => by
    unfold on1 at e
    split at e
    · rename_i h; subst h; cases e; exact ⟨id, F, sm⟩
    · cases e) hbase hline hs ho ha
theorem Good.m2 (G : Good FS g k cl N sc fq X Wx) (F : MtF T name id) (sm : SM2 g X Wx id op2) (hbase : attributeBase o name X.env (eval o X.env) = eval o X.env) (hline : (apos.endLine == cpos.line) = true)
    (hs : starEach [a, b] X.env = [(false, eval a X.env), (false, eval b X.env)]) (hs2 : starEach [b] X.env = [(false, eval b X.env)])
    (ho : SE g X Wx o mo) (ha : SE g X Wx a ma) (hb : SE g X Wx b mb) : SE g X Wx (.Call (.Attribute o name apos) [a, b] [] cpos) (mM2 (on2 T op2) mo ma mb) :=
  se_m2 G.K F (fun T' op e => by
    unfold on2 at e
    split at e
    · rename_i h; subst h; cases e; exact ⟨id, F, sm⟩
    · cases e) hbase hline hs hs2 ho ha hb
/-- isinstance with one built-in type -/
def isiW (x y : D) (h : Hh) : R D := match y with
  | .ty n => match isiTy h x n with
    | some b => .ok (.bl b) h
    | none => .bad
  | _ => .bad
theorem sc_isi (hK : X.K = g.K) : SC2 g X Wx (.builtin "isinstance") isiW := by
  intro x y h σ H μ vx vy Q rh qx qy po
  unfold isiW at po
  split at po
  · rename_i n
    split at po
    · rename_i r e
      unfold isiTy at e
      split at e
      · rename_i t et
        rw [show vy = .ty n from qy]
        exact crAt call_isi ⟨vx, .ty n, .type t, .type n, r, rfl, .ty n, by rw [hK]; exact tyD_ok rh qx et, kit_ty e, po.at rh _ rfl (.of rfl)⟩
      · cases e
    · exact po.elim
  · exact po.elim
end
end PV
end
section
/-! PVA21: short names for generated proofs. -/
namespace PV
open PySem PySem.Spec PyProof.Rows L2
section
variable {FS : FST} {g : Gx} {k : Nat} {cl : Cll} {N : List Str} {sc : Scope} {fq : Str → Bool} {X : Cx} {Wx : WX} {x : Str} {pos : Pos}
theorem Good.u1 (G : Good FS g k cl N sc fq X Wx) : X.A.units + 1 < cLine := by have := G.un; omega
theorem Good.u64 (G : Good FS g k cl N sc fq X Wx) : X.A.units + 64 < cLine := by have := G.un; omega
theorem Good.u0 (G : Good FS g k cl N sc fq X Wx) : X.A.units < cLine := by have := G.un; omega
theorem Good.conS (G : Good FS g k cl N sc fq X Wx) {z : Str} (h : okG sc x = true) (hm : ∃ t, X.mg x = some (.str z t)) : SE g X Wx (.Name x pos) (mC (.str z)) := by
  obtain ⟨t, hm⟩ := hm
  exact G.con (v := .str z) h hm ⟨t, rfl⟩ rfl fun _ _ => rfl
theorem Good.conI (G : Good FS g k cl N sc fq X Wx) {z : Int} (h : okG sc x = true) (hm : ∃ t, X.mg x = some (.int z t)) : SE g X Wx (.Name x pos) (mC (.int z)) := by
  obtain ⟨t, hm⟩ := hm
  exact G.con (v := .int z) h hm ⟨t, rfl⟩ rfl fun _ _ => rfl
/-- a tuple of the module's top -/
theorem Good.conT (G : Good FS g k cl N sc fq X Wx) {ws : List D} (h : okG sc x = true) (hm : ∃ a vs, X.mg x = some (.ref a) ∧ (∀ H, SqT g.K H a vs) ∧ ∀ μ H, RVs g μ H ws vs) : SE g X Wx (.Name x pos) (mC (.kt ws)) := by
  obtain ⟨a, vs, hm, hs, hv⟩ := hm
  exact G.con (v := .ref a) h hm rfl rfl fun μ H => ⟨a, vs, rfl, hs H, hv μ H⟩
theorem Good.sole (G : Good FS g k cl N sc fq X Wx) {t v : Expr} {l : Nat} {r : Sem Bool} (h : swapsWithSole [t] v l (env0 sc) = r) : swapsWithSole [t] v l X.env = r := (sw_env (env' := env0 sc) G.sc).trans h
theorem Good.sws (G : Good FS g k cl N sc fq X Wx) {ts : List Expr} {v : Expr} {r : Sem (Option (List Str))} (h : swappedStores ts v (env0 sc) = r) : swappedStores ts v X.env = r := (sws_env (env' := env0 sc) G.sc).trans h
end
end PV
end
section
/-! PVA22: side conditions told by the form of an expression. -/
namespace PV
open PySem PySem.Spec PyProof.Rows L2
/-- no starred one -/
def nSt : Expr → Bool
  | .Starred _ _ => false
  | _ => true
def nSts : List Expr → Bool
  | [] => true
  | e :: es => nSt e && nSts es
/-- no comprehension, no set -/
def nCo : Expr → Bool
  | .ListComp .. => false
  | .SetComp .. => false
  | .DictComp .. => false
  | _ => true
def nSet : Expr → Bool
  | .Set .. => false
  | _ => true
def nSl : Expr → Bool
  | .Slice .. => false
  | _ => true
/-- a test whose value is looked at -/
def vTe : Expr → Bool
  | .UnaryOp .. => false
  | .BoolOp .. => false
  | .IfExp .. => false
  | .Compare .. => false
  | _ => true
def nC0 : Expr → Bool
  | .Call .. => false
  | _ => true
def nTup : Expr → Bool
  | .Tuple .. => false
  | _ => true
section
variable {e a b o i : Expr} {es : List Expr} {env : Env} {pos tpos : Pos}
theorem star1 (h : nSt e = true) : starEach (e :: es) env = (false, eval e env) :: starEach es env := by cases e <;> first | rfl | cases h
theorem starL (h : nSt a = true) : starEach [a] env = [(false, eval a env)] := star1 h
theorem starL2 (h : nSts [a, b] = true) : starEach [a, b] env = [(false, eval a env), (false, eval b env)] := by
  simp only [nSts, Bool.and_true, Bool.and_eq_true] at h
  rw [star1 h.1, starL h.2]
theorem starN (h : nSts es = true) : (backTo pos (starEach es env)).any (·.1) = false := by
  induction es with
  | nil => rfl
  | cons e es ih =>
    simp only [nSts, Bool.and_eq_true] at h
    rw [star1 h.1]
    unfold backTo
    rw [List.map_cons, List.any_cons]
    exact ih h.2
theorem asg1 (h : nSt e = true) : assignEach (e :: es) env = (false, assign e env) :: assignEach es env := by cases e <;> first | rfl | cases h
theorem asgM (h : nSt e = true) : (assignEach (e :: es) env).map (·.2) = assign e env :: (assignEach es env).map (·.2) := by rw [asg1 h]; rfl
theorem asgL (h : nSts es = true) : (assignEach es env).length = es.length := by
  induction es with
  | nil => rfl
  | cons e es ih =>
    simp only [nSts, Bool.and_eq_true] at h
    rw [asg1 h.1, List.length_cons, List.length_cons, ih h.2]
theorem asgF (h : nSts es = true) : (assignEach es env).findIdx? (·.1) = none := by
  induction es with
  | nil => rfl
  | cons e es ih =>
    simp only [nSts, Bool.and_eq_true] at h
    rw [asg1 h.1, List.findIdx?_cons]
    simp [ih h.2]
theorem swN {t : Option Expr} {l : Nat} (h : nCo e = true) : swapsWith e t l env = pure false := by cases e <;> first | rfl | cases h
theorem swS {t : Expr} {l : Nat} (h : nCo e = true) : swapsWithSole [t] e l env = pure false := swN h
theorem foldN {x : Value} (h : nSet e = true) : foldedSetIterable e env x = pure x := by cases e <;> first | rfl | cases h
theorem ixP (h : nSl b = true) : PlainIx b := fun o i => by cases b <;> first | rfl | cases h
theorem testV {whole : Sem Value} (h : vTe a = true) : isTrue a env whole = (do let v ← whole; standAt a.pos; holding [v] (truthy v)) := by cases a <;> first | rfl | cases h
theorem attB {n : Str} (h : nC0 o = true) : attributeBase o n env (eval o env) = eval o env := by cases o <;> first | rfl | cases h
theorem swsName {x : Str} {p : Pos} : swappedStores [.Name x p] e env = pure none := by cases e <;> rfl
theorem swsTup {es : List Expr} {n : Nat} {p : Pos} (h : nTup e = true) : swappedStores [.Tuple es n p] e env = pure none := by cases e <;> first | rfl | cases h
theorem swsSub {p : Pos} : swappedStores [.Subscript o i p] e env = pure none := by cases e <;> rfl
theorem asgSub (h : nSl i = true) (v : Value) : assign (.Subscript o i tpos) env v = (do
      let ov ← holding [v] (eval o env)
      let iv ← holding [v, ov] (eval i env)
      standAt tpos
      holding [v, ov, iv] (setItem ov iv v)
      release [v, ov, iv] []) := by cases i <;> first | rfl | cases h
end
section
variable {FS : FST} {g : Gx} {k : Nat} {cl : Cll} {N : List Str} {sc : Scope} {fq : Str → Bool} {X : Cx} {Wx : WX} {pos p apos cpos tpos spos : Pos} {x name : Str} {f : Nat} {st : Stmt} {ps : List Str} {e a b o i tg iter : Expr} {es : List Expr} {ma mb mo me mi : M D} {ms : List (M D)}
theorem sac (ha : SE g X Wx e ma) (hr : SA g X Wx es (mArgs ms)) (h : nSt e = true) : SA g X Wx (e :: es) (mArgs (ma :: ms)) := sa_cons ha hr (star1 h)
theorem Good.cal (G : Good FS g k cl N sc fq X Wx) (h : okG sc x = true) (F : FnF X.prog X.w X.K X.mg X.base g k cl f x st ps) (bd : BdF x st ps) (hs : nSts (e :: es) = true) (hl : ms.length = ps.length) (ha : SA g X Wx (e :: es) (mArgs ms)) :
    SE g X Wx (.Call (.Name x p) (e :: es) [] pos) (mCall cl f (mArgs ms)) := by
  simp only [nSts, Bool.and_eq_true] at hs
  exact G.call h F bd (star1 hs.1) (starN hs.2) hl ha
theorem kwA {kws : List Keyword} {env : Env} : keywordEach kws env = kws.map fun q => (q.arg, eval q.value env) := by
  induction kws with
  | nil => rfl
  | cons q kws ih =>
    obtain ⟨n, v, p⟩ := q
    show (n, eval v env) :: keywordEach kws env = _
    rw [ih]; rfl
theorem Good.calK (G : Good FS g k cl N sc fq X Wx) {kws : List Keyword} (ks : List Str) (perm : List Nat) (h : okG sc x = true) (F : FnF X.prog X.w X.K X.mg X.base g k cl f x st ps) (bd : BdK x st ps ks perm)
    (hks : kws.map (·.arg) = ks.map some) (hp : perm.length = ps.length) (hlk : ms.length = ks.length) (ha : SK g X Wx kws (mArgs ms)) : SE g X Wx (.Call (.Name x p) [] kws pos) (mCallP cl f (mArgs ms) perm) := by
  have key : ∀ (kws : List Keyword) (ks : List Str), kws.map (·.arg) = ks.map some →
      (backToKw pos (keywordEach kws X.env)).all (·.1.isSome) = true ∧ (backToKw pos (keywordEach kws X.env)).filterMap (·.1) = ks ∧ (backToKw pos (keywordEach kws X.env)).any (·.1.isNone) = false := by
    intro kws
    induction kws with
    | nil => intro ks h; cases ks with
      | nil => exact ⟨rfl, rfl, rfl⟩
      | cons _ _ => cases h
    | cons q kws ih =>
      intro ks h
      cases ks with
      | nil => cases h
      | cons y ks =>
        simp only [List.map_cons, List.cons.injEq] at h
        obtain ⟨h1, h2, h3⟩ := ih ks h.2
        obtain ⟨n, v, pp⟩ := q
        have h0 : n = some y := h.1
        subst h0
        have e : backToKw pos (keywordEach (⟨some y, v, pp⟩ :: kws) X.env) = (some y, do let v ← eval v X.env; standAt pos; pure v) :: backToKw pos (keywordEach kws X.env) := rfl
        rw [e]
        refine ⟨?_, ?_, ?_⟩
        · rw [List.all_cons, h1]; rfl
        · rw [List.filterMap_cons, h2]
        · rw [List.any_cons, h3]; rfl
  obtain ⟨h1, h2, h3⟩ := key kws ks hks
  exact G.callK ks perm h F bd h1 h2 h3 hp hlk ha
theorem Good.f1 (G : Good FS g k cl N sc fq X Wx) {bv : Value} {f : D → Hh → R D} (h : okG sc x = true) (hm : X.mg x = none) (hv : bootBuiltins x = some bv) (hb : isBt bv = true) (s : SC1 g X Wx bv f) (hs : nSt a = true) (ha : SE g X Wx a ma) :
    SE g X Wx (.Call (.Name x p) [a] [] pos) (mF1 f ma) := G.b1 h hm hv hb s (starL hs) ha
theorem Good.f2 (G : Good FS g k cl N sc fq X Wx) {bv : Value} {f : D → D → Hh → R D} (h : okG sc x = true) (hm : X.mg x = none) (hv : bootBuiltins x = some bv) (hb : isBt bv = true) (s : SC2 g X Wx bv f) (hs : nSts [a, b] = true) (ha : SE g X Wx a ma) (hb' : SE g X Wx b mb) :
    SE g X Wx (.Call (.Name x p) [a, b] [] pos) (mOp f ma mb) := by
  have h2 := hs
  simp only [nSts, Bool.and_true, Bool.and_eq_true] at h2
  exact G.b2 h hm hv hb s (starL2 hs) (starL h2.2) ha hb'
theorem Good.k0 (G : Good FS g k cl N sc fq X Wx) {T id : String} {op : Op0} (F : MtF T name id) (sm : SM0 g X Wx id op) (hb : nC0 o = true) (hline : (apos.endLine == cpos.line) = true) (ho : SE g X Wx o mo) :
    SE g X Wx (.Call (.Attribute o name apos) [] [] cpos) (mM0 (on0 T op) mo) := G.m0 F sm (attB hb) hline ho
theorem Good.k1 (G : Good FS g k cl N sc fq X Wx) {T id : String} {op : Op1} (F : MtF T name id) (sm : SM1 g X Wx id op) (hb : nC0 o = true) (hline : (apos.endLine == cpos.line) = true) (hs : nSt a = true) (ho : SE g X Wx o mo) (ha : SE g X Wx a ma) :
    SE g X Wx (.Call (.Attribute o name apos) [a] [] cpos) (mM1 (on1 T op) mo ma) := G.m1 F sm (attB hb) hline (starL hs) ho ha
theorem Good.k2 (G : Good FS g k cl N sc fq X Wx) {T id : String} {op : Op2} (F : MtF T name id) (sm : SM2 g X Wx id op) (hb : nC0 o = true) (hline : (apos.endLine == cpos.line) = true) (hs : nSts [a, b] = true) (ho : SE g X Wx o mo) (ha : SE g X Wx a ma) (hb' : SE g X Wx b mb) :
    SE g X Wx (.Call (.Attribute o name apos) [a, b] [] cpos) (mM2 (on2 T op) mo ma mb) := by
  have h2 := hs
  simp only [nSts, Bool.and_true, Bool.and_eq_true] at h2
  exact G.m2 F sm (attB hb) hline (starL2 hs) (starL h2.2) ho ha hb'
theorem Good.ix (G : Good FS g k cl N sc fq X Wx) (ha : SE g X Wx a ma) (hb : SE g X Wx b mb) (h : nSl b = true) : SE g X Wx (.Subscript a b pos) (mOp ixW ma mb) := se_ix G.K G.u1 ha hb (ixP h)
theorem stv (ha : SE g X Wx a ma) (h : vTe a = true) : ST g X Wx a (mB ma) := st_val ha fun _ => testV h
theorem Good.r1 (G : Good FS g k cl N sc fq X Wx) (h : okG sc "range" = true) (hm : X.mg "range" = none) (hs : nSt e = true) (he : SE g X Wx e me) : SI g X Wx tg (.Call (.Name "range" p) [e] [] pos) (miR1 me) := si_r1 (G.gl h).1 hm (starL hs) he
theorem Good.r2 (G : Good FS g k cl N sc fq X Wx) (h : okG sc "range" = true) (hm : X.mg "range" = none) (hs : nSts [a, b] = true) (ha : SE g X Wx a ma) (hb : SE g X Wx b mb) : SI g X Wx tg (.Call (.Name "range" p) [a, b] [] pos) (miR2 ma mb) := by
  have h2 := hs
  simp only [nSts, Bool.and_true, Bool.and_eq_true] at h2
  exact si_r2 (G.gl h).1 hm (starL2 hs) (starL h2.2) ha hb
theorem Good.en {kk : Nat} (G : Good FS g k cl N sc fq X Wx) (h : okG sc "enumerate" = true) (hm : X.mg "enumerate" = none) (hs : nSt e = true) (he : SE g X Wx e me) : SI g X Wx (.Tuple es kk tpos) (.Call (.Name "enumerate" p) [e] [] pos) (miEn me) := si_en G.K (G.gl h).1 hm (starL hs) he
theorem Good.zp {kk : Nat} (G : Good FS g k cl N sc fq X Wx) (h : okG sc "zip" = true) (hm : X.mg "zip" = none) (hs : nSts [a, b] = true) (ha : SE g X Wx a ma) (hb : SE g X Wx b mb) : SI g X Wx (.Tuple es kk tpos) (.Call (.Name "zip" p) [a, b] [] pos) (miZ ma mb) := by
  have h2 := hs
  simp only [nSts, Bool.and_true, Bool.and_eq_true] at h2
  exact si_zip G.K (G.gl h).1 hm (starL2 hs) (starL h2.2) ha hb
theorem sgc {t : Tg} {ts : List Tg} (h1 : SG g X e t) (h2 : SGs g X es ts) (h : nSt e = true) : SGs g X (e :: es) (t :: ts) := sgs_cons h1 h2 (asgM h)
theorem Good.tup {n : Nat} {ts : List Tg} (G : Good FS g k cl N sc fq X Wx) (hs : SGs g X es ts) (h : nSts es = true) (hl : es.length = ts.length) : SG g X (.Tuple es n pos) (.tu ts) := sg_tup G.K G.calm hs ((asgL h).trans hl) (asgF h)
theorem asgName {t : Tg} (he : SE g X Wx e me) (hg : SG g X (.Name x p) t) (h : nCo e = true) : SS g X Wx (.Assign [.Name x p] e spos) (msAsg t me) := ss_asg he hg (swS h) swsName (asgM rfl)
theorem asgTup {n : Nat} {t : Tg} (he : SE g X Wx e me) (hg : SG g X (.Tuple es n p) t) (h : nCo e = true) (h2 : nTup e = true) : SS g X Wx (.Assign [.Tuple es n p] e spos) (msAsg t me) := ss_asg he hg (swS h) (swsTup h2) (asgM rfl)
theorem Good.asgN {t : Tg} (G : Good FS g k cl N sc fq X Wx) (he : SE g X Wx e me) (hg : SG g X (.Name x p) t) (h : swapsWithSole [.Name x p] e spos.line (env0 sc) = pure false) : SS g X Wx (.Assign [.Name x p] e spos) (msAsg t me) := ss_asg he hg (G.sole h) swsName (asgM rfl)
theorem Good.asgT {n : Nat} {t : Tg} (G : Good FS g k cl N sc fq X Wx) (he : SE g X Wx e me) (hg : SG g X (.Tuple es n p) t) (h : nCo e = true) (h2 : swappedStores [.Tuple es n p] e (env0 sc) = pure none) : SS g X Wx (.Assign [.Tuple es n p] e spos) (msAsg t me) := ss_asg he hg (swS h) (G.sws h2) (asgM rfl)
theorem Good.sub (G : Good FS g k cl N sc fq X Wx) (he : SE g X Wx e me) (ho : SE g X Wx o mo) (hi : SE g X Wx i mi) (h : nCo e = true) (h2 : nSl i = true) : SS g X Wx (.Assign [.Subscript o i tpos] e spos) (msSub me mo mi) :=
  ss_sub G.u1 he ho hi (asgSub h2) (swS h) swsSub (asgM rfl)
theorem sse (he : SE g X Wx e me) (h : nCo e = true) : SS g X Wx (.Expr e spos) (msExpr me) := ss_expr he (swN h)
theorem Good.par' (G : Good FS g k cl N sc fq X Wx) (i j : Nat) {x y : Str} {px py pt : Pos} {kt k2 pt2} (hi : okL N sc i x = true) (hj : okL N sc j y = true) (hij : i ≠ j) (ha : SA g X Wx [a, b] (mArgs [ma, mb]))
    (hw : swappedStores [.Tuple [.Name x px, .Name y py] kt pt] (.Tuple [a, b] k2 pt2) (env0 sc) = pure (some [x, y])) : SS g X Wx (.Assign [.Tuple [.Name x px, .Name y py] kt pt] (.Tuple [a, b] k2 pt2) spos) (msAsg (.tu [.nm i, .nm j]) (mTup (mArgs [ma, mb]))) :=
  G.par i j hi hj hij ha hw (swS rfl)
theorem ssf {t : Tg} {mi : M Src} {mb : MS} {body : List Stmt} (hp : PassesOwn (model X.prog X.w) X.A X.env X.xe) (G : Good FS g k cl N sc fq X Wx) (hi : SI g X Wx tg iter mi) (hg : SG g X tg t) (hb : SL g X Wx body mb) (h : nSet iter = true) : SS g X Wx (.For tg iter body [] pos) (msFor mi t mb) :=
  ss_for hp G.calm hi hg hb fun _ => foldN h
end
end PV
end
section
/-! PVA23: the rules over one-field structures, printed by qgen.py: the elaborator does not look into those. -/
namespace PV
open PySem PySem.Spec PyProof.Rows L2
structure QE (g : Gx) (X : Cx) (Wx : WX) (e : Expr) (m : M D) : Prop where
  p : SE g X Wx e m
structure QT (g : Gx) (X : Cx) (Wx : WX) (e : Expr) (m : M Bool) : Prop where
  p : ST g X Wx e m
structure QW (g : Gx) (X : Cx) (Wx : WX) (e : Expr) (m : M Bool) : Prop where
  p : SW g X Wx e m
structure QA (g : Gx) (X : Cx) (Wx : WX) (es : List Expr) (m : M (List D)) : Prop where
  p : SA g X Wx es m
structure QK (g : Gx) (X : Cx) (Wx : WX) (kws : List Keyword) (m : M (List D)) : Prop where
  p : SK g X Wx kws m
structure QP (g : Gx) (X : Cx) (Wx : WX) (e : Option Expr) (m : Option (M D)) : Prop where
  p : SP' g X Wx e m
structure QPs (g : Gx) (X : Cx) (Wx : WX) (ks : List (Option Expr)) (vs : List Expr) (m : List (M D × M D)) : Prop where
  p : SPs g X Wx ks vs m
structure QG (g : Gx) (X : Cx) (e : Expr) (t : Tg) : Prop where
  p : SG g X e t
structure QGs (g : Gx) (X : Cx) (es : List Expr) (ts : List Tg) : Prop where
  p : SGs g X es ts
structure QI (g : Gx) (X : Cx) (Wx : WX) (tg e : Expr) (m : M Src) : Prop where
  p : SI g X Wx tg e m
structure QS (g : Gx) (X : Cx) (Wx : WX) (s : Stmt) (m : MS) : Prop where
  p : SS g X Wx s m
structure QL (g : Gx) (X : Cx) (Wx : WX) (s : List Stmt) (m : MS) : Prop where
  p : SL g X Wx s m
structure QO (g : Gx) (X : Cx) (Wx : WX) (f : Value → Value → Sem Value) (m : D → D → Hh → R D) : Prop where
  p : SO g X Wx f m
structure QC1 (g : Gx) (X : Cx) (Wx : WX) (f : Value) (m : D → Hh → R D) : Prop where
  p : SC1 g X Wx f m
structure QC2 (g : Gx) (X : Cx) (Wx : WX) (f : Value) (m : D → D → Hh → R D) : Prop where
  p : SC2 g X Wx f m
structure QM0 (g : Gx) (X : Cx) (Wx : WX) (id : String) (op : Op0) : Prop where
  p : SM0 g X Wx id op
structure QM1 (g : Gx) (X : Cx) (Wx : WX) (id : String) (op : Op1) : Prop where
  p : SM1 g X Wx id op
structure QM2 (g : Gx) (X : Cx) (Wx : WX) (id : String) (op : Op2) : Prop where
  p : SM2 g X Wx id op
section
variable {FS : FST} {g : Gx} {k : Nat} {cl : Cll} {N : List Str} {sc : Scope} {fq : Str → Bool} {X : Cx} {Wx : WX} {pos p apos cpos tpos spos p2 : Pos} {x name y : Str} {f : Nat} {st : Stmt} {ps : List Str} {e a b c o i tg iter tg1 iter1 elt : Expr} {es : List Expr} {ma mb mc mo me mi : M D} {ms : List (M D)} {ta tb mt mt1 : M Bool} {m m2 : MS} {mA : M (List D)} {t t1 : Tg} {ts : List Tg} {mI mI1 : M Src} {s0 : Stmt} {rest ss1 ss2 : List Stmt} {scope : Scope} {ifs ifs1 : List Expr} {lo hi : Option Expr} {ml mh : Option (M D)} {nn kk : Nat}
theorem qe_int {ii : Int} {j : Nat}  : QE g X Wx (.Constant (.int ii) j pos) (mC (.int ii)) :=
  ⟨se_int⟩
theorem qe_bl {ii : Bool} {j : Nat}  : QE g X Wx (.Constant (.bool ii) j pos) (mC (.bl ii)) :=
  ⟨se_bl⟩
theorem qe_non {j : Nat}  : QE g X Wx (.Constant .none j pos) (mC .non) :=
  ⟨se_non⟩
theorem qe_str {j : Nat}  : QE g X Wx (.Constant (.str x) j pos) (mC (.str x)) :=
  ⟨se_str⟩
theorem Good.qvar  (G : Good FS g k cl N sc fq X Wx) (i : Nat) (h : okV N sc i x = true) : QE g X Wx (.Name x pos) (mV i) :=
  ⟨G.var i h⟩
theorem Good.qconS  (G : Good FS g k cl N sc fq X Wx) {z : Str} (h : okG sc x = true) (hm : ∃ t, X.mg x = some (.str z t)) : QE g X Wx (.Name x pos) (mC (.str z)) :=
  ⟨G.conS h hm⟩
theorem Good.qconI  (G : Good FS g k cl N sc fq X Wx) {z : Int} (h : okG sc x = true) (hm : ∃ t, X.mg x = some (.int z t)) : QE g X Wx (.Name x pos) (mC (.int z)) :=
  ⟨G.conI h hm⟩
theorem Good.qconT  (G : Good FS g k cl N sc fq X Wx) {ws : List D} (h : okG sc x = true) (hm : ∃ a vs, X.mg x = some (.ref a) ∧ (∀ H, SqT g.K H a vs) ∧ ∀ μ H, RVs g μ H ws vs) : QE g X Wx (.Name x pos) (mC (.kt ws)) :=
  ⟨G.conT h hm⟩
theorem Good.qtyp  (G : Good FS g k cl N sc fq X Wx) {n : String} (h : okG sc x = true) (hm : X.mg x = none) (hv : bootBuiltins x = some (.type n)) : QE g X Wx (.Name x pos) (mC (.ty n)) :=
  ⟨G.typ h hm hv⟩
theorem qe_bin {op : Operator} {ff : D → D → Hh → R D} (so : QO g X Wx (binaryOp op) ff) (ha : QE g X Wx a ma) (hb : QE g X Wx b mb) : QE g X Wx (.BinOp a op b pos) (mOp ff ma mb) :=
  ⟨se_bin so.p ha.p hb.p⟩
theorem qe_cmp {op : CmpOp} {ff : D → D → Hh → R D} (so : QO g X Wx (compareOp op) ff) (ha : QE g X Wx a ma) (hb : QE g X Wx b mb) (hm : behindInMarks op b = false) : QE g X Wx (.Compare a [op] [b] pos) (mOp ff ma mb) :=
  ⟨se_cmp so.p ha.p hb.p hm⟩
theorem qt_cmp {op : CmpOp} {ff : D → D → Hh → R D} (so : QO g X Wx (compareOp op) ff) (ha : QE g X Wx a ma) (hb : QE g X Wx b mb) (hm : behindInMarks op b = false) : QT g X Wx (.Compare a [op] [b] pos) (mB (mOp ff ma mb)) :=
  ⟨st_cmp so.p ha.p hb.p hm⟩
theorem qe_chain {op op2 : CmpOp} {ff ff2 : D → D → Hh → R D} (so : QO g X Wx (compareOp op) ff) (so2 : QO g X Wx (compareOp op2) ff2) (ha : QE g X Wx a ma) (hb : QE g X Wx b mb) (hc : QE g X Wx c mc) (hm : lastMarks [op, op2] [b, c] = false) : QE g X Wx (.Compare a [op, op2] [b, c] pos) (mChain ff ff2 ma mb mc) :=
  ⟨se_chain so.p so2.p ha.p hb.p hc.p hm⟩
theorem qt_chain {op op2 : CmpOp} {ff ff2 : D → D → Hh → R D} (so : QO g X Wx (compareOp op) ff) (so2 : QO g X Wx (compareOp op2) ff2) (ha : QE g X Wx a ma) (hb : QE g X Wx b mb) (hc : QE g X Wx c mc) (hm : lastMarks [op, op2] [b, c] = false) : QT g X Wx (.Compare a [op, op2] [b, c] pos) (mB (mChain ff ff2 ma mb mc)) :=
  ⟨st_chain so.p so2.p ha.p hb.p hc.p hm⟩
theorem Good.oaddW  (G : Good FS g k cl N sc fq X Wx) : QO g X Wx (binaryOp .Add) addW :=
  ⟨so_add G.K⟩
theorem Good.osubW  (G : Good FS g k cl N sc fq X Wx) : QO g X Wx (binaryOp .Sub) subW :=
  ⟨so_sub⟩
theorem Good.omulW  (G : Good FS g k cl N sc fq X Wx) : QO g X Wx (binaryOp .Mult) mulW :=
  ⟨so_mul⟩
theorem Good.ofdivW  (G : Good FS g k cl N sc fq X Wx) : QO g X Wx (binaryOp .FloorDiv) fdivW :=
  ⟨so_fdiv⟩
theorem Good.omodW  (G : Good FS g k cl N sc fq X Wx) : QO g X Wx (binaryOp .Mod) modW :=
  ⟨so_mod⟩
theorem Good.opowW  (G : Good FS g k cl N sc fq X Wx) : QO g X Wx (binaryOp .Pow) powW :=
  ⟨so_pow⟩
theorem Good.oeqW  (G : Good FS g k cl N sc fq X Wx) : QO g X Wx (compareOp .Eq) eqW :=
  ⟨so_eq G.K G.u64⟩
theorem Good.oneW  (G : Good FS g k cl N sc fq X Wx) : QO g X Wx (compareOp .NotEq) neW :=
  ⟨so_ne G.K G.u64⟩
theorem Good.oinW  (G : Good FS g k cl N sc fq X Wx) : QO g X Wx (compareOp .In) inW :=
  ⟨so_in G.K G.un⟩
theorem Good.oniW  (G : Good FS g k cl N sc fq X Wx) : QO g X Wx (compareOp .NotIn) niW :=
  ⟨so_ni G.K G.un⟩
theorem Good.oltW  (G : Good FS g k cl N sc fq X Wx) : QO g X Wx (compareOp .Lt) ltW :=
  ⟨so_lt G.K G.u0⟩
theorem Good.oleW  (G : Good FS g k cl N sc fq X Wx) : QO g X Wx (compareOp .LtE) leW :=
  ⟨so_le⟩
theorem Good.ogtW  (G : Good FS g k cl N sc fq X Wx) : QO g X Wx (compareOp .Gt) gtW :=
  ⟨so_gt⟩
theorem Good.ogeW  (G : Good FS g k cl N sc fq X Wx) : QO g X Wx (compareOp .GtE) geW :=
  ⟨so_ge⟩
theorem Good.oisW  (G : Good FS g k cl N sc fq X Wx) : QO g X Wx (compareOp .Is) isW :=
  ⟨so_is⟩
theorem Good.oinotW  (G : Good FS g k cl N sc fq X Wx) : QO g X Wx (compareOp .IsNot) inotW :=
  ⟨so_isnot⟩
theorem Good.clenW  (G : Good FS g k cl N sc fq X Wx) : QC1 g X Wx (.builtin "len") lenW :=
  ⟨sc_len G.K⟩
theorem Good.cabsW  (G : Good FS g k cl N sc fq X Wx) : QC1 g X Wx (.builtin "abs") absW :=
  ⟨sc_abs⟩
theorem Good.cintW  (G : Good FS g k cl N sc fq X Wx) : QC1 g X Wx (.type "int") intW :=
  ⟨sc_int⟩
theorem Good.cstrW  (G : Good FS g k cl N sc fq X Wx) : QC1 g X Wx (.type "str") strW :=
  ⟨sc_str⟩
theorem Good.ctupleW  (G : Good FS g k cl N sc fq X Wx) : QC1 g X Wx (.type "tuple") tupleW :=
  ⟨sc_tuple G.K⟩
theorem Good.clistW  (G : Good FS g k cl N sc fq X Wx) : QC1 g X Wx (.type "list") listW :=
  ⟨sc_list G.K G.calm⟩
theorem Good.callW  (G : Good FS g k cl N sc fq X Wx) : QC1 g X Wx (.builtin "all") allW :=
  ⟨sc_all G.K G.calm⟩
theorem Good.canyW  (G : Good FS g k cl N sc fq X Wx) : QC1 g X Wx (.builtin "any") anyW :=
  ⟨sc_any G.K G.calm⟩
theorem Good.csumW  (G : Good FS g k cl N sc fq X Wx) : QC1 g X Wx (.builtin "sum") sumW :=
  ⟨sc_sum G.K G.calm⟩
theorem Good.creprW  (G : Good FS g k cl N sc fq X Wx) : QC1 g X Wx (.builtin "repr") reprW :=
  ⟨sc_repr G.K G.gd G.un⟩
theorem Good.cordW  (G : Good FS g k cl N sc fq X Wx) : QC1 g X Wx (.builtin "ord") ordW :=
  ⟨sc_ord⟩
theorem Good.cmaxW  (G : Good FS g k cl N sc fq X Wx) : QC2 g X Wx (.builtin "max") maxW :=
  ⟨sc_max G.calm⟩
theorem Good.cminW  (G : Good FS g k cl N sc fq X Wx) : QC2 g X Wx (.builtin "min") minW :=
  ⟨sc_min G.calm⟩
theorem Good.cisiW  (G : Good FS g k cl N sc fq X Wx) : QC2 g X Wx (.builtin "isinstance") isiW :=
  ⟨sc_isi G.K⟩
theorem Good.mpopW  (G : Good FS g k cl N sc fq X Wx) : QM0 g X Wx "list.pop" popW :=
  ⟨sm_pop⟩
theorem Good.mappendW  (G : Good FS g k cl N sc fq X Wx) : QM1 g X Wx "list.append" appendW :=
  ⟨sm_append⟩
theorem Good.mextendW  (G : Good FS g k cl N sc fq X Wx) : QM1 g X Wx "list.extend" extendW :=
  ⟨sm_extend⟩
theorem Good.mpopAtW  (G : Good FS g k cl N sc fq X Wx) : QM1 g X Wx "list.pop" popAtW :=
  ⟨sm_popAt⟩
theorem Good.mjoinW  (G : Good FS g k cl N sc fq X Wx) : QM1 g X Wx "str.join" joinW :=
  ⟨sm_join G.K⟩
theorem Good.msplitW  (G : Good FS g k cl N sc fq X Wx) : QM1 g X Wx "str.split" splitW :=
  ⟨sm_split⟩
theorem Good.mget1W  (G : Good FS g k cl N sc fq X Wx) : QM1 g X Wx "dict.get" get1W :=
  ⟨sm_get1 G.u1⟩
theorem Good.mget2W  (G : Good FS g k cl N sc fq X Wx) : QM2 g X Wx "dict.get" get2W :=
  ⟨sm_get2 G.u1⟩
theorem Good.minsertW  (G : Good FS g k cl N sc fq X Wx) : QM2 g X Wx "list.insert" insertW :=
  ⟨sm_insert⟩
theorem qe_neg  (ha : QE g X Wx a ma) : QE g X Wx (.UnaryOp .USub a pos) (mF1 negW ma) :=
  ⟨se_neg ha.p⟩
theorem qe_not  (ha : QE g X Wx a ma) : QE g X Wx (.UnaryOp .Not a pos) (mNotV ma) :=
  ⟨se_not ha.p⟩
theorem qt_not  (ha : QT g X Wx a ta) : QT g X Wx (.UnaryOp .Not a pos) (mNotB ta) :=
  ⟨st_not ha.p⟩
theorem qe_one {op : BoolOp} (ha : QE g X Wx a ma) : QE g X Wx (.BoolOp op [a] pos) ma :=
  ⟨se_one ha.p⟩
theorem qe_and  (ha : QE g X Wx a ma) (hb : QE g X Wx (.BoolOp .And (b :: es) pos) mb) : QE g X Wx (.BoolOp .And (a :: b :: es) pos) (mAndV ma mb) :=
  ⟨se_and ha.p hb.p⟩
theorem qe_or  (ha : QE g X Wx a ma) (hb : QE g X Wx (.BoolOp .Or (b :: es) pos) mb) : QE g X Wx (.BoolOp .Or (a :: b :: es) pos) (mOrV ma mb) :=
  ⟨se_or ha.p hb.p⟩
theorem qw_and1  (ha : QT g X Wx a ta) : QW g X Wx (.BoolOp .And [a] pos) ta :=
  ⟨sw_and1 ha.p⟩
theorem qw_or1  (ha : QT g X Wx a ta) : QW g X Wx (.BoolOp .Or [a] pos) ta :=
  ⟨sw_or1 ha.p⟩
theorem qw_and  (ha : QT g X Wx a ta) (hb : QW g X Wx (.BoolOp .And (b :: es) pos) tb) : QW g X Wx (.BoolOp .And (a :: b :: es) pos) (mAndB ta tb) :=
  ⟨sw_and ha.p hb.p⟩
theorem qw_or  (ha : QT g X Wx a ta) (hb : QW g X Wx (.BoolOp .Or (b :: es) pos) tb) : QW g X Wx (.BoolOp .Or (a :: b :: es) pos) (mOrB ta tb) :=
  ⟨sw_or ha.p hb.p⟩
theorem QW.te  (ha : QW g X Wx a ta) : QT g X Wx a ta :=
  ⟨SW.st ha.p⟩
theorem qtv  (ha : QE g X Wx a ma) (h : vTe a = true) : QT g X Wx a (mB ma) :=
  ⟨stv ha.p h⟩
theorem qe_ife  (hc : QT g X Wx c ta) (ha : QE g X Wx a ma) (hb : QE g X Wx b mb) : QE g X Wx (.IfExp c a b pos) (mIf ta ma mb) :=
  ⟨se_ife hc.p ha.p hb.p⟩
theorem qa_nil   : QA g X Wx [] (mArgs []) :=
  ⟨sa_nil⟩
theorem qac  (ha : QE g X Wx e ma) (hr : QA g X Wx es (mArgs ms)) (h : nSt e = true) : QA g X Wx (e :: es) (mArgs (ma :: ms)) :=
  ⟨sac ha.p hr.p h⟩
theorem qk_nil   : QK g X Wx [] (mArgs []) :=
  ⟨sk_nil⟩
theorem qkc {nm : Option Str} {kws : List Keyword} (ha : QE g X Wx e ma) (hr : QK g X Wx kws (mArgs ms)) : QK g X Wx (⟨nm, e, pos⟩ :: kws) (mArgs (ma :: ms)) :=
  ⟨sk_cons ha.p hr.p⟩
theorem qe_tup  (ha : QA g X Wx es mA) : QE g X Wx (.Tuple es nn pos) (mTup mA) :=
  ⟨se_tup ha.p⟩
theorem qe_lst  (ha : QA g X Wx es mA) : QE g X Wx (.List es pos) (mLst mA) :=
  ⟨se_lst ha.p⟩
theorem qp_nil   : QPs g X Wx [] [] [] :=
  ⟨.nil⟩
theorem qpc {ks : List (Option Expr)} {vs : List Expr} {ps2 : List (M D × M D)} (hk : QE g X Wx a ma) (hv : QE g X Wx b mb) (hr : QPs g X Wx ks vs ps2) : QPs g X Wx (some a :: ks) (b :: vs) ((ma, mb) :: ps2) :=
  ⟨.cons hk.p hv.p hr.p⟩
theorem qe_disp {ks : List (Option Expr)} {vs : List Expr} {ps2 : List (M D × M D)} (hs : QPs g X Wx ks vs ps2) (hall : ks.all (·.isSome) = true) (hl : ks.length = vs.length) (h0 : ks ≠ []) (h15 : ks.length ≤ 15) : QE g X Wx (.Dict ks vs pos) (mDisp ps2) :=
  ⟨se_disp hs.p hall hl h0 h15⟩
theorem Good.qix  (G : Good FS g k cl N sc fq X Wx) (ha : QE g X Wx a ma) (hb : QE g X Wx b mb) (h : nSl b = true) : QE g X Wx (.Subscript a b pos) (mOp ixW ma mb) :=
  ⟨G.ix ha.p hb.p h⟩
theorem qp_none   : QP g X Wx none none :=
  ⟨sp_none⟩
theorem qp_some  (ha : QE g X Wx a ma) : QP g X Wx (some a) (some ma) :=
  ⟨sp_some ha.p⟩
theorem Good.qsl  (G : Good FS g k cl N sc fq X Wx) (ha : QE g X Wx a ma) (hl : QP g X Wx lo ml) (hh : QP g X Wx hi mh) : QE g X Wx (.Subscript a (.Slice lo hi none p2) pos) (mSl ma ml mh) :=
  ⟨se_sl G.K ha.p hl.p hh.p⟩
theorem Good.qcal  (G : Good FS g k cl N sc fq X Wx) (h : okG sc x = true) (F : FnF X.prog X.w X.K X.mg X.base g k cl f x st ps) (bd : BdF x st ps) (hs : nSts (e :: es) = true) (hl : ms.length = ps.length) (ha : QA g X Wx (e :: es) (mArgs ms)) : QE g X Wx (.Call (.Name x p) (e :: es) [] pos) (mCall cl f (mArgs ms)) :=
  ⟨G.cal h F bd hs hl ha.p⟩
theorem Good.qcal0  (G : Good FS g k cl N sc fq X Wx) (h : okG sc x = true) (F : FnF X.prog X.w X.K X.mg X.base g k cl f x st []) (bd : BdF x st []) : QE g X Wx (.Call (.Name x p) [] [] pos) (mCall cl f (mArgs [])) :=
  ⟨G.call0 h F bd⟩
theorem Good.qcalK  (G : Good FS g k cl N sc fq X Wx) {kws : List Keyword} (ks : List Str) (perm : List Nat) (h : okG sc x = true) (F : FnF X.prog X.w X.K X.mg X.base g k cl f x st ps) (bd : BdK x st ps ks perm) (hks : kws.map (·.arg) = ks.map some) (hp : perm.length = ps.length) (hlk : ms.length = ks.length) (ha : QK g X Wx kws (mArgs ms)) : QE g X Wx (.Call (.Name x p) [] kws pos) (mCallP cl f (mArgs ms) perm) :=
  ⟨G.calK ks perm h F bd hks hp hlk ha.p⟩
theorem Good.qf1  (G : Good FS g k cl N sc fq X Wx) {bv : Value} {ff : D → Hh → R D} (h : okG sc x = true) (hm : X.mg x = none) (hv : bootBuiltins x = some bv) (hb : isBt bv = true) (s : QC1 g X Wx bv ff) (hs : nSt a = true) (ha : QE g X Wx a ma) : QE g X Wx (.Call (.Name x p) [a] [] pos) (mF1 ff ma) :=
  ⟨G.f1 h hm hv hb s.p hs ha.p⟩
theorem Good.qf2  (G : Good FS g k cl N sc fq X Wx) {bv : Value} {ff : D → D → Hh → R D} (h : okG sc x = true) (hm : X.mg x = none) (hv : bootBuiltins x = some bv) (hb : isBt bv = true) (s : QC2 g X Wx bv ff) (hs : nSts [a, b] = true) (ha : QE g X Wx a ma) (hb2 : QE g X Wx b mb) : QE g X Wx (.Call (.Name x p) [a, b] [] pos) (mOp ff ma mb) :=
  ⟨G.f2 h hm hv hb s.p hs ha.p hb2.p⟩
theorem Good.qk0  (G : Good FS g k cl N sc fq X Wx) {T id : String} {op : Op0} (F : MtF T name id) (sm : QM0 g X Wx id op) (hb : nC0 o = true) (hline : (apos.endLine == cpos.line) = true) (ho : QE g X Wx o mo) : QE g X Wx (.Call (.Attribute o name apos) [] [] cpos) (mM0 (on0 T op) mo) :=
  ⟨G.k0 F sm.p hb hline ho.p⟩
theorem Good.qk1  (G : Good FS g k cl N sc fq X Wx) {T id : String} {op : Op1} (F : MtF T name id) (sm : QM1 g X Wx id op) (hb : nC0 o = true) (hline : (apos.endLine == cpos.line) = true) (hs : nSt a = true) (ho : QE g X Wx o mo) (ha : QE g X Wx a ma) : QE g X Wx (.Call (.Attribute o name apos) [a] [] cpos) (mM1 (on1 T op) mo ma) :=
  ⟨G.k1 F sm.p hb hline hs ho.p ha.p⟩
theorem Good.qk2  (G : Good FS g k cl N sc fq X Wx) {T id : String} {op : Op2} (F : MtF T name id) (sm : QM2 g X Wx id op) (hb : nC0 o = true) (hline : (apos.endLine == cpos.line) = true) (hs : nSts [a, b] = true) (ho : QE g X Wx o mo) (ha : QE g X Wx a ma) (hb2 : QE g X Wx b mb) : QE g X Wx (.Call (.Attribute o name apos) [a, b] [] cpos) (mM2 (on2 T op) mo ma mb) :=
  ⟨G.k2 F sm.p hb hline hs ho.p ha.p hb2.p⟩
theorem Good.qsie  (G : Good FS g k cl N sc fq X Wx) (he : QE g X Wx e me) : QI g X Wx tg e (miE me) :=
  ⟨si_e G.K he.p⟩
theorem Good.qr1  (G : Good FS g k cl N sc fq X Wx) (h : okG sc "range" = true) (hm : X.mg "range" = none) (hs : nSt e = true) (he : QE g X Wx e me) : QI g X Wx tg (.Call (.Name "range" p) [e] [] pos) (miR1 me) :=
  ⟨G.r1 h hm hs he.p⟩
theorem Good.qr2  (G : Good FS g k cl N sc fq X Wx) (h : okG sc "range" = true) (hm : X.mg "range" = none) (hs : nSts [a, b] = true) (ha : QE g X Wx a ma) (hb : QE g X Wx b mb) : QI g X Wx tg (.Call (.Name "range" p) [a, b] [] pos) (miR2 ma mb) :=
  ⟨G.r2 h hm hs ha.p hb.p⟩
theorem Good.qen  (G : Good FS g k cl N sc fq X Wx) (h : okG sc "enumerate" = true) (hm : X.mg "enumerate" = none) (hs : nSt e = true) (he : QE g X Wx e me) : QI g X Wx (.Tuple es kk tpos) (.Call (.Name "enumerate" p) [e] [] pos) (miEn me) :=
  ⟨G.en h hm hs he.p⟩
theorem Good.qzp  (G : Good FS g k cl N sc fq X Wx) (h : okG sc "zip" = true) (hm : X.mg "zip" = none) (hs : nSts [a, b] = true) (ha : QE g X Wx a ma) (hb : QE g X Wx b mb) : QI g X Wx (.Tuple es kk tpos) (.Call (.Name "zip" p) [a, b] [] pos) (miZ ma mb) :=
  ⟨G.zp h hm hs ha.p hb.p⟩
theorem Good.qtgt  (G : Good FS g k cl N sc fq X Wx) (i : Nat) (h : okT N sc fq i x = true) : QG g X (.Name x pos) (.nm i) :=
  ⟨G.tgt i h⟩
theorem qgs_nil   : QGs g X [] [] :=
  ⟨sgs_nil⟩
theorem qgc  (h1 : QG g X e t) (h2 : QGs g X es ts) (h : nSt e = true) : QGs g X (e :: es) (t :: ts) :=
  ⟨sgc h1.p h2.p h⟩
theorem Good.qtup  (G : Good FS g k cl N sc fq X Wx) (hs : QGs g X es ts) (h : nSts es = true) (hl : es.length = ts.length) : QG g X (.Tuple es nn pos) (.tu ts) :=
  ⟨G.tup hs.p h hl⟩
/-- none or one test, within a block -/
inductive QTs (FS : FST) (g : Gx) (k : Nat) (cl : Cll) (N : List Str) (sc : Scope) (fq : Str → Bool) : List Expr → M Bool → Prop
  | nil : QTs FS g k cl N sc fq [] (fun _ h => .ok true h)
  | one {c : Expr} {m : M Bool} (hc : ∀ X, Good FS g k cl N sc fq X WF → QT g X WF c m) : QTs FS g k cl N sc fq [c] m
theorem QTs.un (h : QTs FS g k cl N sc fq ifs mt) : GTs FS g k cl N sc fq ifs mt := by
  cases h with
  | nil => exact .nil
  | one hc => exact .one fun X G => (hc X G).p
theorem Good.qlc  (G : Good FS g k cl N sc fq X Wx) (own : List (Str × Nat)) (vs : List Nat) (hB : okB N sc scope own = true) (hvs : own.map (·.2) = vs) (hsl : subN t.slots vs = true) (hs : nSet iter = true) (hi : QI g X Wx tg iter mI) (hg : ∀ X, Good FS g k cl N (relS scope sc) (fqB scope) X WF → QG g X tg t) (ht : QTs FS g k cl N (relS scope sc) (fqB scope) ifs mt) (he : ∀ X, Good FS g k cl N (relS scope sc) (fqB scope) X WF → QE g X WF elt me) : QE g X Wx (.ListComp elt [⟨tg, iter, ifs, 0⟩] scope pos) (mLc mI t mt me vs) :=
  ⟨G.lc own vs hB hvs hsl (fun _ => foldN hs) hi.p (fun X G => (hg X G).p) ht.un (fun X G => (he X G).p)⟩
theorem Good.qlc2  (G : Good FS g k cl N sc fq X Wx) (own : List (Str × Nat)) (vs vs1 : List Nat) (hB : okB N sc scope own = true) (hvs : own.map (·.2) = vs) (hsl : subN t.slots vs = true) (hv1 : subN vs1 vs = true) (hsl1 : subN t1.slots vs1 = true) (hs : nSet iter = true) (hs1 : nSet iter1 = true) (hi : QI g X Wx tg iter mI) (hg : ∀ X, Good FS g k cl N (relS scope sc) (fqB scope) X WF → QG g X tg t) (ht : QTs FS g k cl N (relS scope sc) (fqB scope) ifs mt) (hi1 : ∀ X, Good FS g k cl N (relS scope sc) (fqB scope) X WF → QI g X WF tg1 iter1 mI1) (hg1 : ∀ X, Good FS g k cl N (relS scope sc) (fqB scope) X WF → QG g X tg1 t1) (ht1 : QTs FS g k cl N (relS scope sc) (fqB scope) ifs1 mt1) (he : ∀ X, Good FS g k cl N (relS scope sc) (fqB scope) X WF → QE g X WF elt me) : QE g X Wx (.ListComp elt [⟨tg, iter, ifs, 0⟩, ⟨tg1, iter1, ifs1, 0⟩] scope pos) (mLc2 mI t mt mI1 t1 mt1 me vs vs1) :=
  ⟨G.lc2 own vs vs1 hB hvs hsl hv1 hsl1 (fun _ => foldN hs) (fun _ _ => foldN hs1) hi.p (fun X G => (hg X G).p) ht.un (fun X G => (hi1 X G).p) (fun X G => (hg1 X G).p) ht1.un (fun X G => (he X G).p)⟩
theorem Good.qsetLc  (G : Good FS g k cl N sc fq X Wx) (i2 : Nat) (own : List (Str × Nat)) (vs : List Nat) (hl : okL N sc i2 y = true) (hw : okSw sc scope y p pos = true) (hB : okB N sc scope own = true) (hvs : own.map (·.2) = vs) (hsl : subN t.slots vs = true) (hs : nSet iter = true) (hi : QI g X Wx tg iter mI) (hg : ∀ X, Good FS g k cl N (relS scope sc) (fqB scope) X WF → QG g X tg t) (ht : QTs FS g k cl N (relS scope sc) (fqB scope) ifs mt) (he : ∀ X, Good FS g k cl N (relS scope sc) (fqB scope) X WF → QE g X WF elt me) : QS g X Wx (.Assign [.Name y p] (.ListComp elt [⟨tg, iter, ifs, 0⟩] scope pos) spos) (msAsg (.nm i2) (mLc mI t mt me vs)) :=
  ⟨G.setLc i2 own vs hl hw hB hvs hsl (fun _ => foldN hs) hi.p (fun X G => (hg X G).p) ht.un (fun X G => (he X G).p)⟩
theorem Good.qsetLc2  (G : Good FS g k cl N sc fq X Wx) (i2 : Nat) (own : List (Str × Nat)) (vs vs1 : List Nat) (hl : okL N sc i2 y = true) (hw : okSw sc scope y p pos = true) (hB : okB N sc scope own = true) (hvs : own.map (·.2) = vs) (hsl : subN t.slots vs = true) (hv1 : subN vs1 vs = true) (hsl1 : subN t1.slots vs1 = true) (hs : nSet iter = true) (hs1 : nSet iter1 = true) (hi : QI g X Wx tg iter mI) (hg : ∀ X, Good FS g k cl N (relS scope sc) (fqB scope) X WF → QG g X tg t) (ht : QTs FS g k cl N (relS scope sc) (fqB scope) ifs mt) (hi1 : ∀ X, Good FS g k cl N (relS scope sc) (fqB scope) X WF → QI g X WF tg1 iter1 mI1) (hg1 : ∀ X, Good FS g k cl N (relS scope sc) (fqB scope) X WF → QG g X tg1 t1) (ht1 : QTs FS g k cl N (relS scope sc) (fqB scope) ifs1 mt1) (he : ∀ X, Good FS g k cl N (relS scope sc) (fqB scope) X WF → QE g X WF elt me) : QS g X Wx (.Assign [.Name y p] (.ListComp elt [⟨tg, iter, ifs, 0⟩, ⟨tg1, iter1, ifs1, 0⟩] scope pos) spos) (msAsg (.nm i2) (mLc2 mI t mt mI1 t1 mt1 me vs vs1)) :=
  ⟨G.setLc2 i2 own vs vs1 hl hw hB hvs hsl hv1 hsl1 (fun _ => foldN hs) (fun _ _ => foldN hs1) hi.p (fun X G => (hg X G).p) ht.un (fun X G => (hi1 X G).p) (fun X G => (hg1 X G).p) ht1.un (fun X G => (he X G).p)⟩
theorem ql_nil   : QL g X Wx [] msNil :=
  ⟨sl_nil⟩
theorem ql_one  (h1 : QS g X Wx s0 m) : QL g X Wx [s0] m :=
  ⟨sl_one h1.p⟩
theorem ql_cons  (h1 : QS g X Wx s0 m) (h2 : QL g X Wx rest m2) : QL g X Wx (s0 :: rest) (msSeq m m2) :=
  ⟨sl_cons h1.p h2.p⟩
theorem qs_pass   : QS g X Wx (.Pass pos) msNil :=
  ⟨ss_pass⟩
theorem qs_break   : QS g X Wx (.Break pos) (fun σ h => .brk σ h) :=
  ⟨ss_break⟩
theorem qs_continue   : QS g X Wx (.Continue pos) (fun σ h => .cont σ h) :=
  ⟨ss_continue⟩
theorem qs_doc {j : Nat}  : QS g X Wx (.Expr (.Constant (.str x) j pos) spos) msNil :=
  ⟨ss_doc⟩
theorem qse  (he : QE g X Wx e me) (h : nCo e = true) : QS g X Wx (.Expr e spos) (msExpr me) :=
  ⟨sse he.p h⟩
theorem qs_ret  (he : QE g X Wx e me) : QS g X Wx (.Return (some e) pos) (msRet me) :=
  ⟨ss_ret he.p⟩
theorem qs_retN   : QS g X Wx (.Return none pos) (fun σ h => .ret .non h) :=
  ⟨ss_retN⟩
theorem qs_if  (hc : QT g X Wx e ta) (ha : QL g X Wx ss1 m) (hb : QL g X Wx ss2 m2) : QS g X Wx (.If e ss1 ss2 pos) (msIf ta m m2) :=
  ⟨ss_if hc.p ha.p hb.p⟩
theorem qs_while  (hp : PassesOwn (model X.prog X.w) X.A X.env X.xe) (hc : QT g X Wx e ta) (hb : QL g X Wx ss1 m) : QS g X Wx (.While e ss1 [] pos) (whileL ta m loopN) :=
  ⟨ss_while hp hc.p hb.p⟩
theorem qsf  (hp : PassesOwn (model X.prog X.w) X.A X.env X.xe) (G : Good FS g k cl N sc fq X Wx) (hi : QI g X Wx tg iter mI) (hg : QG g X tg t) (hb : QL g X Wx ss1 m) (h : nSet iter = true) : QS g X Wx (.For tg iter ss1 [] pos) (msFor mI t m) :=
  ⟨ssf hp G hi.p hg.p hb.p h⟩
theorem qasgName  (he : QE g X Wx e me) (hg : QG g X (.Name x p) t) (h : nCo e = true) : QS g X Wx (.Assign [.Name x p] e spos) (msAsg t me) :=
  ⟨asgName he.p hg.p h⟩
theorem qasgTup  (he : QE g X Wx e me) (hg : QG g X (.Tuple es nn p) t) (h : nCo e = true) (h2 : nTup e = true) : QS g X Wx (.Assign [.Tuple es nn p] e spos) (msAsg t me) :=
  ⟨asgTup he.p hg.p h h2⟩
theorem Good.qasgN  (G : Good FS g k cl N sc fq X Wx) (he : QE g X Wx e me) (hg : QG g X (.Name x p) t) (h : swapsWithSole [.Name x p] e spos.line (env0 sc) = pure false) : QS g X Wx (.Assign [.Name x p] e spos) (msAsg t me) :=
  ⟨G.asgN he.p hg.p h⟩
theorem Good.qasgT  (G : Good FS g k cl N sc fq X Wx) (he : QE g X Wx e me) (hg : QG g X (.Tuple es nn p) t) (h : nCo e = true) (h2 : swappedStores [.Tuple es nn p] e (env0 sc) = pure none) : QS g X Wx (.Assign [.Tuple es nn p] e spos) (msAsg t me) :=
  ⟨G.asgT he.p hg.p h h2⟩
theorem Good.qsub  (G : Good FS g k cl N sc fq X Wx) (he : QE g X Wx e me) (ho : QE g X Wx o mo) (hi : QE g X Wx i mi) (h : nCo e = true) (h2 : nSl i = true) : QS g X Wx (.Assign [.Subscript o i tpos] e spos) (msSub me mo mi) :=
  ⟨G.sub he.p ho.p hi.p h h2⟩
theorem Good.qpar  (G : Good FS g k cl N sc fq X Wx) (i1 i2 : Nat) {px py pt : Pos} {kt k2 pt2} (hi : okL N sc i1 x = true) (hj : okL N sc i2 y = true) (hij : i1 ≠ i2) (ha : QA g X Wx [a, b] (mArgs [ma, mb])) (hw : swappedStores [.Tuple [.Name x px, .Name y py] kt pt] (.Tuple [a, b] k2 pt2) (env0 sc) = pure (some [x, y])) : QS g X Wx (.Assign [.Tuple [.Name x px, .Name y py] kt pt] (.Tuple [a, b] k2 pt2) spos) (msAsg (.tu [.nm i1, .nm i2]) (mTup (mArgs [ma, mb]))) :=
  ⟨G.par i1 i2 hi hj hij ha.p hw (swS rfl)⟩
theorem Good.qpar3  (G : Good FS g k cl N sc fq X Wx) (i1 i2 i3 : Nat) {z : Str} {px py pz pt : Pos} {kt k2 pt2} (hi : okL N sc i1 x = true) (hj : okL N sc i2 y = true) (hl : okL N sc i3 z = true) (h12 : i1 ≠ i2) (h13 : i1 ≠ i3) (h23 : i2 ≠ i3) (ha : QA g X Wx [a, b, c] (mArgs [ma, mb, mc])) (hw : swappedStores [.Tuple [.Name x px, .Name y py, .Name z pz] kt pt] (.Tuple [a, b, c] k2 pt2) (env0 sc) = pure (some [x, y, z])) : QS g X Wx (.Assign [.Tuple [.Name x px, .Name y py, .Name z pz] kt pt] (.Tuple [a, b, c] k2 pt2) spos) (msAsg (.tu [.nm i1, .nm i2, .nm i3]) (mTup (mArgs [ma, mb, mc]))) :=
  ⟨G.par3 i1 i2 i3 hi hj hl h12 h13 h23 ha.p hw (swS rfl)⟩
end
end PV
end
section
/-! PVA24: ends. -/
namespace PV
open PySem PySem.Spec PyProof.Rows L2
theorem ints_rel {g : Gx} {μ : List Addr} {H : Hp} : ∀ ns : List Int, RVs g μ H (ns.map D.int) (ns.map V.int)
  | [] => rfl
  | n :: ns => ⟨.int n, ns.map V.int, rfl, rfl, rfl, ints_rel ns⟩
end PV
end
section
/-! PVA25: the module's top with one more look (tuples of the top, classes). -/
namespace PV
open PySem PySem.Spec PyProof.Rows L2
def obsXG (n : Nat) (fa : List He.Fa) (fn : List He.DefD) (ck : PySem.W.Frag → Bool) (g : Addr → Option Obj) : He.AlD × Bool := (He.obsD fa fn (He.frG g (He.asD g n ++ [cStatics])), ck (He.frG g (He.asD g n ++ [cStatics])))
def hookX (n : Nat) (fa : List He.Fa) (fn : List He.DefD) (ck : PySem.W.Frag → Bool) : PySem.W.Hook where
  α := He.AlD × Bool
  obs := fun s => obsXG n fa fn ck s.heap.get?
  val := fun _ => (He.valD fn, true)
  says := fun _ h => ∃ K : PySem.W.Frag, K.In h ∧ He.SaysD fa fn K ∧ ck K = true
  of := fun _ _ e => ⟨_, He.frG_in, (Prod.mk.inj e).1, (Prod.mk.inj e).2⟩
  keeps := fun _ _ _ ⟨K, hK, c, d⟩ k => ⟨K, PySem.W.Frag.In.keeps hK k, c, d⟩
theorem obsXG_eq {n : Nat} {fa : List He.Fa} {fn : List He.DefD} {ck : PySem.W.Frag → Bool} {g : Addr → Option Obj} {s : Shared} (h : ∀ a, g a = s.heap.get? a) : obsXG n fa fn ck g = (hookX n fa fn ck).obs s := by
  have e : g = s.heap.get? := funext h
  rw [e]
  rfl
theorem strs_rel {g : Gx} {μ : List Addr} {H : Hp} : ∀ xs : List Str, RVs g μ H (xs.map D.str) (xs.map V.str)
  | [] => rfl
  | x :: xs => ⟨.str x, xs.map V.str, rfl, rfl, rfl, strs_rel xs⟩
theorem dv_strs {K : PySem.W.Frag} : ∀ xs : List Str, (xs.map He.Dv.str).map (He.Dv.v K) = xs.map V.str
  | [] => rfl
  | x :: xs => by simp only [List.map_cons, dv_strs xs]; rfl
theorem dv_ints {K : PySem.W.Frag} : ∀ xs : List Int, (xs.map He.Dv.int).map (He.Dv.v K) = xs.map V.int
  | [] => rfl
  | x :: xs => by simp only [List.map_cons, dv_ints xs]; rfl
theorem tupS_ok {K : PySem.W.Frag} {g : Gx} {mg : Str → Option Value} {x : Str} {a : Addr} {xs : List Str} (hK : K = g.K) (hm : mg x = some (.ref (He.ga K x))) (h : He.tupB K x (xs.map He.Dv.str) = true) : ∃ a vs, mg x = some (.ref a) ∧ (∀ H, SqT g.K H a vs) ∧ ∀ μ H, RVs g μ H (xs.map D.str) vs :=
  ⟨_, xs.map V.str, hm, fun H => by have := He.tupB_ok h H; rw [dv_strs] at this; rw [← hK]; exact this, fun μ H => strs_rel xs⟩
theorem tupI_ok {K : PySem.W.Frag} {g : Gx} {mg : Str → Option Value} {x : Str} {a : Addr} {xs : List Int} (hK : K = g.K) (hm : mg x = some (.ref (He.ga K x))) (h : He.tupB K x (xs.map He.Dv.int) = true) : ∃ a vs, mg x = some (.ref a) ∧ (∀ H, SqT g.K H a vs) ∧ ∀ μ H, RVs g μ H (xs.map D.int) vs :=
  ⟨_, xs.map V.int, hm, fun H => by have := He.tupB_ok h H; rw [dv_ints] at this; rw [← hK]; exact this, fun μ H => ints_rel xs⟩
end PV
end
section
/-! PVA26: dict comprehensions, keys of either kind, one clause or two. -/
namespace PV
open PySem PySem.Spec PyProof.Rows L2

/-- d[y] = v within a comprehension -/
theorem dset_put {X : Cx} {pins : List (Addr × Obj)} {σ : L2.St} {H H' : Hp} {s : Shared} {E : Value → Shared → Prop} {D : Addr} {y v : V} {u r : Value} {Q : Unit → Shared → Prop} (hu : X.A.units + 1 < cLine) (I : Inv X pins σ H s) (p : DPut H D y v H') (ry : RelV y u) (rv : RelV v r)
    (k : ∀ s', Inv X pins σ H' s' → Q () s') : wpAny (model X.prog X.w) X.A (dictSet D u r) Q E s := by
  rcases p with ⟨kvs, key, eD, rfl, hl, rfl⟩ | ⟨kvs, key, b, eD, rfl, eb, hl, rfl⟩
  · exact d_dictSet I eD hl ry rv k
  · cases (show u = Value.ref b from ry)
    obtain ⟨z, hd, xs, rel, dd⟩ := dt_of I.hok eD
    refine wpAny_dictSet_heap (hsz := by rw [← Paired.length rel]; exact z) (show X.A.units < cLine from Nat.lt_of_succ_lt hu) (key_of I.hok eb) dd fun h' dd' hs => k _ ?_
    obtain ⟨q, es, ep, hq, h2, h3, h4, _, h5⟩ := dd'
    have hl2 := length_putK kvs key v
    refine d_write I (by rw [eD]; exact True.intro) hs ⟨q, hq⟩ ⟨by omega, hd, _, (rel.put key eb rv).keeps fun c ys ec => ?_, q, es, ep, hq, h2, h3, h4, h5⟩
    exact (upd_ne (ne_of ec eD (fun z => nomatch z))).trans ec
/-- one turn of an iterator: what came stays pinned until the turn's end -/
theorem it_go {X : Cx} {pins : List (Addr × Obj)} {σ : L2.St} {H : Hp} {s : Shared} {tg : Expr} {J : It} {fp : List Addr} {it : Addr} {tn : Nat → Heap → Prop} {i : Nat} {E : Value → Shared → Prop} {Q : Value → Shared → Prop} (T : Turn X.prog X.w X.K tg J fp it tn) (hc : X.calm = true) (I : Inv X pins σ H s) (f : ∀ b ∈ fp, FpOk X pins H b) (st : tn i s.heap) (go : J.go i H)
    (k : ∀ u x H1 s1, Inv X (pins ++ pinsAt fp s1.heap) σ H1 s1 → RelV x u → J.yld i H x H1 → (∀ {σ2 : L2.St} {H2 : Hp} {s2 : Shared}, Inv X (pins ++ pinsAt fp s1.heap) σ2 H2 s2 → Inv X pins σ2 H2 s2 ∧ tn (i + 1) s2.heap ∧ ∀ b ∈ fp, H2 b = none) → Q u s1) :
    wpAny (model X.prog X.w) X.A (pyNext (.ref it)) (fun r s1 => ∃ u, r = some u ∧ wpAny (model X.prog X.w) X.A (letOwnedTupleGo tg (.ref it) u) (fun _ s2 => Q u s2) E s1) E s := by
  refine wpAny_mono (T.item X rfl rfl rfl hc i pins s σ H E I f st go) (fun r s1 ⟨u, e, z⟩ => ⟨u, e, wpAny_mono z (fun _ s2 ⟨x, H1, I1, rx, y, st1, n1⟩ => ?_) fun _ _ z => z⟩) fun _ _ z => z
  refine k u x H1 s2 (I1.pinned (fun b hb => ⟨n1 b hb, (f b hb).2⟩) (T.obj _ _ st1)) rx y fun {σ2 H2 s3} I2 => ?_
  have p : ∀ b ∈ fp, ∀ o, s2.heap.get? b = some o → s3.heap.get? b = some o ∧ H2 b = none := fun b hb o eo => by
    have q := I2.pin (b, o) (List.mem_append_right _ (List.mem_append_right _ (mem_pinsAt hb eo)))
    exact ⟨q.1, q.2.1⟩
  refine ⟨I2.unpinned, T.keep _ _ _ st1 fun b hb o eo => (p b hb o eo).1, fun b hb => ?_⟩
  obtain ⟨o, eo, _⟩ := T.obj _ _ st1 b hb
  exact (p b hb o eo).2
/-- a new dict, of either kind -/
def isD0 (o : HO) : Prop := o = .dK [] ∨ o = .dT []
/-- what the loop of a dict comprehension finds -/
structure DEnt (X : Cx) (pins : List (Addr × Obj)) (σ : L2.St) (vs : List Nat) (Qd : Addr → Hp → Prop) (R : Addr → Result → Shared → Prop) (Xb : Cx) (tg : Expr) (J : It) (it D : Addr) (fp : List Addr) (tn : Nat → Heap → Prop) (H3 : Hp) (s4 : Shared) : Prop where
  turn : Turn Xb.prog Xb.w Xb.K tg J fp it tn
  st : tn 0 s4.heap
  inv : Inv Xb [] (wipe σ vs) H3 s4
  nfp : ∀ b ∈ fp, H3 b = none
  fpo : ∀ {σ' : L2.St} {H' : Hp} {s' : Shared}, Inv Xb [] σ' H' s' → (∀ b ∈ fp, H' b = none) → ∀ b ∈ fp, FpOk Xb [] H' b
  done : ∀ {H' : Hp} {s' : Shared}, Inv Xb [] (wipe σ vs) H' s' → Qd D H' → R D (.ok .next) s'
theorem dict_enter {X : Cx} {pins : List (Addr × Obj)} {s : Shared} {σ : L2.St} {H : Hp} {kx vx tg iter : Expr} {ifs : List Expr} {rest : List Comprehension} {scope : Scope} {own : List (Str × Nat)} {pos : Pos} {wi : TI} {o0 : HO} {Qd : Addr → Hp → Prop} {wish : It → Addr → Hp → Prop} {Q : VK}
    (hN : X.N.Nodup) (I : Inv X pins σ H s) (hi : PI X tg iter wi) (ok : BlkOk X.N X.env.scope scope own) (hs : ∀ x, foldedSetIterable iter X.env x = pure x) (h0 : isD0 o0)
    (h : wi σ H fun J H1 => ∀ D, H1 D = none → wish J D (upd H1 D o0)) (hQ : ∀ D H', Qd D H' → Q (.ref D) H')
    (loop : ∀ (R : Addr → Result → Shared → Prop) (s3 : Shared) (H3 : Hp) (C : Addr) (cl : List (Str × Addr)) (fp : List Addr) (J : It) (it D : Addr) (tn : Nat → Heap → Prop) (s4 : Shared), DEnt X pins σ (own.map (·.2)) Qd R (BX X scope s3 H3 C cl fp) tg J it D fp tn H3 s4 → wish J D H3 →
      codeAny (model X.prog X.w) X.A (.compLoop (.DictComp kx vx (⟨tg, iter, ifs, 0⟩ :: rest) scope pos) 0 (.ref it) (.ref D) (compEnvC scope cl C X.env)) (R D) s4) :
    wpAny (model X.prog X.w) X.A (eval (.DictComp kx vx (⟨tg, iter, ifs, 0⟩ :: rest) scope pos) X.env) (EP X pins σ Q) X.xe s := by
  have fr : ∀ y ∈ scope.names, y.2 = .free → ∃ c, X.env.cells.lookup y.1 = some c := fun y hy e => (ok.free y hy e).elim (fun k => I.ok.has _ (.inl k)) fun k => I.ok.has _ (.inr k)
  rw [arm_eval_DictComp]
  refine wpAny_comprehension_free (use := none) rfl hs (closure_ok fr) ok.kind (fun y hy e => by rw [ok.uniq y hy, e]) (thn (hi.run pins s σ H _ I h) fun xv s1 hx => thn hx fun itv s2 z2 => ?_)
  obtain ⟨it, fp, tn, J, H2, rfl, I2, T, st2, f2, q⟩ := z2
  refine wpAny_newObj_type (newEnv_comp ?_)
  generalize eD : s2.heap.objs.size = D
  have nD : H2 D = none := I2.hok.fresh (Nat.le_of_eq eD)
  have wsh := q D nD
  generalize es3 : ({ s2 with heap := s2.heap.push { cls := .type "dict", data := .dict #[] } } : Shared) = s3
  have hp3 : s3.heap = s2.heap.push { cls := .type "dict", data := .dict #[] } := by rw [← es3]
  have I3 : Inv X pins σ (upd H2 D o0) s3 := by
    subst es3
    refine I2.laid (t' := s2.toks) (fun b o e => Heap.get?_push_of_some _ e) (Nat.le_of_eq eD) ?_
    rw [← eD]
    rcases h0 with rfl | rfl
    · exact dk_empty s2.heap I2.big
    · exact dt_empty s2.heap I2.big
  have lt3 : ∀ b ∈ fp, b < s2.heap.objs.size := fun b hb => let ⟨o, e, _⟩ := T.obj _ _ st2 b hb; Heap.lt_size e
  have f3 : ∀ b ∈ fp, FpOk X pins (upd H2 D o0) b ∧ b < s3.heap.objs.size := fun b hb => by
    have l := lt3 b hb
    have ne : b ≠ D := by rw [← eD]; exact Nat.ne_of_lt l
    exact ⟨⟨(upd_ne ne).trans (f2 b hb).1, (f2 b hb).2⟩, by rw [hp3, Heap.size_push]; exact Nat.lt_succ_of_lt l⟩
  have st3 : tn 0 s3.heap := T.keep _ _ _ st2 fun b _ o e => by rw [hp3]; exact Heap.get?_push_of_some _ e
  have I4 := block_start I3 ok hN f3
  generalize eH3 : upd H2 D o0 = H3 at I3 I4 wsh f3
  generalize ecl : cellsFrom (s3.heap.objs.size + 1) scope.names (cloFrom X.env.cells scope.names []) = cl at I4
  generalize es4 : ({ s3 with heap := pushCells (s3.heap.push { cls := .type "dict", data := .dict #[] }) scope.names } : Shared) = s4 at I4
  have st4 : tn 0 s4.heap := T.keep _ _ _ st3 fun b _ o e => by rw [← es4]; exact pushCells_keeps _ _ _ _ (Heap.get?_push_of_some _ e)
  have lp := loop (fun D => compPost (model X.prog X.w) X.A X.xe none (EP X pins σ Q) (.ref D) s3.heap.objs.size) s3 H3 s3.heap.objs.size cl fp J it D tn s4 ⟨T, st4, I4, fun b hb => (f3 b hb).1.1, fun {σ' H' s'} I' hn b hb => ⟨hn b hb, (I'.ok.exf b hb).1, I'.ok.exfs b hb, .inl hb, fun x c e => (I'.ok.exf b hb).2 x c e, fun p hp => absurd (show p ∈ ([] : List (Addr × Obj)) ++ [] from hp) (by simp)⟩, fun {H' s'} I' qd => ?_⟩ wsh
  · subst ecl es4
    exact codeAny_compStart_dict lp (T.self X.A 0 _ _ _ st4 lp)
  · have I7 : Inv X pins σ H' s' := I3.call' (ch := fp) I'.os I'.base I'.hok I'.bare fun b hb => ⟨(f3 b hb).1.2.2.2.1, (f3 b hb).1.2.1, (f3 b hb).1.2.2.2.2.1, (f3 b hb).1.2.2.2.2.2⟩
    have nC : H' s3.heap.objs.size = none := I'.free
    obtain ⟨m, hn, _⟩ := I'.loc
    obtain ⟨g0, g1, g2, g3, g4, g5⟩ := I3.fpOk (H' := H') (Nat.le_refl _) nC
    refine ⟨m, hn, fun h'' sb => ?_⟩
    exact ⟨.ref D, H', I7.turned (t' := s'.toks) (fun b o hb e => (sb.2 b hb).trans e) g0 g1 g3 g4 g5, rfl, hQ D H' qd⟩
/-! ### one clause -/
/-- {k: v for target in iter if ..}; at a turn's end the dict is written by DPut -/
def tDp (o0 : HO) (wi : TI) (g : TG) (tt : TT) (tk tv : TE) (vs : List Nat) : TE := fun σ H Q => wi σ H fun J H1 => ∀ D, H1 D = none →
  LoopP J (fun x H' Nx => g x (wipe σ vs) H' fun σ2 H2 => wipe σ2 vs = wipe σ vs ∧ tt σ2 H2 fun b H3 => if b = true then tk σ2 H3 fun y H4 => tv σ2 H4 fun z H5 => ∃ H6, DPut H5 D y z H6 ∧ Nx H6 else Nx H3) (upd H1 D o0) fun H' => Q (.ref D) H'
/-- slots behind a turn that know what was known ahead -/
theorem knows {σ σ2 : L2.St} {vs : List Nat} (e : wipe σ2 vs = wipe σ vs) : (wipe σ vs).length = σ2.length ∧ ∀ (j : Nat) v, (wipe σ vs)[j]? = some (some v) → σ2[j]? = some (some v) :=
  ⟨by rw [← e, wipe_length], fun j v q => by rw [← e] at q; exact (wipe_some q).1⟩
theorem pe_dp {X : Cx} {kx vx tg iter : Expr} {ifs : List Expr} {scope : Scope} {own : List (Str × Nat)} {pos : Pos} {o0 : HO} {wi : TI} {g : TG} {tt : TT} {tk tv : TE} (hc : X.calm = true) (hu : X.A.units + 1 < cLine) (hN : X.N.Nodup) (h0 : isD0 o0) (hi : PI X tg iter wi) (ok : BlkOk X.N X.env.scope scope own)
    (hg : ∀ s H C cl fp, PG (BX X scope s H C cl fp) tg g) (ht : ∀ s H C cl fp, PTs (BX X scope s H C cl fp) ifs tt) (hk : ∀ s H C cl fp, PE (BX X scope s H C cl fp) kx tk) (hv : ∀ s H C cl fp, PE (BX X scope s H C cl fp) vx tv) (hs : ∀ x, foldedSetIterable iter X.env x = pure x) :
    PE X (.DictComp kx vx [⟨tg, iter, ifs, 0⟩] scope pos) (tDp o0 wi g tt tk tv (own.map (·.2))) := by
  refine ⟨fun pins s σ H Q I h => dict_enter (rest := []) (Qd := fun D H' => Q (.ref D) H') (wish := fun J D Hs => LoopP J (fun x H' Nx => g x (wipe σ (own.map fun p : Str × Nat => p.2)) H' fun σ2 H2 => wipe σ2 (own.map fun p : Str × Nat => p.2) = wipe σ (own.map fun p : Str × Nat => p.2) ∧ tt σ2 H2 fun b H3 => if b = true then tk σ2 H3 fun y H4 => tv σ2 H4 fun z H5 => ∃ H6, DPut H5 D y z H6 ∧ Nx H6 else Nx H3) Hs fun H' => Q (.ref D) H') hN I hi ok hs h0 h (fun _ _ q => q) ?_⟩
  rintro R s3 H3 C cl fp J it D tn s4 ⟨T, st4, I4, n4, fo, dn⟩ ⟨W, ⟨m0, w0⟩, step⟩
  refine compLoop_anyD (fun n s' => ∃ i H', Inv (BX X scope s3 H3 C cl fp) [] (wipe σ (own.map (·.2))) H' s' ∧ tn i s'.heap ∧ (∀ b ∈ fp, H' b = none) ∧ W i n H') ?_ m0 ⟨0, H3, I4, st4, n4, w0⟩
  rintro n s5 ⟨i, H5, I5, st5, n5, w5⟩
  rcases step i n H5 w5 with ⟨stop, fin⟩ | ⟨go, Nx, hNx, body⟩
  · refine thnF (T.done _ rfl rfl rfl hc i [] s5 _ H5 (fun _ _ => False) I5 (fo I5 n5) st5 stop) fun r s6 ⟨hr, I6⟩ => ?_
    subst hr
    exact dn I6 fin
  · refine thnF (it_go (X := BX X scope s3 H3 C cl fp) T hc I5 (fo I5 n5) st5 go (E := fun _ _ => False) (Q := fun u s7 => ∃ x H7, Inv (BX X scope s3 H3 C cl fp) ([] ++ pinsAt fp s7.heap) (wipe σ (own.map (·.2))) H7 s7 ∧ RelV x u ∧ J.yld i H5 x H7 ∧ (∀ {σ2 : L2.St} {H2 : Hp} {s2 : Shared}, Inv (BX X scope s3 H3 C cl fp) ([] ++ pinsAt fp s7.heap) σ2 H2 s2 → Inv (BX X scope s3 H3 C cl fp) [] σ2 H2 s2 ∧ tn (i + 1) s2.heap ∧ ∀ b ∈ fp, H2 b = none))
      fun u x H1 s1 a b c d => ⟨x, H1, a, b, c, @d⟩) fun r s6 ⟨u, hr, z⟩ => ?_
    subst hr
    refine thnF z fun _ s7 ⟨x, H7, I7, r7, y7, back⟩ => ?_
    refine thnF ((hg s3 H3 C cl fp).run _ s7 _ H7 x u _ I7 r7 (body x H7 y7)) fun _ s8 ⟨σ8, H8, I8, w8, q8⟩ => ?_
    refine thnF ((ht s3 H3 C cl fp).run _ s8 σ8 H8 _ I8 q8) fun b s9 ⟨H9, I9, q9⟩ => ?_
    have fin : ∀ {s' : Shared} {H' : Hp}, Inv (BX X scope s3 H3 C cl fp) ([] ++ pinsAt fp s7.heap) σ8 H' s' → Nx H' → ∃ m, m < n ∧ ∃ i H', Inv (BX X scope s3 H3 C cl fp) [] (wipe σ (own.map (·.2))) H' s' ∧ tn i s'.heap ∧ (∀ b ∈ fp, H' b = none) ∧ W i m H' := fun {s' H'} I' nx => by
      obtain ⟨m', hm, w'⟩ := hNx H' nx
      obtain ⟨a, b, c⟩ := back I'
      exact ⟨m', hm, i + 1, H', a.weak (knows w8).1 (knows w8).2, b, c, w'⟩
    cases b with
    | false => exact fin I9 q9
    | true =>
      refine thnF ((hk s3 H3 C cl fp).run _ s9 σ8 H9 _ I9 q9) fun zk s10 ⟨yk, H10, I10, r10, q10⟩ => ?_
      refine thnF ((hv s3 H3 C cl fp).run _ s10 σ8 H10 _ I10 q10) fun zv s11 ⟨yv, H11, I11, r11, H12, put, nx⟩ => ?_
      exact dset_put (X := BX X scope s3 H3 C cl fp) hu I11 put r10 r11 fun s12 I12 => fin I12 nx
end PV
end
section
/-! PVA27: dict comprehensions of two clauses. -/
namespace PV
open PySem PySem.Spec PyProof.Rows L2
section
variable {prog : Program} {w : World} {A : Around} {R : Result → Shared → Prop} {s : Shared} {kx vx tA iA tB iB : Expr} {cA cB : List Expr} {scope : Scope} {pos : Pos} {it : Value} {D : Addr} {env : Env}
abbrev dc2 (kx vx tA iA : Expr) (cA : List Expr) (tB iB : Expr) (cB : List Expr) (scope : Scope) (pos : Pos) : Expr := .DictComp kx vx [⟨tA, iA, cA, 0⟩, ⟨tB, iB, cB, 0⟩] scope pos
theorem dturn_out : compTurn (dc2 kx vx tA iA cA tB iB cB scope pos) 0 it (.ref D) env = (do
      standAt iA.pos
      match ← pyNext it with
      | none => pure (.done .next)
      | some got =>
        letOwnedTupleGo tA it got
        assign tA env got
        let mut good := true
        for cond in cA do
          if good then good ← isTrue cond env (eval cond env)
        if good then
          let inner ← eval iB env
          standAt iB.pos
          let inner ← foldedSetIterable iB env inner
          let _ ← runOwn (.compStart (dc2 kx vx tA iA cA tB iB cB scope pos) 1 (← holding [inner] (pyIter inner)) (.ref D) env) env
        again (.compLoop (dc2 kx vx tA iA cA tB iB cB scope pos) 0 it (.ref D) env)) := by rfl
theorem dturn_in : compTurn (dc2 kx vx tA iA cA tB iB cB scope pos) 1 it (.ref D) env = (do
      standAt iB.pos
      match ← pyNext it with
      | none => pure (.done .next)
      | some got =>
        letOwnedTupleGo tB it got
        assign tB env got
        let mut good := true
        for cond in cB do
          if good then good ← isTrue cond env (eval cond env)
        if good then
          (do
            let kv ← eval kx env
            let vv ← holding [kv] (eval vx env)
            standAt { kx.pos with endLine := vx.pos.endLine, endCol := vx.pos.endCol }
            holding [kv, vv] (dictSet D kv vv))
        again (.compLoop (dc2 kx vx tA iA cA tB iB cB scope pos) 1 it (.ref D) env)) := by rfl
/-- a clause's tests -/
abbrev testsOf (cs : List Expr) (env : Env) : Sem Bool := forIn cs true fun c r => if r = true then do let ok ← isTrue c env (eval c env); pure (ForInStep.yield ok) else pure (ForInStep.yield r)
theorem dloop_out (hs : ∀ x, foldedSetIterable iB env x = pure x) (J : Nat → Shared → Prop)
    (turn : ∀ n s, J n s → wpAny (model prog w) A (pyNext it) (fun r s1 => match r with
      | none => R (.ok .next) s1
      | some got => wpAny (model prog w) A (letOwnedTupleGo tA it got) (fun _ s2 => wpAny (model prog w) A (assign tA env got) (fun _ s3 => wpAny (model prog w) A (testsOf cA env) (fun good s4 => if good = true then
          wpAny (model prog w) A (eval iB env) (fun x s5 => wpAny (model prog w) A (pyIter x) (fun jt s6 => codeAny (model prog w) A (.compStart (dc2 kx vx tA iA cA tB iB cB scope pos) 1 jt (.ref D) env) (fun r s' => match r with
            | .ok _ => ∃ m, m < n ∧ J m s'
            | .error _ => False) s6) (fun _ _ => False) s5) (fun _ _ => False) s4
        else ∃ m, m < n ∧ J m s4) (fun _ _ => False) s3) (fun _ _ => False) s2) (fun _ _ => False) s1) (fun _ _ => False) s)
    (n : Nat) (h : J n s) : codeAny (model prog w) A (.compLoop (dc2 kx vx tA iA cA tB iB cB scope pos) 0 it (.ref D) env) R s := by
  refine codeAny_loop rfl J (fun n s hJ => ?_) n h
  show wpAny _ A ((compTurn (dc2 kx vx tA iA cA tB iB cB scope pos) 0 it (.ref D) env).onRaise (fun x => do noteFrame x env; theTreesLotGoes x)) _ _ s
  refine wpAny_noted ?_
  rw [dturn_out]
  refine wpAny_bind (wpAny_standAt (wpAny_bind (thnF (turn n s hJ) fun r s1 z1 => ?_)))
  cases r with
  | none => exact wpAny_pure z1
  | some got =>
    refine wpAny_bind (thnF z1 fun _ s2 z2 => wpAny_bind (thnF z2 fun _ s3 z3 => wpAny_bind (thnF z3 fun good s4 z4 => ?_)))
    cases good with
    | false => exact wpAny_pure ⟨rfl, z4⟩
    | true =>
      refine wpAny_bind (thnF z4 fun x s5 z5 => wpAny_bind (wpAny_standAt (wpAny_bind (wpAny_of_eq (hs x) (wpAny_bind (wpAny_holding (thnF z5 fun jt s6 z6 => ?_)))))))
      refine wpAny_bind (wpAny_runOwn ?_)
      rw [Around.mark_none]
      refine codeAny_mono z6 fun r s' hr => ?_
      cases r with
      | error e => exact hr.elim
      | ok f =>
        first
          | exact wpAny_pure ⟨rfl, hr⟩
          | exact wpAny_bind (wpAny_pure (wpAny_pure ⟨rfl, hr⟩))
theorem dloop_in (J : Nat → Shared → Prop)
    (turn : ∀ n s, J n s → wpAny (model prog w) A (pyNext it) (fun r s1 => match r with
      | none => R (.ok .next) s1
      | some got => wpAny (model prog w) A (letOwnedTupleGo tB it got) (fun _ s2 => wpAny (model prog w) A (assign tB env got) (fun _ s3 => wpAny (model prog w) A (testsOf cB env) (fun good s4 => if good = true then
          wpAny (model prog w) A (eval kx env) (fun kv s5 => wpAny (model prog w) A (eval vx env) (fun vv s6 => wpAny (model prog w) A (dictSet D kv vv) (fun _ s7 => ∃ m, m < n ∧ J m s7) (fun _ _ => False) s6) (fun _ _ => False) s5) (fun _ _ => False) s4
        else ∃ m, m < n ∧ J m s4) (fun _ _ => False) s3) (fun _ _ => False) s2) (fun _ _ => False) s1) (fun _ _ => False) s)
    (n : Nat) (h : J n s) : codeAny (model prog w) A (.compLoop (dc2 kx vx tA iA cA tB iB cB scope pos) 1 it (.ref D) env) R s := by
  refine codeAny_loop rfl J (fun n s hJ => ?_) n h
  show wpAny _ A ((compTurn (dc2 kx vx tA iA cA tB iB cB scope pos) 1 it (.ref D) env).onRaise (fun x => do noteFrame x env; theTreesLotGoes x)) _ _ s
  refine wpAny_noted ?_
  rw [dturn_in]
  refine wpAny_bind (wpAny_standAt (wpAny_bind (thnF (turn n s hJ) fun r s1 z1 => ?_)))
  cases r with
  | none => exact wpAny_pure z1
  | some got =>
    refine wpAny_bind (thnF z1 fun _ s2 z2 => wpAny_bind (thnF z2 fun _ s3 z3 => wpAny_bind (thnF z3 fun good s4 z4 => ?_)))
    cases good with
    | false => exact wpAny_pure ⟨rfl, z4⟩
    | true => exact wpAny_bind (wpAny_bind (thnF z4 fun kv s5 z5 => wpAny_bind (wpAny_holding (thnF z5 fun vv s6 z6 => wpAny_bind (wpAny_standAt (wpAny_holding (thnF z6 fun _ s7 z7 => wpAny_pure ⟨rfl, z7⟩)))))))
theorem dstart_in (h0 : codeAny (model prog w) A (.compLoop (dc2 kx vx tA iA cA tB iB cB scope pos) 1 it (.ref D) env) R s)
    (h1 : wpAny (model prog w) A (pyIter it) (fun jt s' => codeAny (model prog w) A (.compLoop (dc2 kx vx tA iA cA tB iB cB scope pos) 1 jt (.ref D) env) R s') (notedBy (model prog w) A env fun x s' => R (.error x) s') s) :
    codeAny (model prog w) A (.compStart (dc2 kx vx tA iA cA tB iB cB scope pos) 1 it (.ref D) env) R s := by
  refine codeAny_of_tree ?_
  show wpAny _ _ ((compStart (dc2 kx vx tA iA cA tB iB cB scope pos) 1 it (.ref D) env).onRaise (fun x => do noteFrame x env; standAt theWindowsPlace)) _ _ s
  refine wpAny_notedAt ?_
  unfold compStart
  show wpAny _ _ (ask >>= _) _ _ s
  refine wpAny_bind (wpAny_askSetting (wpAny_ite ?_))
  split
  · first
      | exact wpAny_pure ⟨rfl, h0⟩
      | exact wpAny_bind (wpAny_pure (wpAny_pure ⟨rfl, h0⟩))
  · have fin : ∀ {t : Sem Value} {M : Model}, True := fun {_ _} => trivial
    refine wpAny_bind (wpAny_rule ?_)
    first
      | exact wpAny_bind (wpAny_standAt (wpAny_bind (wpAny_mono h1 (fun jt s' z => wpAny_pure ⟨rfl, z⟩) fun _ _ z => z)))
      | (show wpAny _ _ (standAt iB.pos >>= _) _ _ s
         exact wpAny_bind (wpAny_standAt (wpAny_bind (wpAny_mono h1 (fun jt s' z => wpAny_pure ⟨rfl, z⟩) fun _ _ z => z))))
end
end PV
end
section
/-! PVA28: the rule for two clauses. -/
namespace PV
open PySem PySem.Spec PyProof.Rows L2
theorem thnE {α : Type} {t : Sem α} {Q Q' : α → Shared → Prop} {M : Model} {A : Around} {E E0 : Value → Shared → Prop} {s : Shared} (ex : ∀ v s, E0 v s → False) (h : wpAny M A t Q E0 s) (hQ : ∀ a s, Q a s → Q' a s) : wpAny M A t Q' E s := wpAny_mono h hQ fun _ _ z => (ex _ _ z).elim
def tDp2 (o0 : HO) (wi : TI) (g : TG) (tt : TT) (wi1 : TI) (g1 : TG) (tt1 : TT) (tk tv : TE) (vs vs1 : List Nat) : TE := fun σ H Q => wi σ H fun J H1 => ∀ D, H1 D = none →
  LoopP J (fun x H' Nx => g x (wipe σ vs) H' fun σ2 H2 => wipe σ2 vs = wipe σ vs ∧ tt σ2 H2 fun b H3 => if b = true then wi1 σ2 H3 fun J1 H4 =>
      LoopP J1 (fun x1 H5 Nx1 => g1 x1 (wipe σ2 vs1) H5 fun σ3 H6 => wipe σ3 vs1 = wipe σ2 vs1 ∧ tt1 σ3 H6 fun b1 H7 => if b1 = true then tk σ3 H7 fun y H8 => tv σ3 H8 fun z H9 => ∃ HA, DPut H9 D y z HA ∧ Nx1 HA else Nx1 H7) H4 Nx
    else Nx H3) (upd H1 D o0) fun H' => Q (.ref D) H'
theorem pe_dp2 {X : Cx} {kx vx tg iter tg1 iter1 : Expr} {ifs ifs1 : List Expr} {scope : Scope} {own : List (Str × Nat)} {vs1 : List Nat} {pos : Pos} {o0 : HO} {wi wi1 : TI} {g g1 : TG} {tt tt1 : TT} {tk tv : TE} (hc : X.calm = true) (hu : X.A.units + 1 < cLine) (hN : X.N.Nodup) (h0 : isD0 o0) (hi : PI X tg iter wi) (ok : BlkOk X.N X.env.scope scope own) (hv1 : ∀ i ∈ vs1, i ∈ own.map (·.2))
    (hg : ∀ s H C cl fp, PG (BX X scope s H C cl fp) tg g) (ht : ∀ s H C cl fp, PTs (BX X scope s H C cl fp) ifs tt) (hi1 : ∀ s H C cl fp, PI (BX X scope s H C cl fp) tg1 iter1 wi1) (hg1 : ∀ s H C cl fp, PG (BX X scope s H C cl fp) tg1 g1) (ht1 : ∀ s H C cl fp, PTs (BX X scope s H C cl fp) ifs1 tt1)
    (hk : ∀ s H C cl fp, PE (BX X scope s H C cl fp) kx tk) (hv : ∀ s H C cl fp, PE (BX X scope s H C cl fp) vx tv) (hs : ∀ x, foldedSetIterable iter X.env x = pure x) (hs1 : ∀ env x, foldedSetIterable iter1 env x = pure x) :
    PE X (.DictComp kx vx [⟨tg, iter, ifs, 0⟩, ⟨tg1, iter1, ifs1, 0⟩] scope pos) (tDp2 o0 wi g tt wi1 g1 tt1 tk tv (own.map (·.2)) vs1) := by
  refine ⟨fun pins s σ H Q I h => dict_enter (rest := [⟨tg1, iter1, ifs1, 0⟩]) (Qd := fun D H' => Q (.ref D) H') (wish := fun J D Hs => LoopP J (fun x H' Nx => g x (wipe σ (own.map fun p : Str × Nat => p.2)) H' fun σ2 H2 => wipe σ2 (own.map fun p : Str × Nat => p.2) = wipe σ (own.map fun p : Str × Nat => p.2) ∧ tt σ2 H2 fun b H3 => if b = true then wi1 σ2 H3 fun J1 H4 =>
      LoopP J1 (fun x1 H5 Nx1 => g1 x1 (wipe σ2 vs1) H5 fun σ3 H6 => wipe σ3 vs1 = wipe σ2 vs1 ∧ tt1 σ3 H6 fun b1 H7 => if b1 = true then tk σ3 H7 fun y H8 => tv σ3 H8 fun z H9 => ∃ HA, DPut H9 D y z HA ∧ Nx1 HA else Nx1 H7) H4 Nx
    else Nx H3) Hs fun H' => Q (.ref D) H') hN I hi ok hs h0 h (fun _ _ q => q) ?_⟩
  rintro R s3 H3 C cl fp J it D tn s4 ⟨T, st4, I4, n4, fo, dn⟩ ⟨W, ⟨m0, w0⟩, step⟩
  have hvv : ∀ i ∈ vs1, i ∈ own.map fun p : Str × Nat => p.2 := hv1
  generalize (own.map fun p : Str × Nat => p.2) = vs at *
  generalize eXb : BX X scope s3 H3 C cl fp = Xb at I4 fo dn T
  have eP : Xb.prog = X.prog := by rw [← eXb]
  have eW : Xb.w = X.w := by rw [← eXb]
  have eA : Xb.A = X.A := by rw [← eXb]
  have eE : Xb.env = compEnvC scope cl C X.env := by rw [← eXb]
  have ex : ∀ v s, Xb.xe v s → False := by rw [← eXb]; exact fun _ _ z => z
  have hcb : Xb.calm = true := by rw [← eXb]; exact hc
  have hub : Xb.A.units + 1 < cLine := by rw [eA]; exact hu
  have pg : PG Xb tg g := by rw [← eXb]; exact hg s3 H3 C cl fp
  have pt : PTs Xb ifs tt := by rw [← eXb]; exact ht s3 H3 C cl fp
  have pi1 : PI Xb tg1 iter1 wi1 := by rw [← eXb]; exact hi1 s3 H3 C cl fp
  have pg1 : PG Xb tg1 g1 := by rw [← eXb]; exact hg1 s3 H3 C cl fp
  have pt1 : PTs Xb ifs1 tt1 := by rw [← eXb]; exact ht1 s3 H3 C cl fp
  have pk : PE Xb kx tk := by rw [← eXb]; exact hk s3 H3 C cl fp
  have pv : PE Xb vx tv := by rw [← eXb]; exact hv s3 H3 C cl fp
  rw [← eP, ← eW, ← eA, ← eE]
  refine dloop_out (hs1 _) (fun n s' => ∃ i H', Inv Xb [] (wipe σ vs) H' s' ∧ tn i s'.heap ∧ (∀ b ∈ fp, H' b = none) ∧ W i n H') ?_ m0 ⟨0, H3, I4, st4, n4, w0⟩
  rintro n s5 ⟨i, H5, I5, st5, n5, w5⟩
  rcases step i n H5 w5 with ⟨stop, fin⟩ | ⟨go, Nx, hNx, body⟩
  · refine thnF (T.done _ rfl rfl rfl hcb i [] s5 _ H5 (fun _ _ => False) I5 (fo I5 n5) st5 stop) fun r s6 ⟨hr, I6⟩ => ?_
    subst hr
    exact dn I6 fin
  · refine thnF (it_go T hcb I5 (fo I5 n5) st5 go (E := fun _ _ => False) (Q := fun u s7 => ∃ x H7, Inv Xb ([] ++ pinsAt fp s7.heap) (wipe σ vs) H7 s7 ∧ RelV x u ∧ J.yld i H5 x H7 ∧ (∀ {σ2 : L2.St} {H2 : Hp} {s2 : Shared}, Inv Xb ([] ++ pinsAt fp s7.heap) σ2 H2 s2 → Inv Xb [] σ2 H2 s2 ∧ tn (i + 1) s2.heap ∧ ∀ b ∈ fp, H2 b = none))
      fun u x H1 s1 a b c d => ⟨x, H1, a, b, c, @d⟩) fun r s6 ⟨u, hr, z⟩ => ?_
    subst hr
    refine thnF z fun _ s7 ⟨x, H7, I7, r7, y7, back⟩ => ?_
    refine thnE ex (pg.run _ s7 _ H7 x u _ I7 r7 (body x H7 y7)) fun _ s8 ⟨σ8, H8, I8, w8, q8⟩ => ?_
    refine thnE ex (pt.run _ s8 σ8 H8 _ I8 q8) fun b s9 ⟨H9, I9, q9⟩ => ?_
    have fin : ∀ {σ9 : L2.St} {s' : Shared} {H' : Hp}, Inv Xb ([] ++ pinsAt fp s7.heap) σ9 H' s' → (wipe σ vs).length = σ9.length → (∀ (j : Nat) v, (wipe σ vs)[j]? = some (some v) → σ9[j]? = some (some v)) → Nx H' → ∃ m, m < n ∧ ∃ i H', Inv Xb [] (wipe σ vs) H' s' ∧ tn i s'.heap ∧ (∀ b ∈ fp, H' b = none) ∧ W i m H' := fun {σ9 s' H'} I' hl hkn nx => by
      obtain ⟨m', hm, w'⟩ := hNx H' nx
      obtain ⟨a, b, c⟩ := back I'
      exact ⟨m', hm, i + 1, H', a.weak hl hkn, b, c, w'⟩
    cases b with
    | false => exact fin I9 (knows w8).1 (knows w8).2 q9
    | true =>
      refine thnE ex (pi1.run _ s9 σ8 H9 _ I9 q9) fun xv sA zA => thnE ex zA fun itv sB zB => ?_
      obtain ⟨jt, fq, tm, J1, HB, rfl, IB, T1, stB, fB, W1, ⟨m1, w1⟩, step1⟩ := zB
      have kn1 : ∀ (j : Nat) v, (wipe σ vs)[j]? = some (some v) → (wipe σ8 vs1)[j]? = some (some v) := fun j v e => by
        rw [← w8] at e
        obtain ⟨e1, e2⟩ := wipe_some e
        rw [wipe_out fun z => e2 (hvv j z)]
        exact e1
      have lp : codeAny (model Xb.prog Xb.w) Xb.A (.compLoop (dc2 kx vx tg iter ifs tg1 iter1 ifs1 scope pos) 1 (.ref jt) (.ref D) Xb.env) (fun r s' => match r with
            | .ok _ => ∃ m, m < n ∧ ∃ i H', Inv Xb [] (wipe σ vs) H' s' ∧ tn i s'.heap ∧ (∀ b ∈ fp, H' b = none) ∧ W i m H'
            | .error _ => False) sB := by
        refine dloop_in (fun k s' => ∃ j H', Inv Xb ([] ++ pinsAt fp s7.heap) (wipe σ8 vs1) H' s' ∧ tm j s'.heap ∧ (∀ b ∈ fq, H' b = none) ∧ W1 j k H') ?_ m1 ⟨0, HB, IB.weak (wipe_length _ _) (fun j v e => (wipe_some e).1), stB, fun b hb => (fB b hb).1, w1⟩
        rintro k sC ⟨j, HC, IC, stC, nC, wC⟩
        have foC : ∀ b ∈ fq, FpOk Xb ([] ++ pinsAt fp s7.heap) HC b := fun b hb => ⟨nC b hb, (fB b hb).2⟩
        rcases step1 j k HC wC with ⟨stop1, nx1⟩ | ⟨go1, Nx1, hNx1, body1⟩
        · refine thnF (T1.done _ rfl rfl rfl hcb j _ sC (wipe σ8 vs1) HC (fun _ _ => False) IC foC stC stop1) fun r sD ⟨hr, ID⟩ => ?_
          subst hr
          exact fin ID ((knows w8).1.trans (wipe_length σ8 vs1).symm) kn1 nx1
        · refine thnF (it_go T1 hcb IC foC stC go1 (E := fun _ _ => False) (Q := fun u sF => ∃ x HF, Inv Xb (([] ++ pinsAt fp s7.heap) ++ pinsAt fq sF.heap) (wipe σ8 vs1) HF sF ∧ RelV x u ∧ J1.yld j HC x HF ∧ (∀ {σ2 : L2.St} {H2 : Hp} {s2 : Shared}, Inv Xb (([] ++ pinsAt fp s7.heap) ++ pinsAt fq sF.heap) σ2 H2 s2 → Inv Xb ([] ++ pinsAt fp s7.heap) σ2 H2 s2 ∧ tm (j + 1) s2.heap ∧ ∀ b ∈ fq, H2 b = none))
            fun u x H1 s1 a b c d => ⟨x, H1, a, b, c, @d⟩) fun r sE ⟨u1, hr, z1⟩ => ?_
          subst hr
          refine thnF z1 fun _ sF ⟨x1, HF, IF, rF, yF, back1⟩ => ?_
          refine thnE ex (pg1.run _ sF _ HF x1 u1 _ IF rF (body1 x1 HF yF)) fun _ sG ⟨σG, HG, IG, wG, qG⟩ => ?_
          refine thnE ex (pt1.run _ sG σG HG _ IG qG) fun b1 sH ⟨HH, IH, qH⟩ => ?_
          have fin1 : ∀ {s' : Shared} {H' : Hp}, Inv Xb (([] ++ pinsAt fp s7.heap) ++ pinsAt fq sF.heap) σG H' s' → Nx1 H' → ∃ m, m < k ∧ ∃ j H', Inv Xb ([] ++ pinsAt fp s7.heap) (wipe σ8 vs1) H' s' ∧ tm j s'.heap ∧ (∀ b ∈ fq, H' b = none) ∧ W1 j m H' := fun {s' H'} I' nx => by
            obtain ⟨m', hm, w'⟩ := hNx1 H' nx
            obtain ⟨a, b, c⟩ := back1 I'
            exact ⟨m', hm, j + 1, H', a.weak (knows wG).1 (knows wG).2, b, c, w'⟩
          cases b1 with
          | false => exact fin1 IH qH
          | true =>
            refine thnE ex (pk.run _ sH σG HH _ IH qH) fun zk sI ⟨yk, HI, II, rI, qI⟩ => ?_
            refine thnE ex (pv.run _ sI σG HI _ II qI) fun zv sJ ⟨yv, HJ, IJ, rJ, HL, put, nx⟩ => ?_
            exact dset_put hub IJ put rI rJ fun sK IK => fin1 IK nx
      exact dstart_in lp (T1.self Xb.A 0 _ _ _ stB lp)
end PV
end
section
/-! PVA29: dict comprehensions as plain functions. -/
namespace PV
open PySem PySem.Spec PyProof.Rows L2
/-- keys: ints and strs, or tuples of such -/
structure KKind (κ : Type) where
  obj : List (κ × V) → HO
  cell : List (κ × D) → Cl
  key : D → Option κ
def kK : KKind Key := ⟨.dK, .dK, toK⟩
def kT : KKind (List Key) := ⟨.dT, .dT, fun y => match y with
  | .tup ks => mapO toK ks
  | _ => none⟩
structure KOk {κ : Type} [DecidableEq κ] (K : KKind κ) : Prop where
  d0 : isD0 (K.obj [])
  mu : ∀ vs, isMut (K.obj vs) = true
  put : ∀ {g : Gx} {μ : List Addr} {H : Hp} {a : Addr} {y : D} {vy vz : V} {vs : List (κ × V)} {k : κ}, K.key y = some k → RV g μ H y vy → H a = some (K.obj vs) → vs.length < sizeLine → DPut H a vy vz (upd H a (K.obj (putK vs k vz)))
  rc : ∀ {g : Gx} {μ : List Addr} {H : Hp} {a : Addr} {kvs : List (κ × D)} {vs : List (κ × V)}, RKs g μ H kvs vs → H a = some (K.obj vs) → RC g μ H a (K.cell kvs)
theorem kK_ok : KOk kK := ⟨.inl rfl, fun _ => rfl, fun e q ha hl => by rw [toK_ok e q]; exact DPut.k ha hl, fun r ha => ⟨_, ha, r⟩⟩
theorem kT_ok : KOk kT := by
  refine ⟨.inr rfl, fun _ => rfl, fun {g μ H a y vy vz vs k} e q ha hl => ?_, fun r ha => ⟨_, ha, r⟩⟩
  cases y <;> first | (cases e; done) | skip
  rename_i ks
  obtain ⟨c, us, rfl, hc, zc⟩ := q
  rw [toKs_ok e zc] at hc
  exact DPut.t ha hc hl
section
variable {κ : Type} [DecidableEq κ] {K : KKind κ}
def bodyD (K : KKind κ) (mt : M Bool) (mk mv : M D) : List (κ × D) → Sg → Hh → R (List (κ × D)) := fun acc σ h => (noX (mt σ h)).bind fun b h2 => if b = true then
    (noX (mk σ h2)).bind fun y h3 => (noX (mv σ h3)).bind fun z h4 => match K.key y with
      | some k => if acc.length < sizeLine then .ok (putD acc k (stash z h4).1) (stash z h4).2 else .bad
      | none => .bad
  else .ok acc h2
def mDc (K : KKind κ) (mi : M Src) (t : Tg) (mt : M Bool) (mk mv : M D) (vs : List Nat) : M D := fun σ h => (mi σ h).bind fun src h1 => (lcL src t (bodyD K mt mk mv) (wipeW σ vs) loopN 0 [] h1).bind fun acc h2 => .ok (.ref h2.length) (h2 ++ [K.cell acc])
def mDc2 (K : KKind κ) (mi : M Src) (t : Tg) (mt : M Bool) (mi1 : M Src) (t1 : Tg) (mt1 : M Bool) (mk mv : M D) (vs vs1 : List Nat) : M D := fun σ h => (mi σ h).bind fun src h1 =>
  (lcL src t (fun acc σ1 h => (noX (mt σ1 h)).bind fun b h2 => if b = true then (noX (mi1 σ1 h2)).bind fun src1 h3 => lcL src1 t1 (bodyD K mt1 mk mv) (wipeW σ1 vs1) loopN 0 acc h3 else .ok acc h2) (wipeW σ vs) loopN 0 [] h1).bind fun acc h2 => .ok (.ref h2.length) (h2 ++ [K.cell acc])
abbrev relD (K : KKind κ) (g : Gx) : List Addr → Hp → List (κ × D) → HO → Prop := fun μ H acc o => ∃ vs, o = K.obj vs ∧ RKs g μ H acc vs
variable {g : Gx} {X : Cx} {Wx : WX} {kx vx tg iter tg1 iter1 : Expr} {ifs ifs1 : List Expr} {scope : Scope} {own : List (Str × Nat)} {pos : Pos} {mi mi1 : M Src} {t t1 : Tg} {mt mt1 : M Bool} {mk mv : M D}
theorem relD_mono {μ μ' : List Addr} {H H' : Hp} {acc : List (κ × D)} {o : HO} (tr : Trk μ H) (x : Ext μ H μ' H') (r : relD K g μ H acc o) : relD K g μ' H' acc o := by
  obtain ⟨vs, e, z⟩ := r
  exact ⟨vs, e, z.ext tr x⟩
theorem bodyD_exc {acc : List (κ × D)} {σ : Sg} {h : Hh} {c : Nat} {fs : List (Str × D)} {h' : Hh} : bodyD K mt mk mv acc σ h ≠ .exc c fs h' := fun z => by
  unfold bodyD at z
  rcases bind_exc z with z | ⟨b, h2, _, z⟩
  · exact noX_exc z
  · split at z
    · rcases bind_exc z with z | ⟨y, h3, _, z⟩
      · exact noX_exc z
      · rcases bind_exc z with z | ⟨y2, h4, _, z⟩
        · exact noX_exc z
        · split at z
          · split at z <;> cases z
          · cases z
    · cases z
/-- one turn's end: the test, the key, the value -/
theorem turnD (KO : KOk K) {Gr : List Addr → Hp → Prop} {μ : List Addr} {H : Hp} {a : Addr} {acc : List (κ × D)} {h : Hh} {σw : Sg} {σ : L2.St} {Nx : Hp → Prop} (go : GrOk Gr a) (hts : STs g X scope ifs mt) (hk : SB g X scope kx mk) (hv : SB g X scope vx mv)
    (G : Gd g (relD K g) Gr a μ h acc H) (rs : RS g μ H σw σ) (p : PoL g (relD K g) Gr a (bodyD K mt mk mv acc σw h) Nx) :
    tTs X scope ifs σ H fun b H3 => if b = true then tB1 X scope kx σ H3 fun y H4 => tB1 X scope vx σ H4 fun z H5 => ∃ H6, DPut H5 a y z H6 ∧ Nx H6 else Nx H3 := by
  refine tests_ok hts rs G.r ((PoL.po (rel := relD K g) go relD_mono G p).imp fun b h2 μ2 H2 x2 r2 q2 => ?_)
  obtain ⟨G2, p2⟩ := q2
  have G2 := G2 μ2 H2 x2 r2
  cases b with
  | false => exact p2 μ2 H2 G2
  | true =>
    simp only [if_true] at p2 ⊢
    intro s0 H0 C cl fp
    refine hk s0 H0 C cl fp σw h2 σ H2 μ2 _ (rs.ext G.r.trk x2) r2 ((PoL.po (rel := relD K g) go relD_mono G2 p2).imp fun y h3 μ3 H3 x3 r3 q3 vy qy fy => ?_)
    obtain ⟨G3, p3⟩ := q3
    have G3 := G3 μ3 H3 x3 r3
    intro s0 H0 C cl fp
    refine hv s0 H0 C cl fp σw h3 σ H3 μ3 _ (rs.ext G.r.trk (x2.trans x3)) r3 ((PoL.po (rel := relD K g) go relD_mono G3 p3).imp fun z h4 μ4 H4 x4 r4 q4 vz qz fz => ?_)
    obtain ⟨G4, p4⟩ := q4
    obtain ⟨μ4', x4', r4', qz', _⟩ := stash_ok r4 qz fz x4
    have G5 : Gd g (relD K g) Gr a μ4' (stash z h4).2 acc H4 := G3.ext go relD_mono x4' r4'
    have qy5 := qy.ext r3.trk x4'
    obtain ⟨x5, r5, na5, o, eo, mo, vs, rfl, zk⟩ := G5
    split at p4
    · rename_i k ek
      split at p4
      · rename_i hl
        have z2 := putD_ok zk k stash_isTl qz'
        exact ⟨_, KO.put ek qy5 eo (by rw [zk.length]; exact hl), p4 μ4' _ ⟨go.up x5 eo mo na5 (KO.mu _), r5.upd eo mo na5, na5, _, upd_same, KO.mu _, _, rfl, z2.upd eo mo⟩⟩
      · exact p4.elim
    · exact p4.elim
theorem dc_fin (KO : KOk K) {Wx : WX} {μ0 μ1 : List Addr} {H0 H1 : Hp} {D : Addr} {r : R (List (κ × PV.D))} {σ : L2.St} {Q : VK} (nx : ∀ c fs h, r ≠ .exc c fs h) (x1 : Ext μ0 H0 μ1 H1) (nD : H1 D = none)
    (p1 : Po g Wx σ μ1 H1 (r.bind fun acc h2 => .ok (.ref h2.length) (h2 ++ [K.cell acc])) fun w h' μ' H' => ∀ v, RV g μ' H' w v → Fr H0 w v → Q v H') : PoL g (relD K g) (Ext μ1 H1) D r fun H2 => Q (.ref D) H2 := by
  cases r with
  | bad => exact p1.elim
  | exc c fs h2 => exact absurd rfl (nx c fs h2)
  | ok acc h2 =>
    intro μ2 H2 G2
    obtain ⟨o, eo, mo, vs, rfl, z⟩ := G2.ob
    have xt : Ext μ1 H1 (μ2 ++ [D]) H2 := by
      obtain ⟨⟨e, rfl, fe⟩, fr, lv⟩ := G2.x
      refine ⟨⟨e ++ [D], by simp, fun b hb => ?_⟩, fr, lv⟩
      rcases List.mem_append.mp hb with hb | hb
      · exact fe b hb
      · have : b = D := by simpa using hb
        rw [this]; exact nD
    refine p1 (μ2 ++ [D]) H2 xt (G2.r.track G2.na (KO.rc z eo)) (.ref D) ⟨D, ?_, rfl⟩ (.of rfl)
    rw [← G2.r.len]; simp
theorem gd_newD (KO : KOk K) {μ1 : List Addr} {H1 : Hp} {h1 : Hh} {D : Addr} (r1 : RH g μ1 h1 H1) (nD : H1 D = none) : Gd g (relD K g) (Ext μ1 H1) D μ1 h1 [] (upd H1 D (K.obj [])) := ⟨.new r1.trk nD, r1.new nD, fun hm => r1.trk.ne nD hm rfl, _, upd_same, KO.mu _, [], rfl, rfl⟩
theorem se_dc (KO : KOk K) (hc : X.calm = true) (hu : X.A.units + 1 < cLine) (hN : X.N.Nodup) (ok : BlkOk X.N X.env.scope scope own) (hsl : ∀ i ∈ t.slots, i ∈ own.map (·.2)) (hs : ∀ x, foldedSetIterable iter X.env x = pure x)
    (hi : SI g X Wx tg iter mi) (hg : SBG g X scope tg t) (hts : STs g X scope ifs mt) (hk : SB g X scope kx mk) (hv : SB g X scope vx mv) : SE g X Wx (.DictComp kx vx [⟨tg, iter, ifs, 0⟩] scope pos) (mDc K mi t mt mk mv (own.map (·.2))) := by
  intro σw h σ H μ Q rs rh po
  refine peAt (pe_dp hc hu hN KO.d0 pi_of ok (fun s0 H0 C cl fp => (⟨fun pins s σ H v u Q I r q => q s0 H0 C cl fp pins s u I r⟩ : PG _ _ (tBG X scope tg))) (fun s0 H0 C cl fp => pts_all hts s0 H0 C cl fp)
    (fun s0 H0 C cl fp => (⟨fun pins s σ H Q I q => q s0 H0 C cl fp pins s I⟩ : PE _ _ (tB1 X scope kx))) (fun s0 H0 C cl fp => (⟨fun pins s σ H Q I q => q s0 H0 C cl fp pins s I⟩ : PE _ _ (tB1 X scope vx))) hs) ?_
  refine hi σw h σ H μ _ rs rh (po.bind.imp fun src h1 μ1 H1 x1 r1 p1 J sk D nD => ?_)
  have rs1 := (rs.ext rh.trk x1).wipe (own.map (·.2))
  have pl := dc_fin KO (fun c fs h => lcL_exc (fun _ _ _ _ _ _ => bodyD_exc) _ _ _ _) x1 nD p1
  have go := grExt (a := D) r1.trk nD
  refine loop_ok (rel := relD K g) go relD_mono (fun μ H h x r i => (sk.ext x).at r i) (fun w x acc h μ H' σ1 Nx G nt qx e2 p2 => ?_) (gd_newD KO r1 nD) pl
  intro s0 H0 C cl fp
  refine hg s0 H0 C cl fp w x _ σ1 h _ H' μ _ (rs1.ext r1.trk G.x) G.r nt qx e2 fun σ' rs' w' => ⟨?_, turnD KO go hts hk hv G rs' p2⟩
  rw [w' _ hsl, wipe_wipe]
end
end PV
end
section
/-! PVA30: dict comprehensions of two clauses as plain functions; short names. -/
namespace PV
open PySem PySem.Spec PyProof.Rows L2
section
variable {κ : Type} [DecidableEq κ] {K : KKind κ} {g : Gx} {X : Cx} {Wx : WX} {kx vx tg iter tg1 iter1 : Expr} {ifs ifs1 : List Expr} {scope : Scope} {own : List (Str × Nat)} {pos : Pos} {mi mi1 : M Src} {t t1 : Tg} {mt mt1 : M Bool} {mk mv : M D} {vs1 : List Nat}
theorem dc2_read (KO : KOk K) (hi : SI g X Wx tg iter mi) (hg : SBG g X scope tg t) (hts : STs g X scope ifs mt) (hi1 : SBI g X scope tg1 iter1 mi1) (hg1 : SBG g X scope tg1 t1) (hts1 : STs g X scope ifs1 mt1) (hk : SB g X scope kx mk) (hv : SB g X scope vx mv)
    (hsl : ∀ i ∈ t.slots, i ∈ own.map (·.2)) (hsl1 : ∀ i ∈ t1.slots, i ∈ vs1)
    {σw : Sg} {h : Hh} {σ : L2.St} {H : Hp} {μ : List Addr} {Q : VK} (rs : RS g μ H σw σ) (rh : RH g μ h H)
    (po : Po g Wx σ μ H (mDc2 K mi t mt mi1 t1 mt1 mk mv (own.map (·.2)) vs1 σw h) (fun w h' μ' H' => ∀ v, RV g μ' H' w v → Fr H w v → Q v H')) :
    tDp2 (K.obj []) (tOfI X tg iter) (tBG X scope tg) (tTs X scope ifs) (tBI X scope tg1 iter1) (tBG X scope tg1) (tTs X scope ifs1) (tB1 X scope kx) (tB1 X scope vx) (own.map (·.2)) vs1 σ H Q := by
  refine hi σw h σ H μ _ rs rh (po.bind.imp fun src h1 μ1 H1 x1 r1 p1 J sk D nD => ?_)
  have rs1 := (rs.ext rh.trk x1).wipe (own.map (·.2))
  generalize hbd : (fun (acc : List (κ × PV.D)) (σ1 : Sg) (h : Hh) => (noX (mt σ1 h)).bind fun b h2 => if b = true then (noX (mi1 σ1 h2)).bind fun src1 h3 => lcL src1 t1 (bodyD K mt1 mk mv) (wipeW σ1 vs1) loopN 0 acc h3 else .ok acc h2) = bd at p1
  have nb : ∀ acc σ h c fs h', bd acc σ h ≠ .exc c fs h' := by
    intro acc σ h c fs h' z
    rw [← hbd] at z
    rcases bind_exc z with z | ⟨b, h2, _, z⟩
    · exact noX_exc z
    · split at z
      · rcases bind_exc z with z | ⟨y, h3, _, z⟩
        · exact noX_exc z
        · exact lcL_exc (fun _ _ _ _ _ _ => bodyD_exc) _ _ _ _ z
      · cases z
  have pl := dc_fin KO (fun c fs h => lcL_exc nb _ _ _ _) x1 nD p1
  have go := grExt (a := D) r1.trk nD
  refine loop_ok (rel := relD K g) go relD_mono (fun μ H h x r i => (sk.ext x).at r i) (fun w x acc h μ H' σ1 Nx G nt qx e2 p2 => ?_) (gd_newD KO r1 nD) pl
  intro s0 H0 C cl fp
  refine hg s0 H0 C cl fp w x _ σ1 h _ H' μ _ (rs1.ext r1.trk G.x) G.r nt qx e2 fun σ' rs' w' => ⟨by rw [w' _ hsl, wipe_wipe], ?_⟩
  rw [← hbd] at p2
  refine tests_ok hts rs' G.r ((PoL.po (rel := relD K g) go relD_mono G p2).imp fun b h2 μ2 H2 x2 r2 q2 => ?_)
  obtain ⟨G2, p3⟩ := q2
  have G2 := G2 μ2 H2 x2 r2
  have rs2 := rs'.ext G.r.trk x2
  cases b with
  | false => exact p3 μ2 H2 G2
  | true =>
    simp only [if_true] at p3 ⊢
    intro s0 H0 C cl fp
    refine hi1 s0 H0 C cl fp σ1 h2 σ' H2 μ2 _ rs2 r2 ((PoL.po (rel := relD K g) go relD_mono G2 p3).imp fun src1 h3 μ3 H3 x3 r3 q3 J1 sk1 => ?_)
    obtain ⟨G3, p4⟩ := q3
    have G3 := G3 μ3 H3 x3 r3
    have sD : InFl μ2 H2 D := by
      obtain ⟨o, eo, mo, _⟩ := G2.ob
      exact ⟨o, eo, mo, G2.na⟩
    have rs3 := (rs2.ext r2.trk x3).wipe vs1
    generalize InFl μ2 H2 = S at sk1 sD
    -- the inner loop, over a ground of its own
    let Gr : List Addr → Hp → Prop := fun μ H => Ext μ1 H1 μ H ∧ ExtS S μ3 H3 μ H ∧ SOk S μ H ∧ RS g μ H (wipeW σ1 vs1) (wipe σ' vs1)
    have go1 : GrOk Gr D := by
      refine ⟨fun {μ H μ' H'} gr tr x => ?_, fun {μ H o o'} gr eo mo no mo' => ?_⟩
      · obtain ⟨y1, y2, y3, y4⟩ := gr
        exact ⟨y1.trans x, y2.trans x y3.nin, y3.ext x, y4.ext tr x⟩
      · obtain ⟨y1, y2, y3, y4⟩ := gr
        refine ⟨y1.updN r1.trk nD, y2.upd sD, ⟨fun b sb => ?_, y3.nin⟩, y4.1, fun i w e => ?_⟩
        · by_cases hb : b = D
          · subst hb; exact ⟨o', upd_same, mo'⟩
          · rw [upd_ne hb]; exact y3.mu b sb
        · obtain ⟨v, ev, nt, q⟩ := y4.2 i w e
          exact ⟨v, ev, nt, q.upd eo mo nt⟩
    have G4 : Gd g (relD K g) Gr D μ3 h3 acc H3 := G3.sub fun x => ⟨x, (Ext.refl r3.trk).toS fun b sb _ => sk1.so.nin b sb, sk1.so, rs3⟩
    refine loop_ok (rel := relD K g) go1 relD_mono (fun μ H h x r i => sk1.ok μ H h x.2.1 r i) (fun w x acc h μ H' σ2 Nx1 G nt qx e2 p5 => ?_) G4 (p4.sub fun x => x.1)
    intro s0 H0 C cl fp
    refine hg1 s0 H0 C cl fp w x _ σ2 h _ H' μ _ G.x.2.2.2 G.r nt qx e2 fun σ3 rs3 w3 => ⟨?_, turnD KO go1 hts1 hk hv G rs3 p5⟩
    rw [w3 _ hsl1, wipe_wipe]
theorem se_dc2 (KO : KOk K) (hc : X.calm = true) (hu : X.A.units + 1 < cLine) (hN : X.N.Nodup) (ok : BlkOk X.N X.env.scope scope own) (hv1 : ∀ i ∈ vs1, i ∈ own.map (·.2)) (hsl : ∀ i ∈ t.slots, i ∈ own.map (·.2)) (hsl1 : ∀ i ∈ t1.slots, i ∈ vs1)
    (hs : ∀ x, foldedSetIterable iter X.env x = pure x) (hs1 : ∀ env x, foldedSetIterable iter1 env x = pure x)
    (hi : SI g X Wx tg iter mi) (hg : SBG g X scope tg t) (hts : STs g X scope ifs mt) (hi1 : SBI g X scope tg1 iter1 mi1) (hg1 : SBG g X scope tg1 t1) (hts1 : STs g X scope ifs1 mt1) (hk : SB g X scope kx mk) (hv : SB g X scope vx mv) :
    SE g X Wx (.DictComp kx vx [⟨tg, iter, ifs, 0⟩, ⟨tg1, iter1, ifs1, 0⟩] scope pos) (mDc2 K mi t mt mi1 t1 mt1 mk mv (own.map (·.2)) vs1) := by
  intro σw h σ H μ Q rs rh po
  refine peAt (pe_dp2 hc hu hN KO.d0 pi_of ok hv1 (fun s0 H0 C cl fp => (⟨fun pins s σ H v u Q I r q => q s0 H0 C cl fp pins s u I r⟩ : PG _ _ (tBG X scope tg))) (fun s0 H0 C cl fp => pts_all hts s0 H0 C cl fp)
    (fun s0 H0 C cl fp => (⟨fun pins s σ H R I q => q s0 H0 C cl fp pins s I⟩ : PI _ _ _ (tBI X scope tg1 iter1)))
    (fun s0 H0 C cl fp => (⟨fun pins s σ H v u Q I r q => q s0 H0 C cl fp pins s u I r⟩ : PG _ _ (tBG X scope tg1))) (fun s0 H0 C cl fp => pts_all hts1 s0 H0 C cl fp)
    (fun s0 H0 C cl fp => (⟨fun pins s σ H Q I q => q s0 H0 C cl fp pins s I⟩ : PE _ _ (tB1 X scope kx))) (fun s0 H0 C cl fp => (⟨fun pins s σ H Q I q => q s0 H0 C cl fp pins s I⟩ : PE _ _ (tB1 X scope vx))) hs hs1) ?_
  exact dc2_read KO hi hg hts hi1 hg1 hts1 hk hv hsl hsl1 rs rh po
end
section
variable {κ : Type} [DecidableEq κ] {K : KKind κ} {FS : FST} {g : Gx} {k : Nat} {cl : Cll} {N : List Str} {sc : Scope} {fq : Str → Bool} {X : Cx} {Wx : WX} {kx vx tg iter tg1 iter1 : Expr} {ifs ifs1 : List Expr} {scope : Scope} {pos : Pos} {mi mi1 : M Src} {t t1 : Tg} {mt mt1 : M Bool} {mk mv : M D}
theorem Good.dc (G : Good FS g k cl N sc fq X Wx) (KO : KOk K) (own : List (Str × Nat)) (vs : List Nat) (hB : okB N sc scope own = true) (hvs : own.map (·.2) = vs) (hsl : subN t.slots vs = true) (hs : ∀ x, foldedSetIterable iter X.env x = pure x) (hi : SI g X Wx tg iter mi)
    (hg : ∀ X, Good FS g k cl N (relS scope sc) (fqB scope) X WF → SG g X tg t) (ht : GTs FS g k cl N (relS scope sc) (fqB scope) ifs mt) (hk : ∀ X, Good FS g k cl N (relS scope sc) (fqB scope) X WF → SE g X WF kx mk) (hv : ∀ X, Good FS g k cl N (relS scope sc) (fqB scope) X WF → SE g X WF vx mv) :
    SE g X Wx (.DictComp kx vx [⟨tg, iter, ifs, 0⟩] scope pos) (mDc K mi t mt mk mv vs) := by
  subst hvs
  exact se_dc KO G.calm G.u1 G.xN (G.bok hB) (subN_ok hsl) hs hi (fun s0 H0 C c1 fp => hg _ (G.blk scope s0 H0 C c1 fp)) (ht.sts G) (fun s0 H0 C c1 fp => hk _ (G.blk scope s0 H0 C c1 fp)) (fun s0 H0 C c1 fp => hv _ (G.blk scope s0 H0 C c1 fp))
theorem Good.dc2 (G : Good FS g k cl N sc fq X Wx) (KO : KOk K) (own : List (Str × Nat)) (vs vs1 : List Nat) (hB : okB N sc scope own = true) (hvs : own.map (·.2) = vs) (hsl : subN t.slots vs = true) (hv1 : subN vs1 vs = true) (hsl1 : subN t1.slots vs1 = true)
    (hs : ∀ x, foldedSetIterable iter X.env x = pure x) (hs1 : ∀ env x, foldedSetIterable iter1 env x = pure x) (hi : SI g X Wx tg iter mi)
    (hg : ∀ X, Good FS g k cl N (relS scope sc) (fqB scope) X WF → SG g X tg t) (ht : GTs FS g k cl N (relS scope sc) (fqB scope) ifs mt)
    (hi1 : ∀ X, Good FS g k cl N (relS scope sc) (fqB scope) X WF → SI g X WF tg1 iter1 mi1)
    (hg1 : ∀ X, Good FS g k cl N (relS scope sc) (fqB scope) X WF → SG g X tg1 t1) (ht1 : GTs FS g k cl N (relS scope sc) (fqB scope) ifs1 mt1)
    (hk : ∀ X, Good FS g k cl N (relS scope sc) (fqB scope) X WF → SE g X WF kx mk) (hv : ∀ X, Good FS g k cl N (relS scope sc) (fqB scope) X WF → SE g X WF vx mv) :
    SE g X Wx (.DictComp kx vx [⟨tg, iter, ifs, 0⟩, ⟨tg1, iter1, ifs1, 0⟩] scope pos) (mDc2 K mi t mt mi1 t1 mt1 mk mv vs vs1) := by
  subst hvs
  exact se_dc2 KO G.calm G.u1 G.xN (G.bok hB) (subN_ok hv1) (subN_ok hsl) (subN_ok hsl1) hs hs1 hi (fun s0 H0 C c1 fp => hg _ (G.blk scope s0 H0 C c1 fp)) (ht.sts G)
    (fun s0 H0 C c1 fp => hi1 _ (G.blk scope s0 H0 C c1 fp)) (fun s0 H0 C c1 fp => hg1 _ (G.blk scope s0 H0 C c1 fp)) (ht1.sts G) (fun s0 H0 C c1 fp => hk _ (G.blk scope s0 H0 C c1 fp)) (fun s0 H0 C c1 fp => hv _ (G.blk scope s0 H0 C c1 fp))
end
end PV
end
section
/-! PVA31: dict comprehensions in the form of generated proofs. -/
namespace PV
open PySem PySem.Spec PyProof.Rows L2
section
variable {κ : Type} [DecidableEq κ] {K : KKind κ} {FS : FST} {g : Gx} {k : Nat} {cl : Cll} {N : List Str} {sc : Scope} {fq : Str → Bool} {X : Cx} {Wx : WX} {kx vx tg iter tg1 iter1 : Expr} {ifs ifs1 : List Expr} {scope : Scope} {pos : Pos} {mI mI1 : M Src} {t t1 : Tg} {mt mt1 : M Bool} {mk mv : M D}
theorem Good.qdc (G : Good FS g k cl N sc fq X Wx) (KO : KOk K) (own : List (Str × Nat)) (vs : List Nat) (hB : okB N sc scope own = true) (hvs : own.map (·.2) = vs) (hsl : subN t.slots vs = true) (hs : nSet iter = true) (hi : QI g X Wx tg iter mI) (hg : ∀ X, Good FS g k cl N (relS scope sc) (fqB scope) X WF → QG g X tg t) (ht : QTs FS g k cl N (relS scope sc) (fqB scope) ifs mt)
    (hk : ∀ X, Good FS g k cl N (relS scope sc) (fqB scope) X WF → QE g X WF kx mk) (hv : ∀ X, Good FS g k cl N (relS scope sc) (fqB scope) X WF → QE g X WF vx mv) : QE g X Wx (.DictComp kx vx [⟨tg, iter, ifs, 0⟩] scope pos) (mDc K mI t mt mk mv vs) :=
  ⟨G.dc KO own vs hB hvs hsl (fun _ => foldN hs) hi.p (fun X G => (hg X G).p) ht.un (fun X G => (hk X G).p) (fun X G => (hv X G).p)⟩
theorem Good.qdc2 (G : Good FS g k cl N sc fq X Wx) (KO : KOk K) (own : List (Str × Nat)) (vs vs1 : List Nat) (hB : okB N sc scope own = true) (hvs : own.map (·.2) = vs) (hsl : subN t.slots vs = true) (hv1 : subN vs1 vs = true) (hsl1 : subN t1.slots vs1 = true) (hs : nSet iter = true) (hs1 : nSet iter1 = true) (hi : QI g X Wx tg iter mI) (hg : ∀ X, Good FS g k cl N (relS scope sc) (fqB scope) X WF → QG g X tg t) (ht : QTs FS g k cl N (relS scope sc) (fqB scope) ifs mt)
    (hi1 : ∀ X, Good FS g k cl N (relS scope sc) (fqB scope) X WF → QI g X WF tg1 iter1 mI1) (hg1 : ∀ X, Good FS g k cl N (relS scope sc) (fqB scope) X WF → QG g X tg1 t1) (ht1 : QTs FS g k cl N (relS scope sc) (fqB scope) ifs1 mt1)
    (hk : ∀ X, Good FS g k cl N (relS scope sc) (fqB scope) X WF → QE g X WF kx mk) (hv : ∀ X, Good FS g k cl N (relS scope sc) (fqB scope) X WF → QE g X WF vx mv) : QE g X Wx (.DictComp kx vx [⟨tg, iter, ifs, 0⟩, ⟨tg1, iter1, ifs1, 0⟩] scope pos) (mDc2 K mI t mt mI1 t1 mt1 mk mv vs vs1) :=
  ⟨G.dc2 KO own vs vs1 hB hvs hsl hv1 hsl1 (fun _ => foldN hs) (fun _ _ => foldN hs1) hi.p (fun X G => (hg X G).p) ht.un (fun X G => (hi1 X G).p) (fun X G => (hg1 X G).p) ht1.un (fun X G => (hk X G).p) (fun X G => (hv X G).p)⟩
end
end PV
end
section
/-! PVA32: empty dicts. -/
namespace PV
open PySem PySem.Spec PyProof.Rows L2
def mD0 (c : Cl) : M D := fun _ h => .ok (.ref h.length) (h ++ [c])
section
variable {g : Gx} {X : Cx} {Wx : WX} {pos : Pos}
theorem newCell {μ : List Addr} {h : Hh} {H : Hp} {p : Addr} {o : HO} {c : Cl} (rh : RH g μ h H) (np : H p = none) (rc : RC g μ (upd H p o) p c) : Ext μ H (μ ++ [p]) (upd H p o) ∧ RH g (μ ++ [p]) (h ++ [c]) (upd H p o) ∧ RV g (μ ++ [p]) (upd H p o) (.ref h.length) (.ref p) := by
  have x := Ext.new (μ := μ) (o := o) rh.trk np
  refine ⟨⟨⟨[p], rfl, fun b hb => ?_⟩, x.fr, x.lv⟩, (rh.new np).track (fun hm => rh.trk.ne np hm rfl) rc, p, ?_, rfl⟩
  · have : b = p := by simpa using hb
    rw [this]; exact np
  · rw [← rh.len]; simp
theorem se_d0K : SE g X Wx (.Dict [] [] pos) (mD0 (.dK [])) := fun σw h σ H μ Q rs rh po => peAt pe_dnewK fun p np => by
  obtain ⟨x, r, q⟩ := newCell (o := .dK []) (c := .dK []) rh np ⟨[], upd_same, rfl⟩
  exact po _ _ x r _ q (.of rfl)
theorem se_d0T : SE g X Wx (.Dict [] [] pos) (mD0 (.dT [])) := fun σw h σ H μ Q rs rh po => peAt pe_dnewT fun p np => by
  obtain ⟨x, r, q⟩ := newCell (o := .dT []) (c := .dT []) rh np ⟨[], upd_same, rfl⟩
  exact po _ _ x r _ q (.of rfl)
theorem qe_d0K : QE g X Wx (.Dict [] [] pos) (mD0 (.dK [])) := ⟨se_d0K⟩
theorem qe_d0T : QE g X Wx (.Dict [] [] pos) (mD0 (.dT [])) := ⟨se_d0T⟩
end
end PV
end
section
/-! PVA33: what is never reached. -/
namespace PV
open PySem PySem.Spec PyProof.Rows L2
def msBad : MS := fun _ _ => .bad
def mBad : M D := fun _ _ => .bad
section
variable {g : Gx} {X : Cx} {Wx : WX} {s : Stmt} {e : Expr}
theorem qs_bad : QS g X Wx s msBad := ⟨fun _ _ _ _ _ _ _ _ po => po.elim⟩
theorem qe_bad : QE g X Wx e mBad := ⟨fun _ _ _ _ _ _ _ _ po => po.elim⟩
end
end PV
end
section
/-! PVA34: tuple(d) of a dict; repr of tuples with dicts. -/
namespace PV
open PySem PySem.Spec PyProof.Rows L2
section
variable {prog : Program} {w : World} {A : Around} {E : Value → Shared → Prop} {s : Shared} {Ty : String} {r dd : Addr} {n : Nat} {P : Nat → Value → Prop} {OK : Heap → Prop}
/-- the items of a source, put into a list of one's own -/
def Took (s : Shared) (P : Nat → Value → Prop) (n : Nat) (Q : Array Value → Shared → Prop) : Prop :=
  ∀ (hp : Heap) (tk : Nat) (xs : Array Value), (∀ b o, s.heap.get? b = some o → hp.get? b = some o) → ItemsOf P xs n → Q xs { s with heap := hp, toks := tk }
theorem took_collect {Q : List Value → Shared → Prop} (KS : PySem.W.KdlSrc prog w Ty r dd n P OK) (hh : A.handled = none) (ok : OK s.heap) (hn : n ≤ sizeLine) (hQ : Took s P n fun xs s' => Q xs.toList s') : wpAny (model prog w) A (collect (.ref r)) Q E s := by
  have rl := (KS.there _ ok).1
  have dl := (KS.there _ ok).2
  unfold collect
  refine wpAny_bind (wpAny_runValue (codeAny_builtin F.entry_proto_collect ?_))
  rw [Around.under_plainId F.plain_proto_collect _]
  show wpAny _ A.in1 (newList [] >>= fun m => again (.builtin "list.__iadd__" ⟨[m, .ref r], []⟩)) _ _ s
  refine wpAny_bind (wpAny_newObj_type ?_)
  refine wpAny_pure ⟨plainId_quiet F.plain_list_iadd _, codeAny_builtin F.entry_list_iadd ?_⟩
  rw [Around.under_plainId F.plain_list_iadd _]
  show wpAny _ A.in1 (Builtin.List.listExtendWith (.ref s.heap.objs.size) (.ref r) (.ref s.heap.objs.size)) _ _ _
  have new : (s.heap.push { cls := .type "list", data := .seq ([] : List Value).toArray }).get? s.heap.objs.size = some { cls := .type "list", data := .seq #[] 0 } := Heap.get?_push_size _ rfl
  refine wpAny_mono (PySem.W.kdl_extend (A := A) (R := fun rr s' => rr = .ok (.ret (.ref s.heap.objs.size)) ∧ ∃ (hp : Heap) (tk : Nat) (xs : Array Value) (c : Nat), s' = { s with heap := hp, toks := tk } ∧
      (∀ b o, s.heap.get? b = some o → hp.get? b = some o) ∧ hp.get? s.heap.objs.size = some { cls := .type "list", dict := none, data := .seq xs c, slots := #[] } ∧ ItemsOf P xs n)
    (s := { s with heap := s.heap.push { cls := .type "list", data := .seq ([] : List Value).toArray } }) KS hh (KS.keep _ _ ok fun b _ o e => Heap.get?_push_of_some _ e) s.heap.objs.size (Nat.ne_of_gt rl) (Nat.ne_of_gt dl) (.ref s.heap.objs.size) 0 new
    (fun hp tk xs c kp e hi => ⟨rfl, hp, tk, xs, c, rfl, fun b o q => kp b o (Nat.ne_of_lt (Heap.lt_size q)) (Heap.get?_push_of_some _ q), e, hi⟩) hn) (fun fin s' q => ?_) (fun e s' q => ?_)
  · cases fin with
    | done f =>
      obtain ⟨e, hp, tk, xs, c, rfl, kp, eS, hi⟩ := q
      cases e
      show wpAny _ A (load s.heap.objs.size >>= _) _ _ _
      exact wpAny_bind (wpAny_load eS (wpAny_pure (hQ hp tk xs kp hi)))
    | again c' =>
      refine ⟨q.1, codeAny_mono q.2 fun rr s2 q2 => ?_⟩
      obtain ⟨rfl, hp, tk, xs, c, rfl, kp, eS, hi⟩ := q2
      show wpAny _ A (load s.heap.objs.size >>= _) _ _ _
      exact wpAny_bind (wpAny_load eS (wpAny_pure (hQ hp tk xs kp hi)))
  · exact absurd q.1 (by simp)
theorem took_new {Q : Value → Shared → Prop} (KS : PySem.W.KdlSrc prog w Ty r dd n P OK) (hh : A.handled = none) (ok : OK s.heap) (hn : n ≤ sizeLine) (hQ : Took s P n fun xs s' => Q (.ref s'.heap.objs.size) { s' with heap := s'.heap.push { cls := .type "tuple", data := .seq xs } }) :
    codeAny (model prog w) A (.call (.builtin "tuple.__new__") ⟨[.type "tuple", .ref r], []⟩) (wants Q E) s := by
  refine codeAny_of_tree ?_
  show wpAny _ A.in1 (checkBuiltinCall "tuple.__new__" ⟨[.type "tuple", .ref r], []⟩ >>= fun _ => again (.builtin "tuple.__new__" ⟨[.type "tuple", .ref r], []⟩)) _ _ s
  refine wpAny_bind (wpAny_of_eq (F.newCall_tuple_1 _) (wpAny_pure ⟨plainId_quiet F.plain_tuple_new _, codeAny_builtin F.entry_tuple_new ?_⟩))
  rw [Around.under_plainId F.plain_tuple_new _]
  have hsub := sub_tuple_self
  have hinit := init_tuple_lookup
  have hmh := madeHere_tuple
  have ht := KS.type s ok
  have nl := KS.notList
  have nt := KS.notTuple
  have hh1 : A.in1.handled = none := hh
  wp_walk using wpAny_typeOf ht, took_collect (A := A.in1) KS hh1 ok hn
  intro hp tk xs kp hi
  show wpAny _ _ (Builtin.Tuple.tupleExact xs.toList.toArray >>= fun v => ret v) _ _ _
  unfold Builtin.Tuple.tupleExact
  refine wpAny_bind (wpAny_newObj_type ?_ (by show xs.toList.toArray.size ≤ sizeLine; simp only [Array.toArray_toList]; rw [hi.1]; exact hn))
  refine wpAny_pure ?_
  have e : xs.toList.toArray = xs := by simp
  rw [e]
  exact hQ hp tk xs kp hi
theorem took_tuple {Q : Value → Shared → Prop} (KS : PySem.W.KdlSrc prog w Ty r dd n P OK) (hh : A.handled = none) (ok : OK s.heap) (hn : n ≤ sizeLine) (hQ : Took s P n fun xs s' => Q (.ref s'.heap.objs.size) { s' with heap := s'.heap.push { cls := .type "tuple", data := .seq xs } }) :
    wpAny (model prog w) A (call (.type "tuple") [.ref r]) Q E s := by
  refine callType_codes (Q₁ := fun obj s1 => s1.TypeIs obj "tuple" ∧ Q obj s1) F.called_tuple (F.typeCall_tuple_1 _) F.entry_object_init
    (took_new (A := A.in1) KS hh ok hn fun hp tk xs kp hi => ⟨⟨_, Heap.get?_push_size _ rfl, rfl⟩, hQ hp tk xs kp hi⟩) fun obj s1 h1 => ?_
  exact ⟨h1.1, F.args_object_init_2 obj _, object_init_meets F.called_tuple.init.lookup F.called_tuple.made (by decide) prog w A.in1 _ s1 ⟨h1.1, rfl, h1.2⟩⟩
end
def kD : Key → D
  | .inl i => .int i
  | .inr x => .str x
section
variable {g : Gx} {X : Cx} {Wx : WX}
theorem call_tupleD (hc : X.calm = true) : CallR X (.type "tuple") (fun xs H Q => ∃ (a : Addr) (kvs : List (Key × V)), xs = [.ref a] ∧ Rd H a (.dK kvs) ∧ ∀ p, H p = none → Q (.ref p) (upd H p (.tup (kvs.map fun kv => kV kv.1)))) := by
  intro pins s σ H xs us Q I r q
  obtain ⟨a, kvs, rfl, hd, q⟩ := q
  obtain ⟨u, rfl, rx⟩ := vals1 r
  cases rx
  obtain ⟨z, lo, vs, rel, dd⟩ := dk_rd I.hok hd
  obtain ⟨ep, hat⟩ := dd.dictAt
  have ek : (kvs.map fun kv => kV kv.1) = vs.map fun p => kV p.1 := by
    have e := congrArg (List.map kV) rel.keys
    rw [List.map_map, List.map_map] at e
    exact e
  refine took_tuple (PySem.W.kdl_dict (knd := mixKind X.prog X.w) (kvs := vs) (ep := ep) lo) (I.ok.hd hc) hat (by rw [← rel.length]; exact z) fun hp tk acc kp hi => ?_
  have hv : Vals (vs.map fun p => kV p.1) acc.toList := keys_at (by rw [Array.length_toList]; exact hi.1) fun j v e => hi.2 j v (by rw [← Array.getElem?_toList]; exact e)
  have I1 : Inv X pins σ H { s with heap := hp, toks := tk } := I.kept (t' := tk) kp
  exact ⟨.ref hp.objs.size, upd H hp.objs.size (.tup (kvs.map fun kv => kV kv.1)), I1.laid (t' := tk) (fun b o e => Heap.get?_push_of_some _ e) (Nat.le_refl _)
    (show ObjOk X.prog X.w _ _ _ (.tup (kvs.map fun kv => kV kv.1)) from ⟨by rw [List.length_map]; exact z, acc.toList, by rw [ek]; exact hv, by rw [Array.toArray_toList]; exact IsTup.new _ _⟩), rfl, q _ (I1.hok.fresh (Nat.le_refl _))⟩
def tupleK (x : D) (h : Hh) : R D := match x with
  | .ref i => match h[i]? with
    | some (.dK kvs) => .ok (.tup (kvs.map fun kv => kD kv.1)) h
    | _ => .bad
  | _ => .bad
theorem keys_rel {μ : List Addr} {H : Hp} : ∀ {kvs : List (Key × D)} {vs : List (Key × V)}, RKs g μ H kvs vs → RVs g μ H (kvs.map fun kv => kD kv.1) (vs.map fun kv => kV kv.1)
  | [], vs, r => by rw [show vs = [] from r]; rfl
  | (k, w) :: kvs, vs, r => by
    obtain ⟨v, rr, rfl, _, q, z⟩ := r
    refine ⟨kV k, _, rfl, by cases k <;> rfl, ?_, keys_rel z⟩
    cases k <;> rfl
theorem sc_tupleK (hc : X.calm = true) : SC1 g X Wx (.type "tuple") tupleK := by
  intro x h σ H μ vx Q rh qx po
  unfold tupleK at po
  split at po
  · rename_i i
    split at po
    · rename_i kvs e
      obtain ⟨a, ea, rfl⟩ := qx
      obtain ⟨b, eb, vs, hb, z⟩ := rh.cell i _ e
      rw [ea] at eb; cases eb
      exact crAt (call_tupleD hc) ⟨a, vs, rfl, .inl hb, fun p np => po μ _ (.new rh.trk np) (rh.new np) _ (.newT rh np (keys_rel z)) (.of rfl)⟩
    · exact po.elim
  · exact po.elim
end
/-! ### repr of tuples with dicts -/
def kPy : Key → PyData
  | .inl i => .int i
  | .inr x => .str x
def toQ (h : Hh) : Nat → D → Option PyData
  | 0, _ => none
  | n + 1, d => match d with
    | .non => some .none
    | .bl b => some (.bool b)
    | .int i => some (.int i)
    | .str x => some (.str x)
    | .tup ws => (mapO (toQ h n) ws).map .tuple
    | .kt ws => (mapO (toQ h n) ws).map .tuple
    | .ref i => match h[i]? with
      | some (.dK kvs) => (mapO (toQ h n) (kvs.map (·.2))).map fun ds => .dict ((kvs.map fun kv => kPy kv.1).zip ds)
      | _ => none
    | _ => none
section
variable {g : Gx} {X : Cx} {Wx : WX} {pins : List (Addr × Obj)} {σ : L2.St} {μ : List Addr} {h : Hh} {H : Hp} {s : Shared}
theorem mapQ_rd {f : D → Option PyData} (ih : ∀ w v d u, f w = some d → RV g μ H w v → RelV v u → ∃ as, Reads s.heap u d as ∧ sysModules ∉ as) : ∀ {ws : List D} {vs : List V} {us : List Value} {ds : List PyData}, mapO f ws = some ds → RVs g μ H ws vs → Vals vs us → ∃ as, ReadsAll s.heap us ds as ∧ sysModules ∉ as
  | [], vs, us, ds, e, r, v => by
    rw [show vs = [] from r] at v
    unfold mapO at e
    cases e; cases v
    exact ⟨_, .nil, by simp⟩
  | w :: ws, vs, us, ds, e, r, v => by
    obtain ⟨v1, rr, rfl, _, q, z⟩ := r
    unfold mapO at e
    cases v with
    | cons r1 r2 =>
      split at e
      · rename_i a b ea eb
        cases e
        obtain ⟨as, q1, n1⟩ := ih w v1 a _ ea q r1
        obtain ⟨bs, q2, n2⟩ := mapQ_rd ih eb z r2
        exact ⟨_, .cons q1 q2, by simp [n1, n2]⟩
      · cases e
theorem keysQ_rd {P : Program} {w : World} {es : List DictEntry} {vs : List (Key × Value)} (hp : Pairs (mixKind P w) es vs) : ReadsAll s.heap (es.map (·.key)) (vs.map fun p => kPy p.1) [] ∧ es.map (·.val) = vs.map (·.2) := by
  induction hp with
  | nil => exact ⟨.nil, rfl⟩
  | cons h1 h2 _ ih =>
    obtain ⟨i1, i2⟩ := ih
    refine ⟨?_, by simp [h2, i2]⟩
    rcases keyIs_shape h1 with ⟨i, t, ek, ev⟩ | ⟨x, t, ek, ev⟩
    · simp only [List.map_cons, ek, ev, kPy]
      exact .cons (.int i t) i1
    · simp only [List.map_cons, ek, ev, kPy]
      exact .cons (.str x t) i1
theorem rks_vals {kvs : List (Key × D)} {vs : List (Key × V)} (r : RKs g μ H kvs vs) : RVs g μ H (kvs.map (·.2)) (vs.map (·.2)) ∧ kvs.map (·.1) = vs.map (·.1) := by
  induction kvs generalizing vs with
  | nil => rw [show vs = [] from r]; exact ⟨rfl, rfl⟩
  | cons p kvs ih =>
    obtain ⟨v, rr, rfl, nt, q, z⟩ := r
    obtain ⟨i1, i2⟩ := ih z
    exact ⟨⟨v, _, rfl, nt, q, i1⟩, by simp [i2]⟩
theorem kv_vals {vs : List (Key × V)} {us : List (Key × Value)} (r : KV vs us) : Vals (vs.map (·.2)) (us.map (·.2)) ∧ vs.map (·.1) = us.map (·.1) := by
  induction r with
  | nil => exact ⟨.nil, rfl⟩
  | cons h _ ih => exact ⟨.cons h.2 ih.1, by simp [h.1, ih.2]⟩
theorem toQ_rd (hK : X.K = g.K) (rh : RH g μ h H) (I : Inv X pins σ H s) : ∀ (n : Nat) (w : D) (v : V) (d : PyData) (u : Value), toQ h n w = some d → RV g μ H w v → RelV v u → ∃ as, Reads s.heap u d as ∧ sysModules ∉ as
  | 0, w, v, d, u, e, r, q => by unfold toQ at e; cases e
  | n + 1, w, v, d, u, e, r, q => by
    unfold toQ at e
    split at e
    · cases e; rw [show v = .non from r] at q; cases q; exact ⟨_, .none, by simp⟩
    · cases e; rw [show v = .bl _ from r] at q; cases q; exact ⟨_, .bool _, by simp⟩
    · cases e; rw [show v = .int _ from r] at q; obtain ⟨t, rfl⟩ := q; exact ⟨_, .int _ t, by simp⟩
    · cases e; rw [show v = .str _ from r] at q; obtain ⟨t, rfl⟩ := q; exact ⟨_, .str _ t, by simp⟩
    · obtain ⟨a, vs, rfl, ht, z⟩ := r
      cases q
      obtain ⟨ds, e1, rfl⟩ := Option.map_eq_some_iff.mp e
      obtain ⟨its, rv, ⟨o, ho, hc, m, hd⟩, _⟩ := I.tuple (SqT.of ht)
      obtain ⟨as, h1, h2⟩ := mapQ_rd (toQ_rd hK rh I n) e1 z rv
      exact ⟨_, .tuple ho hc hd h1, h2⟩
    · obtain ⟨a, vs, rfl, ht, z⟩ := r
      cases q
      obtain ⟨ds, e1, rfl⟩ := Option.map_eq_some_iff.mp e
      obtain ⟨its, rv, ⟨o, ho, hc, m, hd⟩, _⟩ := I.tuple (by rw [hK]; exact ht)
      obtain ⟨as, h1, h2⟩ := mapQ_rd (toQ_rd hK rh I n) e1 z rv
      exact ⟨_, .tuple ho hc hd h1, h2⟩
    · rename_i i
      split at e
      · rename_i kvs e3
        obtain ⟨a, e1, rfl⟩ := r
        cases q
        obtain ⟨b, eb, vs, hb, z⟩ := rh.cell i _ e3
        rw [e1] at eb; cases eb
        obtain ⟨ds, e4, rfl⟩ := Option.map_eq_some_iff.mp e
        obtain ⟨_, lo, us, rel, o, es, ep, ho, hx, hd, _, hp, _⟩ := dk_rd I.hok (.inl hb)
        obtain ⟨z1, z2⟩ := rks_vals z
        obtain ⟨r1, r2⟩ := kv_vals rel
        obtain ⟨k1, k2⟩ := keysQ_rd (s := s) hp
        obtain ⟨as, h1, h2⟩ := mapQ_rd (toQ_rd hK rh I n) e4 z1 r1
        have lds : ds.length = kvs.length := by rw [mapO_len e4]; simp
        have ke : (kvs.map fun kv => kPy kv.1) = us.map fun p => kPy p.1 := by
          have := congrArg (List.map kPy) (z2.trans r2)
          rw [List.map_map, List.map_map] at this
          exact this
        refine ⟨_, .dict (as := []) (bs := as) ho hx.1 hd ?_ ?_, ?_⟩
        · rw [List.map_fst_zip (by simp [lds]), ke]; exact k1
        · rw [List.map_snd_zip (by simp [lds]), k2]; exact h1
        · have : sysModules ≠ a := fun z => by rw [z] at lo; simp at lo
          simp [h2, this]
      · cases e
    · cases e
/-- repr: plain data, else tuples with dicts -/
def reprX (x : D) (h : Hh) : R D := match toP h deep x with
  | some _ => reprW x h
  | none => match toQ h deep x with
    | some d => if d.showable = true ∧ d.shown.length ≤ sizeLine ∧ d.depth ≤ 64 then .ok (.str d.shown) h else .bad
    | none => .bad
theorem sc_reprX (hK : X.K = g.K) (hg : X.A.guards = some []) (hu : X.A.units + 65 < cLine) : SC1 g X Wx (.builtin "repr") reprX := by
  intro x h σ H μ vx Q rh qx po
  unfold reprX at po
  split at po
  · exact sc_repr hK hg hu x h σ H μ vx Q rh qx po
  · split at po
    · rename_i d e
      split at po
      · rename_i hs
        obtain ⟨h1, h2, h3⟩ := hs
        intro pins s σ us I r
        obtain ⟨u, rfl, rv⟩ := vals1 r
        obtain ⟨as, rd, na⟩ := toQ_rd hK rh I _ _ _ _ _ e qx rv
        have fin : ∀ h' tk t, (∀ b o, s.heap.get? b = some o → h'.get? b = some o) → EP X pins σ Q (.str d.shown t) { s with heap := h', toks := tk } := fun h' tk t hk => ⟨.str _, H, I.kept (t' := tk) hk, ⟨_, rfl⟩, po.at rh _ rfl (.of rfl)⟩
        cases rd with
        | none => exact PySem.P.repr_of_none ⟨.str _, H, I.tok _, ⟨_, rfl⟩, po.at rh _ rfl (.of rfl)⟩
        | bool b => exact PySem.P.repr_of_bool ⟨.str _, H, I.tok _, ⟨_, rfl⟩, po.at rh _ rfl (.of rfl)⟩
        | int i t => exact PySem.P.repr_of_int (of_decide_eq_true h1) ⟨.str _, H, I.tok _, ⟨_, rfl⟩, po.at rh _ rfl (.of rfl)⟩
        | str y t => exact PySem.P.repr_of_str (hsz := h2) ⟨.str _, H, I.tok _, ⟨_, rfl⟩, po.at rh _ rfl (.of rfl)⟩
        | list a b c f => exact repr_of_reads' (.list a b c f) h1 (fun _ => na) hg (by omega) (fun _ _ e => e) (fun h' u tk hk => fin h' tk u hk) h2
        | tuple a b c f => exact repr_of_reads' (.tuple a b c f) h1 (fun _ => na) hg (by omega) (fun _ _ e => e) (fun h' u tk hk => fin h' tk u hk) h2
        | dict a b c f f2 => exact repr_of_reads' (.dict a b c f f2) h1 (fun _ => na) hg (by omega) (fun _ _ e => e) (fun h' u tk hk => fin h' tk u hk) h2
      · exact po.elim
    · exact po.elim
variable {FS : FST} {k : Nat} {cl : Cll} {N : List Str} {sc : Scope} {fq : Str → Bool}
theorem Good.ctupleK (G : Good FS g k cl N sc fq X Wx) : QC1 g X Wx (.type "tuple") tupleK := ⟨sc_tupleK G.calm⟩
theorem Good.creprX (G : Good FS g k cl N sc fq X Wx) : QC1 g X Wx (.builtin "repr") reprX := ⟨sc_reprX G.K G.gd G.un⟩
end
end PV
end
section
/-! PVA35: instances: attributes, methods, making one. -/
namespace PV
open PySem PySem.Spec PyProof.Rows L2
/-- the numbers below 100 are those of the plain classes -/
def fldW (f : Str) (x : D) (h : Hh) : R D := match x with
  | .ref i => match h[i]? with
    | some (.ins c fs) => if c < 100 then match fs.lookup f with
        | some w => .ok w h
        | none => .bad
      else .bad
    | _ => .bad
  | _ => .bad
def mFld (f : Str) (m : M D) : M D := fun σ h => (m σ h).bind (fldW f)
def putFD (f : Str) (w : D) : List (Str × D) → List (Str × D)
  | [] => [(f, w)]
  | (g, x) :: r => if g = f then (g, w) :: r else (g, x) :: putFD f w r
def setFW (f : Str) (x w : D) (h : Hh) : Option Hh := match x with
  | .ref i => match h[i]? with
    | some (.ins c fs) => if c < 100 ∧ fs.length < 1000 ∧ w.isTl = false then some (h.set i (.ins c (putFD f w fs))) else none
    | _ => none
  | _ => none
def msFld (f : Str) (mo me : M D) : MS := fun σ h => (mSt me σ h).then σ fun w h1 => (mo σ h1).then σ fun x h2 => match setFW f x w h2 with
  | some h3 => .nx σ h3
  | none => .bad
/-- o.m(..), the def by the class -/
def mMeth (cl : Cll) (mt : Nat → Option Nat) (m : Str) (mo : M D) (ms : M (List D)) : M D := fun σ h => gcR h ((mo σ h).bind fun x h1 => match x with
  | .ref i => match h1[i]? with
    | some (.ins c fs) => match mt c with
      | some f => if c < 100 ∧ fs.lookup m = none then (ms σ h1).bind fun ws h2 => cl f (.ref i :: ws) h2 else .bad
      | none => .bad
    | _ => .bad
  | _ => .bad)
section
variable {g : Gx} {X : Cx} {Wx : WX} {μ : List Addr} {h : Hh} {H : Hp}
theorem RKs.lookup {fs : List (Str × D)} {vs : List (Str × V)} {f : Str} {w : D} (r : RKs g μ H fs vs) (e : fs.lookup f = some w) : ∃ v, vs.lookup f = some v ∧ w.isTl = false ∧ RV g μ H w v := by
  induction fs generalizing vs with
  | nil => cases e
  | cons p fs ih =>
    obtain ⟨k, x⟩ := p
    obtain ⟨v, rr, rfl, nt, q, z⟩ := r
    rw [List.lookup_cons] at e
    show ∃ v', List.lookup f ((k, v) :: rr) = some v' ∧ _
    rw [List.lookup_cons]
    cases hk : f == k
    · rw [hk] at e
      exact ih z e
    · rw [hk] at e
      cases e
      exact ⟨v, rfl, nt, q⟩
theorem RKs.lookupN {fs : List (Str × D)} {vs : List (Str × V)} {f : Str} (r : RKs g μ H fs vs) (e : fs.lookup f = none) : vs.lookup f = none := by
  induction fs generalizing vs with
  | nil => rw [show vs = [] from r]; rfl
  | cons p fs ih =>
    obtain ⟨k, x⟩ := p
    obtain ⟨v, rr, rfl, nt, q, z⟩ := r
    rw [List.lookup_cons] at e
    show List.lookup f ((k, v) :: rr) = none
    rw [List.lookup_cons]
    cases hk : f == k
    · rw [hk] at e
      exact ih z e
    · rw [hk] at e; cases e
theorem RKs.putF {fs : List (Str × D)} {vs : List (Str × V)} {f : Str} {w : D} {v : V} (r : RKs g μ H fs vs) (nt : w.isTl = false) (q : RV g μ H w v) : RKs g μ H (putFD f w fs) (L2.putF f v vs) := by
  induction fs generalizing vs with
  | nil => rw [show vs = [] from r]; exact ⟨v, [], rfl, nt, q, rfl⟩
  | cons p fs ih =>
    obtain ⟨k, x⟩ := p
    obtain ⟨v', rr, rfl, nt', q', z⟩ := r
    simp only [putFD, L2.putF]
    by_cases hk : k = f
    · rw [if_pos hk, if_pos hk]
      exact ⟨v, rr, rfl, nt, q, z⟩
    · rw [if_neg hk, if_neg hk]
      exact ⟨v', _, rfl, nt', q', ih z⟩
theorem ins_at {i c : Nat} {fs : List (Str × D)} {v : V} (rh : RH g μ h H) (q : RV g μ H (.ref i) v) (e : h[i]? = some (.ins c fs)) : ∃ a C dx vs, v = .ref a ∧ μ[i]? = some a ∧ g.ca c = some C ∧ H a = some (.ins C dx vs) ∧ RKs g μ H fs vs := by
  obtain ⟨a, ea, rfl⟩ := q
  obtain ⟨b, eb, C, dx, vs, hc, hb, z⟩ := rh.cell i _ e
  rw [ea] at eb; cases eb
  exact ⟨a, C, dx, vs, rfl, ea, hc, hb, z⟩
variable {o e value : Expr} {es : List Expr} {f m : Str} {pos pos' apos : Pos} {mo me : M D} {ms : List (M D)}
theorem se_fld (he : SE g X Wx e me) (hc : ∀ c C, c < 100 → g.ca c = some C → Cls X.K C ∧ NoAttr X.K C f) (hb : attributeBase e f X.env (eval e X.env) = eval e X.env) : SE g X Wx (.Attribute e f pos) (mFld f me) := by
  intro σw h σ H μ Q rs rh po
  refine peAt (pe_fld pe_of hb) (he σw h σ H μ _ rs rh (po.bind.imp fun x h1 μ1 H1 x1 r1 p1 v qv fv => ?_))
  unfold fldW at p1
  split at p1
  · rename_i i
    split at p1
    · rename_i c fs ec
      split at p1
      · rename_i hlt
        split at p1
        · rename_i w el
          obtain ⟨a, C, dx, vs, rfl, ea, hC, hb, z⟩ := ins_at r1 qv ec
          obtain ⟨v', ev, nt, q⟩ := z.lookup el
          obtain ⟨c1, c2⟩ := hc c C hlt hC
          exact ⟨a, C, dx, vs, v', rfl, hb, c1, c2, ev, p1.at r1 v' q (.of nt)⟩
        · exact p1.elim
      · exact p1.elim
    · exact p1.elim
  · exact p1.elim
theorem ss_fld (ho : SE g X Wx o mo) (he : SE g X Wx value me) (hc : ∀ c C, c < 100 → g.ca c = some C → Cls X.K C ∧ NoAttr X.K C f) (hs : swapsWith value (some (.Attribute o f pos')) pos.line X.env = pure false) : SS g X Wx (.Assign [.Attribute o f pos'] value pos) (msFld f mo me) := by
  intro σw h σ H μ E rs rh po
  refine psAt (ps_fld pe_of pe_of hs) ?_
  unfold msFld at po
  have po1 := PoS.then rs rh po
  refine he σw h σ H μ _ rs rh ?_
  unfold mSt at po1
  refine po1.bind2.imp fun w h1 μ1 H1 x1 r1 p1 v qv fv => ?_
  obtain ⟨μ1', x1', r1', q1', _⟩ := stash_ok r1 qv fv x1
  have p2 := (p1 μ1' H1 x1').at r1'
  have rs1 := rs.ext rh.trk x1'
  refine ho σw _ σ H1 μ1' _ rs1 r1' ?_
  have p3 := PoS.then rs1 r1' (p2 μ1' H1 x1')
  refine p3.imp fun x h2 μ2 H2 x2 r2 p4 vx qx fx => ?_
  have p5 := p4 μ2 H2 x2
  split at p5
  · rename_i h3 e3
    unfold setFW at e3
    split at e3
    · rename_i i
      split at e3
      · rename_i c fs ec
        split at e3
        · rename_i hh
          cases e3
          obtain ⟨a, C, dx, vs, rfl, ea, hC, hb, z⟩ := ins_at r2 qx ec
          obtain ⟨c1, c2⟩ := hc c C hh.1 hC
          have q2 := q1'.ext r1'.trk x2
          refine ⟨a, C, dx, vs, rfl, hb, c1, c2, by rw [z.length]; exact hh.2.1, ?_⟩
          have z2 := z.putF (f := f) hh.2.2 q2
          have xw : Ext μ2 H2 μ2 (upd H2 a (.ins C dx (L2.putF f v vs))) := .wr r2.trk ea rfl
          exact p5 μ2 _ σ xw (r2.wr ea rfl ⟨C, dx, _, hC, upd_same, z2.ext r2.trk xw⟩) ((rs1.ext r1'.trk x2).ext r2.trk xw)
        · cases e3
      · cases e3
    · cases e3
  · exact p5.elim
end
end PV
end
section
/-! PVA36: methods called, instances made. -/
namespace PV
open PySem PySem.Spec PyProof.Rows L2
section
variable {X : Cx} {o e : Expr} {es : List Expr} {m : Str} {apos pos p : Pos} {ta : TE}
def tMG (X : Cx) (m : Str) (ta : TE) (t : TA) : TE := fun σ H Q => ta σ H fun x H1 => ∃ a C dx fs f, x = .ref a ∧ H1 a = some (.ins C dx fs) ∧ Cls X.K C ∧ Meth X.K C m f ∧ fs.lookup m = none ∧ t σ H1 fun vs H2 => cgOf X f (.ref a :: vs) σ H2 Q
theorem pe_mg {pl : Sem Bool} (he : PE X o ta) (hst : starEach (e :: es) X.env = (false, eval e X.env) :: starEach es X.env) (hpl : (backTo pos (starEach es X.env)).any (·.1) = false)
    (ht : eval (.Call (.Attribute o m apos) (e :: es) [] pos) X.env = (eval o X.env >>= fun ov => standAt apos.atName >>= fun _ => holding [ov] (getMethod ov m pl) >>= fun r =>
      callWith pos r.1 r.2 (backTo pos (starEach (e :: es) X.env)) (backToKw pos (keywordEach [] X.env)))) : PE X (.Call (.Attribute o m apos) (e :: es) [] pos) (tMG X m ta (tOfA X (e :: es))) := by
  refine ⟨fun pins s σ H Q I h => ?_⟩
  refine PySem.W.methodCall_KW (pl := pl) (thn (he.run pins s σ H _ I h) fun u s1 ⟨x, H1, I1, rx, a, C, dx, fs, f, ex, ea, c, hm, l, q⟩ => ?_) ht
  subst ex
  obtain rfl : u = Value.ref a := rx
  refine getmeth_ok I1 ea c hm l ?_
  refine PySem.W.callWith_K (first := [.ref a]) (h₀ := X.base) I.ok.mod.kin hm.kp (thn (q pos pins s1 I1) fun us s2 ⟨vs, H2, I2, r, q2⟩ => ⟨I2.kIn, ?_⟩) hst hpl
  exact q2 pins s2 (.ref a :: us) I2 (.cons rfl r)
theorem pe_mg0 {pl : Sem Bool} (he : PE X o ta)
    (ht : eval (.Call (.Attribute o m apos) [] [] pos) X.env = (eval o X.env >>= fun ov => standAt apos.atName >>= fun _ => holding [ov] (getMethod ov m pl) >>= fun r =>
      callWith pos r.1 r.2 (backTo pos (starEach [] X.env)) (backToKw pos (keywordEach [] X.env)))) : PE X (.Call (.Attribute o m apos) [] [] pos) (tMG X m ta tNil) := by
  refine ⟨fun pins s σ H Q I h => ?_⟩
  refine PySem.W.methodCall_KW (pl := pl) (thn (he.run pins s σ H _ I h) fun u s1 ⟨x, H1, I1, rx, a, C, dx, fs, f, ex, ea, c, hm, l, q⟩ => ?_) ht
  subst ex
  obtain rfl : u = Value.ref a := rx
  refine getmeth_ok I1 ea c hm l ?_
  exact PySem.W.callWith_K0 (first := [.ref a]) I1.kIn hm.kp (q pins s1 [.ref a] I1 (.cons rfl .nil))
/-- an instance made, by values -/
def mgOf (X : Cx) (C : Addr) (vs : List V) (σ : L2.St) (H : Hp) (Q : VK) : Prop := ∀ pins s us, Inv X pins σ H s → Vals vs us → wpAny (model X.prog X.w) X.A (call (.ref C) us) (EP X pins σ Q) X.xe s
theorem mg_run {W : WX} {k : Nat} {C f : Addr} {fd : FuncData} {ps : List Str} {sp : Sp} {dvs : List V} {ds : List Value} {σ : L2.St} {H : Hp} {Q : VK} {vs : List V} (tk : Takes X W) (hgd : X.A.guards = some []) (M : Mk X.K C f) (F : FnG X.prog X.w X.K X.mg X.base (CX X.prog X.w) k f fd ps sp) (hr : Room (k + 1) X.A) (hb : Binds X.K fd ps ds) (hd : Vals dvs ds)
    (h : ∀ x dx, H x = none → H dx = none → dx ≠ x → sp (.ref x :: (vs ++ dvs)) (upd (upd H dx (.own x)) x (.ins C dx [])) (fun v H2 => v = .non ∧ Q (.ref x) H2) (fun cv d H' => W cv d σ H')) : mgOf X C vs σ H Q := by
  intro pins s us I r
  have hq := h (s.heap.objs.size + 1) s.heap.objs.size (I.hok.fresh (Nat.le_succ _)) (I.hok.fresh (Nat.le_refl _)) (Nat.ne_of_lt (Nat.lt_succ_self _))
  have I2 := Inv.made (C := C) I
  have r2 : Vals (V.ref (s.heap.objs.size + 1) :: (vs ++ dvs)) (Value.ref (s.heap.objs.size + 1) :: (us ++ ds)) := .cons rfl (r.append hd)
  have hl : (Value.ref (s.heap.objs.size + 1) :: us ++ ds).length = ps.length := by
    have e := r2.length
    rw [F.len _ _ _ _ hq] at e
    exact e.symm
  have hg2 : (X.A.under (.builtin "type.__call__" ⟨.ref C :: us, []⟩)).guards = some [] := by
    have hi : (Code.builtin "type.__call__" ⟨.ref C :: us, []⟩).isGuard = false := by first | rfl | (simp [Code.isGuard]; done) | (unfold Code.isGuard; decide +kernel)
    simp [Around.under, hgd, pushGuards, Code.guards, hi]
  refine wpAny_call (make_map (f := f) I.kIn M.makes M.init (beq_iff_eq.mp M.fn) (codeAny_mono (F.run _ X.stack _ _ ⟨Value.ref (s.heap.objs.size + 1) :: us, []⟩ (Value.ref (s.heap.objs.size + 1) :: (us ++ ds)) _ _ _ hg2 (hr.make C us [])
    (I2.env0.make C us []) (hb _ (Value.ref (s.heap.objs.size + 1) :: us) I2.kIn hl) r2 hq) fun r s' hq' => ?_))
  cases r with
  | error e => exact tk _ _ (XE.of_call I2 (fun _ _ _ z => z) hq')
  | ok fl =>
    cases fl with
    | ret u =>
      obtain ⟨v, H', I3, rv, ev, q3⟩ := I2.after hq'
      subst ev
      exact ⟨rv, ⟨V.ref (s.heap.objs.size + 1), H', I3, rfl, q3⟩⟩
    | next => exact False.elim hq'
    | brk => exact False.elim hq'
    | cont => exact False.elim hq'
theorem pe_mkg {x : Str} {C : Addr} (hg : Gl X x) (hm : X.mg x = some (.ref C)) (hk : PySem.W.keepIn X.K (.ref C) = true) (hdb : (x == ("__debug__" : Str)) = false) (he : starEach (e :: es) X.env = (false, eval e X.env) :: starEach es X.env)
    (hpl : (backTo pos (starEach es X.env)).any (·.1) = false) : PE X (.Call (.Name x p) (e :: es) [] pos) (fun σ H Q => tOfA X (e :: es) σ H fun vs H1 => mgOf X C vs σ H1 Q) := by
  refine ⟨fun pins s σ H Q I h => ?_⟩
  refine wpAny_Call_Name_kw (ld_glob I hg hm ?_ hdb)
  refine PySem.W.callWith_K (h₀ := X.base) I.ok.mod.kin hk (thn (h pos pins s I) fun us s1 ⟨vs, H1, I1, r, q⟩ => ⟨I1.kIn, ?_⟩) he hpl
  exact q pins s1 us I1 r
theorem pe_mkg0 {x : Str} {C : Addr} (hg : Gl X x) (hm : X.mg x = some (.ref C)) (hk : PySem.W.keepIn X.K (.ref C) = true) (hdb : (x == ("__debug__" : Str)) = false) : PE X (.Call (.Name x p) [] [] pos) (fun σ H Q => mgOf X C [] σ H Q) := by
  refine ⟨fun pins s σ H Q I h => ?_⟩
  refine wpAny_Call_Name_kw (ld_glob I hg hm ?_ hdb)
  exact PySem.W.callWith_K0 I.kIn hk (h pins s [] I .nil)
end
section
variable {g : Gx} {X : Cx} {Wx : WX} {k f : Nat} {cl : Cll} {o e : Expr} {es : List Expr} {m : Str} {apos pos p : Pos} {mo : M D} {ms : List (M D)} {mt : Nat → Option Nat}
/-- a method of a class: its object, its promise -/
def FnM (P : Program) (w : World) (K : PySem.W.Frag) (mg : Str → Option Value) (base : Heap) (g : Gx) (k : Nat) (cl : Cll) (f c : Nat) (m q : Str) (st : Stmt) (ps : List Str) : Prop :=
  ∃ C fa fd, g.ca c = some C ∧ Cls K C ∧ Meth K C m fa ∧ FunD K m q (defArgs st) (defBody st) (defScope st) [] [] fa fd ∧ FnG P w K mg base (CX P w) (k + 3) fa fd ps (spOf g ps.length (cl f))
/-- how its arguments are bound, all by place -/
def BdM (m q : Str) (st : Stmt) (ps : List Str) : Prop := ∀ (kV doc pm : Value) (an : Option Addr) (cdv ct : Value) (us : List Value), us.length = ps.length → bindArgs (PySem.W.fnOf m q (defArgs st) (defBody st) (defScope st) .none kV doc pm an cdv ct) ⟨us, []⟩ = pure (ps.zip us)
/-- the methods called m, by the class: defs that are walked -/
def MthF (P : Program) (w : World) (K : PySem.W.Frag) (mg : Str → Option Value) (base : Heap) (g : Gx) (k : Nat) (cl : Cll) (mt : Nat → Option Nat) (m : Str) (n : Nat) : Prop :=
  ∀ c C f, g.ca c = some C → mt c = some f → ∃ fa fd ps, Cls K C ∧ Meth K C m fa ∧ FnG P w K mg base (CX P w) (k + 3) fa fd ps (spOf g ps.length (cl f)) ∧ Binds K fd ps [] ∧ ps.length = n + 1
def mtL (l : List (Nat × Nat)) (c : Nat) : Option Nat := l.lookup c
theorem mth_nil {P : Program} {w : World} {K : PySem.W.Frag} {mg : Str → Option Value} {base : Heap} {n : Nat} : MthF P w K mg base g k cl (mtL []) m n := fun c C f _ e => by cases e
theorem mth_cons {P : Program} {w : World} {K : PySem.W.Frag} {mg : Str → Option Value} {base : Heap} {n c : Nat} {q : Str} {st : Stmt} {ps : List Str} {l : List (Nat × Nat)} (F : FnM P w K mg base g k cl f c m q st ps) (bd : BdM m q st ps) (hn : ps.length = n + 1)
    (t : MthF P w K mg base g k cl (mtL l) m n) : MthF P w K mg base g k cl (mtL ((c, f) :: l)) m n := fun c' C' f' e1 e2 => by
  unfold mtL at e2
  rw [List.lookup_cons] at e2
  cases hk : c' == c
  · rw [hk] at e2
    exact t c' C' f' e1 e2
  · rw [hk] at e2
    cases e2
    obtain ⟨C, fa, fd, hC, h1, h2, D, FG⟩ := F
    have e : c' = c := by simpa using hk
    subst e
    rw [hC] at e1
    cases e1
    exact ⟨fa, fd, ps, h1, h2, FG, D.bindsN bd, hn⟩
theorem se_meth {pl : Sem Bool} (tk : Takes X Wx) (hgd : X.A.guards = some []) (hr : Room (k + 3) X.A) (hm : MthF X.prog X.w X.K X.mg X.base g k cl mt m ms.length) (ho : SE g X Wx o mo) (ha : SA g X Wx (e :: es) (mArgs ms))
    (hst : starEach (e :: es) X.env = (false, eval e X.env) :: starEach es X.env) (hpl : (backTo pos (starEach es X.env)).any (·.1) = false)
    (ht : eval (.Call (.Attribute o m apos) (e :: es) [] pos) X.env = (eval o X.env >>= fun ov => standAt apos.atName >>= fun _ => holding [ov] (getMethod ov m pl) >>= fun r =>
      callWith pos r.1 r.2 (backTo pos (starEach (e :: es) X.env)) (backToKw pos (keywordEach [] X.env)))) : SE g X Wx (.Call (.Attribute o m apos) (e :: es) [] pos) (mMeth cl mt m mo (mArgs ms)) := by
  intro σw h σ H μ Q rs rh po
  have po2 := gc_ok rh po
  refine peAt (pe_mg pe_of hst hpl ht) (ho σw h σ H μ _ rs rh (po2.bind.imp fun x h1 μ1 H1 x1 r1 p1 v qv fv => ?_))
  split at p1
  · rename_i i
    split at p1
    · rename_i c fs ec
      split at p1
      · rename_i f ef
        split at p1
        · rename_i hh
          obtain ⟨a, C, dx, vs, rfl, ea, hC, hb, z⟩ := ins_at r1 qv ec
          obtain ⟨fa, fd, ps, c1, c2, FG, hbd, hpl'⟩ := hm c C f hC ef
          refine ⟨a, C, dx, vs, fa, rfl, hb, c1, c2, z.lookupN hh.2, ?_⟩
          have rs1 := rs.ext rh.trk x1
          cases hx : mArgs ms σw h1 with
          | bad => rw [hx] at p1; exact p1.elim
          | exc c' fs' h2 =>
            rw [hx] at p1
            refine ha σw h1 σ H1 μ1 _ rs1 r1 ?_
            rw [hx]; exact p1
          | ok ws h2 =>
            rw [hx, R.bind_ok] at p1
            refine ha σw h1 σ H1 μ1 _ rs1 r1 ?_
            rw [hx]
            intro μ2 H2 x2 r2 us qs
            have l1 := qs.length
            have l2 := mArgs_len hx
            have qv2 : RV g μ2 H2 (.ref i) (.ref a) := qv.ext r1.trk x2
            exact cg_own (n := 0) (cl := cl) (f := f) (dws := []) (dvs := []) (ws := .ref i :: ws) tk hgd hr FG hbd .nil rfl (by simp; omega) ⟨.ref a, us, rfl, rfl, qv2, qs⟩ r2 (by
              rw [List.append_nil]
              exact (p1.ext x2).imp fun w h3 μ3 H3 x3 r3 q3 v qv fv => q3 v qv ((fv.back x2).back x1))
        · exact p1.elim
      · exact p1.elim
    · exact p1.elim
  · exact p1.elim
theorem se_meth0 {pl : Sem Bool} (tk : Takes X Wx) (hgd : X.A.guards = some []) (hr : Room (k + 3) X.A) (hm : MthF X.prog X.w X.K X.mg X.base g k cl mt m 0) (ho : SE g X Wx o mo)
    (ht : eval (.Call (.Attribute o m apos) [] [] pos) X.env = (eval o X.env >>= fun ov => standAt apos.atName >>= fun _ => holding [ov] (getMethod ov m pl) >>= fun r =>
      callWith pos r.1 r.2 (backTo pos (starEach [] X.env)) (backToKw pos (keywordEach [] X.env)))) : SE g X Wx (.Call (.Attribute o m apos) [] [] pos) (mMeth cl mt m mo (mArgs [])) := by
  intro σw h σ H μ Q rs rh po
  have po2 := gc_ok rh po
  refine peAt (pe_mg0 pe_of ht) (ho σw h σ H μ _ rs rh (po2.bind.imp fun x h1 μ1 H1 x1 r1 p1 v qv fv => ?_))
  split at p1
  · rename_i i
    split at p1
    · rename_i c fs ec
      split at p1
      · rename_i f ef
        split at p1
        · rename_i hh
          obtain ⟨a, C, dx, vs, rfl, ea, hC, hb, z⟩ := ins_at r1 qv ec
          obtain ⟨fa, fd, ps, c1, c2, FG, hbd, hpl'⟩ := hm c C f hC ef
          refine ⟨a, C, dx, vs, fa, rfl, hb, c1, c2, z.lookupN hh.2, ?_⟩
          exact cg_own (n := 0) (cl := cl) (f := f) (dws := []) (dvs := []) (ws := [.ref i]) tk hgd hr FG hbd .nil rfl (by simp; omega) ⟨.ref a, [], rfl, rfl, qv, rfl⟩ r1 (by
            rw [List.append_nil]
            exact p1.imp fun w h3 μ3 H3 x3 r3 q3 v qv fv => q3 v qv (fv.back x1))
        · exact p1.elim
      · exact p1.elim
    · exact p1.elim
  · exact p1.elim
theorem new_ins {μ : List Addr} {h : Hh} {H : Hp} {x dx : Addr} {c : Nat} {C : Addr} (rh : RH g μ h H) (nx : H x = none) (nd : H dx = none) (hne : dx ≠ x) (hC : g.ca c = some C) :
    Ext μ H (μ ++ [x]) (upd (upd H dx (.own x)) x (.ins C dx [])) ∧ RH g (μ ++ [x]) (h ++ [.ins c []]) (upd (upd H dx (.own x)) x (.ins C dx [])) ∧ RV g (μ ++ [x]) (upd (upd H dx (.own x)) x (.ins C dx [])) (.ref h.length) (.ref x) := by
  have x1 := Ext.new (μ := μ) (o := .own x) rh.trk nd
  have r1 := rh.new (o := .own x) nd
  have nx1 : upd H dx (.own x) x = none := by rw [upd_ne hne.symm]; exact nx
  obtain ⟨x2, r2, q2⟩ := newCell (o := .ins C dx []) (c := .ins c []) r1 nx1 ⟨C, dx, [], hC, upd_same, rfl⟩
  exact ⟨x1.trans x2, r2, q2⟩
theorem mk_own {c : Nat} {C fa : Addr} {fd : FuncData} {ps : List Str} {ds : List Value} {dws : List D} {dvs : List V} {σ : L2.St} {H : Hp} {Q : VK} {vs : List V} {ws : List D} {h : Hh} {μ : List Addr} (tk : Takes X Wx) (hgd : X.A.guards = some []) (hr : Room (k + 1) X.A) (M : Mk X.K C fa)
    (F : FnG X.prog X.w X.K X.mg X.base (CX X.prog X.w) k fa fd ps (spOf g ps.length (cl f))) (hb : Binds X.K fd ps ds) (hd : Vals dvs ds) (rd : ∀ μ H, RVs g μ H dws dvs) (hC : g.ca c = some C) (hl : vs.length + 1 + dws.length = ps.length) (q : RVs g μ H ws vs) (rh : RH g μ h H)
    (po : Po g Wx σ μ H ((cl f (.ref h.length :: (ws ++ dws)) (h ++ [.ins c []])).bind fun v h2 => match v with
      | .non => .ok (.ref h.length) h2
      | _ => .bad) (fun w h' μ' H' => ∀ v, RV g μ' H' w v → Fr H w v → Q v H')) : mgOf X C vs σ H Q := by
  refine mg_run tk hgd M F hr hb hd fun x dx nx nd hne => ?_
  obtain ⟨x1, r1, q1⟩ := new_ins rh nx nd hne hC
  have ld := (rd μ H).length
  refine ⟨.ref h.length :: (ws ++ dws), h ++ [.ins c []], μ ++ [x], σ, by simp; omega, ⟨.ref x, _, rfl, rfl, q1, (q.append (rd _ _)).ext rh.trk x1⟩, r1, ?_⟩
  have p2 := (po.ext x1).bind
  refine Po.imp (Wx := fun cv d _ H' => Wx cv d σ H') ?_ (fun w h2 μ2 H2 x2 r2 p3 v qv fv => ?_) (Q := fun v h2 μ2 H2 => Po g Wx σ μ2 H2 (match v with
      | .non => .ok (.ref h.length) h2
      | _ => .bad) (fun w h' μ' H' => ∀ v, RV g μ' H' w v → Fr H w v → Q v H'))
  · cases hz : cl f (.ref h.length :: (ws ++ dws)) (h ++ [.ins c []]) with
    | ok a b => rw [hz] at p2; exact p2
    | exc a b d => rw [hz] at p2; exact p2
    | bad => rw [hz] at p2; exact p2
  · split at p3
    · rw [show v = .non from qv]
      exact ⟨rfl, p3.at r2 (.ref x) (q1.ext r1.trk x2) (.of rfl)⟩
    · exact p3.elim
/-- what a class must have to be made: f the number of its making -/
def MkF (P : Program) (w : World) (K : PySem.W.Frag) (mg : Str → Option Value) (base : Heap) (g : Gx) (k : Nat) (cl : Cll) (f : Nat) (x : Str) (n : Nat) : Prop :=
  ∃ C, mg x = some (.ref C) ∧ PySem.W.keepIn K (.ref C) = true ∧ ∀ (X : Cx) (Wx : WX), X.prog = P → X.w = w → X.K = K → X.mg = mg → X.base = base → Takes X Wx → X.A.guards = some [] → Room (k + 3) X.A →
    ∀ (σ : L2.St) (H : Hp) (Q : VK) (vs : List V) (ws : List D) (h : Hh) (μ : List Addr), ws.length = n → RVs g μ H ws vs → RH g μ h H →
      Po g Wx σ μ H (cl f ws h) (fun w h' μ' H' => ∀ v, RV g μ' H' w v → Fr H w v → Q v H') → mgOf X C vs σ H Q
theorem se_mk {x : Str} (tk : Takes X Wx) (hgd : X.A.guards = some []) (hr : Room (k + 3) X.A) (hm : MkF X.prog X.w X.K X.mg X.base g k cl f x ms.length) (hg : Gl X x) (hdb : (x == ("__debug__" : Str)) = false)
    (he : starEach (e :: es) X.env = (false, eval e X.env) :: starEach es X.env) (hpl : (backTo pos (starEach es X.env)).any (·.1) = false) (ha : SA g X Wx (e :: es) (mArgs ms)) : SE g X Wx (.Call (.Name x p) (e :: es) [] pos) (mCall cl f (mArgs ms)) := by
  intro σw h σ H μ Q rs rh po
  obtain ⟨C, hmg, hkp, hrun⟩ := hm
  have po2 := gc_ok rh po
  refine peAt (pe_mkg hg hmg hkp hdb he hpl) ?_
  cases hx : mArgs ms σw h with
  | bad => rw [hx] at po2; exact po2.elim
  | exc c' fs' h2 =>
    rw [hx] at po2
    refine ha σw h σ H μ _ rs rh ?_
    rw [hx]; exact po2
  | ok ws h1 =>
    rw [hx, R.bind_ok] at po2
    refine ha σw h σ H μ _ rs rh ?_
    rw [hx]
    intro μ1 H1 x1 r1 vs qs
    have l2 := mArgs_len hx
    exact hrun X Wx rfl rfl rfl rfl rfl tk hgd hr σ H1 Q vs ws h1 μ1 l2 qs r1 ((po2.ext x1).imp fun w h3 μ3 H3 x3 r3 q3 v qv fv => q3 v qv (fv.back x1))
theorem se_mk0 {x : Str} (tk : Takes X Wx) (hgd : X.A.guards = some []) (hr : Room (k + 3) X.A) (hm : MkF X.prog X.w X.K X.mg X.base g k cl f x 0) (hg : Gl X x) (hdb : (x == ("__debug__" : Str)) = false) : SE g X Wx (.Call (.Name x p) [] [] pos) (mCall cl f (mArgs [])) := by
  intro σw h σ H μ Q rs rh po
  obtain ⟨C, hmg, hkp, hrun⟩ := hm
  have po2 := gc_ok rh po
  refine peAt (pe_mkg0 hg hmg hkp hdb) ?_
  exact hrun X Wx rfl rfl rfl rfl rfl tk hgd hr σ H Q [] [] h μ rfl rfl rh po2
def newR (i : Nat) (r : R D) : R D := r.bind fun v h2 => match v with
  | .non => .ok (.ref i) h2
  | _ => .bad
def allS : Sg → Option (List D)
  | [] => some []
  | some w :: r => (allS r).map (w :: ·)
  | none :: _ => none
theorem allS_map : ∀ ws : List D, allS (ws.map some) = some ws
  | [] => rfl
  | w :: ws => by simp [allS, allS_map ws]
def mkB (c f : Nat) (dws : List D) : Cll → MS := fun cl σ h => match allS σ with
  | some ws => (newR h.length (cl f (.ref h.length :: (ws ++ dws)) (h ++ [.ins c []]))).then σ fun w h1 => .ret w h1
  | none => .bad
theorem callF_mk {T : Tab} {c f' n : Nat} {dws ws : List D} {h : Hh} (e : T f = some ⟨n, n, mkB c f' dws⟩) (hl : ws.length = n) : callF T (k + 1) f ws h = newR h.length (callF T k f' (.ref h.length :: (ws ++ dws)) (h ++ [.ins c []])) := by
  simp only [callF, e, runF, hl, if_true]
  have e2 : startW n ws = ws.map some := by simp [startW, hl]
  rw [e2]
  simp only [mkB, allS_map]
  cases newR h.length (callF T k f' (.ref h.length :: (ws ++ dws)) (h ++ [.ins c []])) <;> rfl
theorem mkF_zero {P : Program} {w : World} {K : PySem.W.Frag} {mg : Str → Option Value} {base : Heap} {T : Tab} {x : Str} {n : Nat} {C : Addr} (hm : mg x = some (.ref C)) (hk : PySem.W.keepIn K (.ref C) = true) : MkF P w K mg base g 0 (callF T 0) f x n :=
  ⟨C, hm, hk, fun X Wx _ _ _ _ _ _ _ _ σ H Q vs ws h μ _ _ _ po => po.elim⟩
theorem mkF_step {P : Program} {w : World} {K : PySem.W.Frag} {mg : Str → Option Value} {base : Heap} {T : Tab} {x : Str} {n c f' : Nat} {C fa : Addr} {fd : FuncData} {ps : List Str} {ds : List Value} {dws : List D} {dvs : List V} (hT : T f = some ⟨n, n, mkB c f' dws⟩)
    (hm : mg x = some (.ref C)) (hC : g.ca c = some C) (M : Mk K C fa) (F : FnG P w K mg base (CX P w) (k + 3) fa fd ps (spOf g ps.length (callF T k f'))) (hb : Binds K fd ps ds) (hd : Vals dvs ds) (rd : ∀ μ H, RVs g μ H dws dvs) (hps : ps.length = n + 1 + dws.length) :
    MkF P w K mg base g (k + 1) (callF T (k + 1)) f x n := by
  refine ⟨C, hm, M.kp, fun X Wx e1 e2 e3 e4 e5 tk hgd hr σ H Q vs ws h μ hl q rh po => ?_⟩
  subst e1; subst e2; subst e3; subst e4; subst e5
  rw [callF_mk hT hl] at po
  have l1 := q.length
  exact mk_own tk hgd hr M F hb hd rd hC (by omega) q rh po
end
end PV
end
section
/-! PVA37: classes, in the form that generated proofs use. -/
namespace PV
open PySem PySem.Spec PyProof.Rows L2
/-- what an attribute may stand on: anything but super() -/
def nC1 : Expr → Bool
  | .Call (.Name _ _) [] [] _ => false
  | _ => true
theorem attB1 {o : Expr} {n : Str} {env : Env} (h : nC1 o = true) : attributeBase o n env (eval o env) = eval o env := by
  unfold attributeBase
  split
  · cases h
  · rfl
theorem meth_eq {o : Expr} {m : Str} {apos pos : Pos} {es : List Expr} {env : Env} (hb : nC1 o = true) (hs : nSts es = true) (hn : decide (es.length < 29) = true) (hline : (apos.endLine == pos.line) = true) :
    eval (.Call (.Attribute o m apos) es [] pos) env = (eval o env >>= fun ov => standAt apos.atName >>= fun _ => holding [ov] (getMethod ov m (do return (← importBound o env).getD true)) >>= fun r =>
      callWith pos r.1 r.2 (backTo pos (starEach es env)) (backToKw pos (keywordEach [] env))) := by
  have hall : ∀ {es : List Expr}, nSts es = true → (backTo pos (starEach es env)).all (fun x => !x.1) = true := by
    intro es
    induction es with
    | nil => intro _; rfl
    | cons e es ih =>
      intro h
      simp only [nSts, Bool.and_eq_true] at h
      rw [star1 h.1]
      unfold backTo
      rw [List.map_cons, List.all_cons]
      exact ih h.2
  have hfew : methodCallForm (es.length + ([] : List Keyword).length) (backTo pos (starEach es env)) (backToKw pos (keywordEach [] env)) = true := by
    unfold methodCallForm
    rw [hall hs]
    have hn' := of_decide_eq_true hn
    have e : (backToKw pos (keywordEach [] env)) = [] := rfl
    rw [e]
    simp
    omega
  show (attributeBase o m env (eval o env) >>= fun ov => standAt apos.atName >>= fun _ => methodCall o m apos pos env ov (es.length + ([] : List Keyword).length) (backTo pos (starEach es env)) (backToKw pos (keywordEach [] env))) = _
  rw [attB1 hb]
  congr 1
  funext ov
  congr 1
  funext _
  unfold methodCall calleeOf methodCallPos
  rw [if_pos hfew, hfew, hline]
  simp
section
variable {FS : FST} {g : Gx} {k : Nat} {cl : Cll} {N : List Str} {sc : Scope} {fq : Str → Bool} {X : Cx} {Wx : WX} {pos p p' apos cpos tpos spos : Pos} {x m fl : Str} {f n : Nat} {st : Stmt} {ps : List Str} {e o : Expr} {es : List Expr} {mo me : M D} {ms : List (M D)} {mt : Nat → Option Nat}
/-- attribute fl may be read and written on the plain classes -/
def AtF (K : PySem.W.Frag) (g : Gx) (fl : Str) : Prop := ∀ c C, c < 100 → g.ca c = some C → Cls K C ∧ NoAttr K C fl
theorem Good.qfld (G : Good FS g k cl N sc fq X Wx) (ha : AtF X.K g fl) (hb : nC1 e = true) (he : QE g X Wx e me) : QE g X Wx (.Attribute e fl pos) (mFld fl me) := ⟨se_fld he.p ha (attB1 hb)⟩
theorem Good.qsfld (G : Good FS g k cl N sc fq X Wx) (ha : AtF X.K g fl) (ho : QE g X Wx o mo) (he : QE g X Wx e me) (h : nCo e = true) : QS g X Wx (.Assign [.Attribute o fl p'] e pos) (msFld fl mo me) := ⟨ss_fld ho.p he.p ha (swN h)⟩
theorem Good.qsfldN (G : Good FS g k cl N sc fq X Wx) (ha : AtF X.K g fl) (ho : QE g X Wx o mo) (he : QE g X Wx e me) (h : swapsWithSole [.Attribute o fl p'] e pos.line (env0 sc) = pure false) : QS g X Wx (.Assign [.Attribute o fl p'] e pos) (msFld fl mo me) :=
  ⟨ss_fld ho.p he.p ha (G.sole h)⟩
theorem Good.qmeth (G : Good FS g k cl N sc fq X Wx) (hm : MthF X.prog X.w X.K X.mg X.base g k cl mt m n) (hb : nC1 o = true) (hline : (apos.endLine == cpos.line) = true) (hs : nSts (e :: es) = true) (hl : ms.length = n) (hn : decide ((e :: es).length < 29) = true) (ho : QE g X Wx o mo) (ha : QA g X Wx (e :: es) (mArgs ms)) :
    QE g X Wx (.Call (.Attribute o m apos) (e :: es) [] cpos) (mMeth cl mt m mo (mArgs ms)) := by
  subst hl
  have h2 := hs
  simp only [nSts, Bool.and_eq_true] at h2
  exact ⟨se_meth G.tk G.gd G.room hm ho.p ha.p (star1 h2.1) (starN h2.2) (meth_eq hb hs hn hline)⟩
theorem Good.qmeth0 (G : Good FS g k cl N sc fq X Wx) (hm : MthF X.prog X.w X.K X.mg X.base g k cl mt m 0) (hb : nC1 o = true) (hline : (apos.endLine == cpos.line) = true) (ho : QE g X Wx o mo) :
    QE g X Wx (.Call (.Attribute o m apos) [] [] cpos) (mMeth cl mt m mo (mArgs [])) := ⟨se_meth0 G.tk G.gd G.room hm ho.p (meth_eq hb rfl rfl hline)⟩
theorem Good.qmk (G : Good FS g k cl N sc fq X Wx) (h : okG sc x = true) (hm : MkF X.prog X.w X.K X.mg X.base g k cl f x n) (hs : nSts (e :: es) = true) (hl : ms.length = n) (ha : QA g X Wx (e :: es) (mArgs ms)) :
    QE g X Wx (.Call (.Name x p) (e :: es) [] pos) (mCall cl f (mArgs ms)) := by
  subst hl
  obtain ⟨h1, h2, h3⟩ := G.gl h
  simp only [nSts, Bool.and_eq_true] at hs
  exact ⟨se_mk G.tk G.gd G.room hm h1 h2 (star1 hs.1) (starN hs.2) ha.p⟩
theorem Good.qmk0 (G : Good FS g k cl N sc fq X Wx) (h : okG sc x = true) (hm : MkF X.prog X.w X.K X.mg X.base g k cl f x 0) : QE g X Wx (.Call (.Name x p) [] [] pos) (mCall cl f (mArgs [])) := by
  obtain ⟨h1, h2, h3⟩ := G.gl h
  exact ⟨se_mk0 G.tk G.gd G.room hm h1 h2⟩
end
/-! ### the module's side -/
/-- the j-th statement of a class -/
def inC (s : Stmt) (j : Nat) : Stmt := match s with
  | .ClassDef _ _ _ body _ _ _ _ _ _ _ => body.getD j (.Pass ⟨0, 0, 0, 0⟩)
  | _ => .Pass ⟨0, 0, 0, 0⟩
/-- an empty tuple of the top -/
def dflNil (K : PySem.W.Frag) (a : Addr) : Bool := match K.lookup a with
  | some ⟨c, none, .seq its _, _⟩ => decide (c = .type "tuple") && its.toList.isEmpty
  | _ => false
theorem dfl_nil (g : Gx) {a : Addr} (μ : List Addr) (H : Hp) (h : dflNil g.K a = true) : RVs g μ H [.kt []] [.ref a] := by
  refine ⟨.ref a, [], rfl, rfl, ⟨a, [], rfl, ?_, rfl⟩, rfl⟩
  unfold dflNil at h
  split at h
  · rename_i c its n sl e
    simp only [Bool.and_eq_true, decide_eq_true_eq, List.isEmpty_iff] at h
    refine .inr ⟨_, its, n, e, h.1, rfl, ?_, ?_⟩
    · have : its.size = 0 := by rw [← Array.length_toList, h.2]; rfl
      rw [this]; exact Nat.zero_le _
    · rw [h.2]; exact .nil
  · cases h
section
variable {P : Addr → Prop} {l : List (Nat × Addr)} {n : Nat} {A : Addr}
theorem ca_nil : ∀ c C, c < 100 → ([] : List (Nat × Addr)).lookup c = some C → P C := fun c C _ e => by cases e
theorem ca_cons (h : P A) (t : ∀ c C, c < 100 → l.lookup c = some C → P C) : ∀ c C, c < 100 → ((n, A) :: l).lookup c = some C → P C := fun c C hc e => by
  rw [List.lookup_cons] at e
  cases hk : c == n
  · rw [hk] at e; exact t c C hc e
  · rw [hk] at e; cases e; exact h
theorem ca_skip (h : decide (100 ≤ n) = true) (t : ∀ c C, c < 100 → l.lookup c = some C → P C) : ∀ c C, c < 100 → ((n, A) :: l).lookup c = some C → P C := fun c C hc e => by
  rw [List.lookup_cons] at e
  cases hk : c == n
  · rw [hk] at e; exact t c C hc e
  · have e1 : c = n := by simpa using hk
    have h1 := of_decide_eq_true h
    omega
end
section
variable {FS : FST} {P : Program} {w : World} {K : PySem.W.Frag} {mg : Str → Option Value} {base : Heap} {g : Gx} {k c f : Nat} {m q : Str} {st : Stmt} {C fa : Addr} {fd : FuncData} {N ps : List Str} {T : Tab} {mm : Cll → MS}
theorem fnM_zero (hC : g.ca c = some C) (h1 : Cls K C) (h2 : Meth K C m fa) (D : FunD K m q (defArgs st) (defBody st) (defScope st) [] [] fa fd) : FnM P w K mg base g 0 (callF T 0) f c m q st ps := ⟨C, fa, fd, hC, h1, h2, D, fnG_zero⟩
theorem fnM_step (hC : g.ca c = some C) (h1 : Cls K C) (h2 : Meth K C m fa) (D : FunD K m q (defArgs st) (defBody st) (defScope st) [] [] fa fd) (S : FnScope N ps (defScope st)) (hK : K = g.K) (fs : FS P w K mg base g k (callF T k)) (hT : T f = some ⟨N.length, ps.length, mm⟩) (hn : ps.length ≤ N.length)
    (sl : ∀ X Wx, Good FS g k (callF T k) N (defScope st) (fun _ => true) X Wx → HP X → QL g X Wx (defBody st) (mm (callF T k))) : FnM P w K mg base g (k + 1) (callF T (k + 1)) f c m q st ps :=
  ⟨C, fa, fd, hC, h1, h2, D, fnG_step D S hK fs hT hn fun X Wx G hp => (sl X Wx G hp).p⟩
theorem fnF_stepQ {x : Str} (D : FunD K x x (defArgs st) (defBody st) (defScope st) [] [] fa fd) (hm : mg x = some (.ref fa)) (hf : g.fa f = some fa) (S : FnScope N ps (defScope st)) (hK : K = g.K) (fs : FS P w K mg base g k (callF T k)) (hT : T f = some ⟨N.length, ps.length, mm⟩) (hn : ps.length ≤ N.length)
    (sl : ∀ X Wx, Good FS g k (callF T k) N (defScope st) (fun _ => true) X Wx → HP X → QL g X Wx (defBody st) (mm (callF T k))) : FnF P w K mg base g (k + 1) (callF T (k + 1)) f x st ps :=
  ⟨fa, fd, hm, hf, D, fnG_step D S hK fs hT hn fun X Wx G hp => (sl X Wx G hp).p⟩
theorem fnG_stepQ {x : Str} {dvs : List V} {kws : List (Str × V)} (D : FunD K x q (defArgs st) (defBody st) (defScope st) dvs kws fa fd) (S : FnScope N ps (defScope st)) (hK : K = g.K) (fs : FS P w K mg base g k (callF T k)) (hT : T f = some ⟨N.length, ps.length, mm⟩) (hn : ps.length ≤ N.length)
    (sl : ∀ X Wx, Good FS g k (callF T k) N (defScope st) (fun _ => true) X Wx → HP X → QL g X Wx (defBody st) (mm (callF T k))) : FnG P w K mg base (CX P w) (k + 1 + 3) fa fd ps (spOf g ps.length (callF T (k + 1) f)) :=
  fnG_step D S hK fs hT hn fun X Wx G hp => (sl X Wx G hp).p
/-- an __init__: its promise alone -/
def FnI (P : Program) (w : World) (K : PySem.W.Frag) (mg : Str → Option Value) (base : Heap) (g : Gx) (k : Nat) (cl : Cll) (f c : Nat) (q : Str) (st : Stmt) (ps : List Str) (dvs : List V) : Prop :=
  ∃ C fa fd, g.ca c = some C ∧ Mk K C fa ∧ FunD K "__init__" q (defArgs st) (defBody st) (defScope st) dvs [] fa fd ∧ FnG P w K mg base (CX P w) (k + 3) fa fd ps (spOf g ps.length (cl f))
theorem fnI_zero {dvs : List V} (hC : g.ca c = some C) (M : Mk K C fa) (D : FunD K "__init__" q (defArgs st) (defBody st) (defScope st) dvs [] fa fd) : FnI P w K mg base g 0 (callF T 0) f c q st ps dvs := ⟨C, fa, fd, hC, M, D, fnG_zero⟩
theorem fnI_step {dvs : List V} (hC : g.ca c = some C) (M : Mk K C fa) (D : FunD K "__init__" q (defArgs st) (defBody st) (defScope st) dvs [] fa fd) (S : FnScope N ps (defScope st)) (hK : K = g.K) (fs : FS P w K mg base g k (callF T k)) (hT : T f = some ⟨N.length, ps.length, mm⟩) (hn : ps.length ≤ N.length)
    (sl : ∀ X Wx, Good FS g k (callF T k) N (defScope st) (fun _ => true) X Wx → HP X → QL g X Wx (defBody st) (mm (callF T k))) : FnI P w K mg base g (k + 1) (callF T (k + 1)) f c q st ps dvs :=
  ⟨C, fa, fd, hC, M, D, fnG_step D S hK fs hT hn fun X Wx G hp => (sl X Wx G hp).p⟩
/-- made with all arguments, none has a default -/
theorem mkI {x : Str} {n f' : Nat} (hT : T f = some ⟨n, n, mkB c f' []⟩) (hg : g.ca c = some C) (hm : mg x = some (.ref C)) (F : FnI P w K mg base g k (callF T k) f' c q st ps []) (bd : BdM "__init__" q st ps) (hps : ps.length = n + 1) : MkF P w K mg base g (k + 1) (callF T (k + 1)) f x n := by
  obtain ⟨C', fa, fd, hC, M, D, FG⟩ := F
  rw [hg] at hC; cases hC
  exact mkF_step (dws := []) (dvs := []) (ds := []) hT hm hg M FG (D.bindsN bd) .nil (fun _ _ => rfl) hps
/-- how arguments and defaults are bound: n by place, the defaults behind the first j -/
def BdD (q : Str) (st : Stmt) (ps : List Str) (dl n j : Nat) : Prop := ∀ (T : Addr) (kV doc pm : Value) (an : Option Addr) (cdv ct : Value) (us its : List Value), us.length = n → its.length = dl →
  ∃ k, bindArgs (PySem.W.fnOf "__init__" q (defArgs st) (defBody st) (defScope st) (.ref T) kV doc pm an cdv ct) ⟨us, []⟩ = seqItems? (.ref T) >>= k ∧ k (some its.toArray) = pure (ps.zip (us ++ its.drop j))
theorem mkD {x : Str} {n f' dl j : Nat} {dvs : List V} {dws : List D} (hT : T f = some ⟨n, n, mkB c f' dws⟩) (hg : g.ca c = some C) (hm : mg x = some (.ref C)) (F : FnI P w K mg base g k (callF T k) f' c q st ps dvs) (hd : dvs ≠ []) (hdl : dvs.length = dl) (bd : BdD q st ps dl (n + 1) j) (hj : dvs.length - j = dws.length) (hps : ps.length = n + 1 + dws.length)
    (rd : ∀ μ H, RVs g μ H dws (dvs.drop j)) : MkF P w K mg base g (k + 1) (callF T (k + 1)) f x n := by
  obtain ⟨C', fa, fd, hC, M, D, FG⟩ := F
  rw [hg] at hC; cases hC
  subst hdl
  obtain ⟨ds, hv, hb⟩ := FunD.binds1 (ps := ps) D (n + 1) j hd (by omega) (fun T kV doc pm an cdv ct us its => bd T kV doc pm an cdv ct us its)
  exact mkF_step hT hm hg M FG hb hv rd hps
end
end PV
end
section
set_option maxHeartbeats 4000000
/-! PVA38: try: the exception that was caught is tracked. -/
namespace PV
open PySem PySem.Spec PyProof.Rows L2
section
variable {X : Cx} {pins : List (Addr × Obj)} {σ : L2.St} {H : Hp} {s : Shared} {a : Addr}
theorem inv_suite (I : Inv X pins σ H s) : Inv (X.suite a X.pn) pins σ H s := ⟨I.ok.suite a X.pn, I.os, I.bare, I.base, I.loc, I.cell, I.free, I.freeC, I.pin, I.hok, I.len⟩
theorem inv_unsuite (I : Inv (X.suite a X.pn) pins σ H s) (ok : X.Ok) : Inv X pins σ H s := ⟨ok, I.os, I.bare, I.base, I.loc, I.cell, I.free, I.freeC, I.pin, I.hok, I.len⟩
/-- an object that stands outside is tracked from now on -/
theorem inv_track {oe : Obj} {vs : Array Value} {φ : Heap → Prop} (I : Inv X pins σ H s) (ha : s.heap.get? a = some oe) (hd : oe.data = .fields vs) (na : H a = none) (nL : a ≠ X.env.locals) (n0 : X.s_0.heap.get? a = none) (np : ∀ p ∈ X.pn ++ pins, p.1 ≠ a)
    (hφ : φ s.heap) (hst : ∀ h1 h2 : Heap, φ h1 → (∀ o, h1.get? a = some o → h2.get? a = some o) → φ h2) : Inv X pins σ (upd H a (.ext φ)) s := by
  have ne0 : ∀ b o, X.s_0.heap.get? b = some o → b ≠ a := fun b o e z => by rw [z, n0] at e; cases e
  refine ⟨I.ok, I.os, I.bare, ⟨I.base.keep, I.base.slot, fun b o e n hx => ?_, I.base.there, fun b xs e => ?_, fun b o u e => ?_, fun b ps e => ?_⟩, I.loc, I.cell, ?_, fun x c e => ?_, fun p hp => ?_, fun b o e => ?_, I.len⟩
  · rw [upd_ne (ne0 b o e)]; exact I.base.free b o e n hx
  · have q := I.base.tups b xs e
    rw [upd_ne (ne_of_none q na)]; exact q
  · have q := I.base.frzs b o u e
    rw [upd_ne (ne_of_none q na)]; exact q
  · obtain ⟨m, q⟩ := I.base.tbls b ps e
    exact ⟨m, by rw [upd_ne (ne_of_none q na)]; exact q⟩
  · rw [upd_ne (Ne.symm nL)]; exact I.free
  · have nc : c ≠ a := fun z => by
      obtain ⟨v, o, ho, hc⟩ := I.cell x c e
      rw [z, ha] at ho; cases ho
      rw [hd] at hc; cases hc
    rw [upd_ne nc]; exact I.freeC x c e
  · obtain ⟨e, n, ne, nf, d⟩ := I.pin p hp
    exact ⟨e, by rw [upd_ne (np p hp)]; exact n, ne, nf, d⟩
  · by_cases hb : b = a
    · subst hb
      rw [upd_same] at e
      cases e
      exact ⟨hφ, ⟨oe, ha⟩, hst⟩
    · rw [upd_ne hb] at e
      exact (I.hok b o e).stay (fun _ _ _ q => q) (fun c q => by rw [upd_ne (ne_of_none q na)]; exact q) fun c xs q => by rw [upd_ne (ne_of_none q na)]; exact q
end
/-- the ends of a suite whose name goes -/
def endsAt (i : Nat) (D : Ends) : Ends := { nx := fun σ' H' => D.nx (σ'.set i none) H', rt := D.rt, bk := fun σ' H' => D.bk (σ'.set i none) H', ct := fun σ' H' => D.ct (σ'.set i none) H' }
/-- what the clauses wish of an exception of the body, one after the other -/
def wT (K : PySem.W.Frag) (Wout : WX) (D : Ends) : List (Value × Option Nat × (Addr → TS)) → WX
  | [] => Wout
  | (c, some i, ts) :: r => fun cls d σ H => ∃ b, PySem.W.exmOne K cls c = some b ∧ (b = true → ∀ a, H a = none → ts a (endsAt i D) (σ.set i (some (.ref a))) (upd H a (ExV cls d a))) ∧ (b = false → wT K Wout D r cls d σ H)
  | (c, none, ts) :: r => fun cls d σ H => ∃ b, PySem.W.exmOne K cls c = some b ∧ (b = true → ∀ a, H a = none → ts a D σ (upd H a (ExV cls d a))) ∧ (b = false → wT K Wout D r cls d σ H)
inductive HdT (X : Cx) : List ExceptHandler → List (Value × Option Nat × (Addr → TS)) → Prop
  | nil : HdT X [] []
  | as {x n : Str} {c : Value} {i : Nat} {ts : Addr → TS} {b₀ : Stmt} {suite : List Stmt} {np pos' : Pos} {hds : List ExceptHandler} {l : List (Value × Option Nat × (Addr → TS))} (hc : Names X x c) (hi : X.N[i]? = some n) (hln : X.env.kindOf n = some .local)
      (hsu : ∀ a : Addr, PSs (X.suite a X.pn) (b₀ :: suite) (ts a)) (r : HdT X hds l) : HdT X (.ExceptHandler (some (.Name x np)) (some n) (b₀ :: suite) pos' :: hds) ((c, some i, ts) :: l)
  | no {x : Str} {c : Value} {ts : Addr → TS} {b₀ : Stmt} {suite : List Stmt} {np pos' : Pos} {hds : List ExceptHandler} {l : List (Value × Option Nat × (Addr → TS))} (hc : Names X x c)
      (hsu : ∀ a : Addr, PSs (X.suite a X.pn) (b₀ :: suite) (ts a)) (r : HdT X hds l) : HdT X (.ExceptHandler (some (.Name x np)) none (b₀ :: suite) pos' :: hds) ((c, none, ts) :: l)
section
variable {X : Cx} {body : List Stmt} {h₀ : ExceptHandler} {hds : List ExceptHandler} {l : List (Value × Option Nat × (Addr → TS))} {pos : Pos} {tb : WX → TS} {Wout : WX}
theorem ps_tryT (hs : X.stack = X.env :: X.outer) (hf : X.env.frame = some X.env.locals) (hex : X.ex = []) (hN : X.N.Nodup) (tk : Takes X Wout)
    (hb : ∀ (W : WX) (pn : List (Addr × Obj)) (xe : Value → Shared → Prop), Takes (X.tr pn xe) W → PassesOwn (model X.prog X.w) X.A X.env xe → PSs (X.tr pn xe) body (tb W))
    (hh : HdT X (h₀ :: hds) l) : PS X (.Try body (h₀ :: hds) [] [] pos) (fun D σ H => tb (wT X.K Wout D l) D σ H) := by
  refine ⟨fun pins s σ H D I h => ?_⟩
  have ok := I.ok
  have hfr : X.A.frames = some (X.env :: X.outer) := by rw [ok.frames, hs]
  refine wpAny_Try_except ?_
  refine wpAny_mono ((hb (wT X.K Wout D l) (X.pn ++ pins) (fun e s₁ => wpAny (model X.prog X.w) X.A (noteFrame e X.env) (fun _ s₂ => wpAny (model X.prog X.w) X.A (setFlight e none) (fun _ s₃ =>
    wpAny (model X.prog X.w) X.A (handleBy e X.env (h₀ :: hds)) (SP X pins D) X.xe s₃) X.xe s₂) X.xe s₁) (fun u s' xx => ?_) PassesOwn.looking).run [] s σ H D (I.toTry _) h) (fun f s1 hsp => ?_) (fun e s1 he => he)
  · -- the catch
    obtain ⟨a, B, sI, pins', σ', H', cls, d, rfl, J', nb, up, sky, na, os, ag, w⟩ := xx
    have J : Inv X pins σ' H' sI := J'.ofTry ok
    have sky' : Sky B (X.env :: X.outer) a (Zc cls d) X.env.locals s'.heap := by rw [← hs]; exact sky
    show wpAny (model X.prog X.w) X.A (noteFrame (.ref a) X.env) _ _ _
    refine Sky.land Zc.steady hfr hf sky' fun h3 fl3 up3 => ?_
    have J3 : Inv X pins σ' H' { s' with heap := h3 } := J.landed nb fl3.1 (up.trans up3) os ag
    obtain ⟨oe3, vs3, he3, hz3, hd3⟩ := fl3.there
    have notFr : ∀ {h : Heap} {o : Obj} {vs : Array Value}, h.FunFrames B (X.env :: X.outer) → h.get? a = some o → o.data = .fields vs → a ∉ frs (X.env :: X.outer) := fun {h o vs} ff e dd hm => by
      obtain ⟨_, o', e', hnf⟩ := ff.mem hm
      rw [e] at e'; cases e'
      exact hnf _ dd
    have nfr := notFr fl3.2.2.1 he3 hd3
    have nL : a ≠ X.env.locals := fun z => nfr (List.mem_filterMap.mpr ⟨X.env, List.mem_cons_self, by rw [hf, z]⟩)
    have nF : a ∉ X.fs := fun hm => by
      obtain ⟨e, he, q⟩ := List.mem_filterMap.mp hm
      exact nfr (List.mem_filterMap.mpr ⟨e, List.mem_cons_of_mem _ he, q⟩)
    have Ba : B.get? a = none := fl3.2.1
    have sIa : ∀ o, sI.heap.get? a = some o → False := fun o e => by
      have := nb a o e (by rw [hs]; exact nfr)
      rw [Ba] at this; cases this
    have n0 : X.s_0.heap.get? a = none := by
      cases e : X.s_0.heap.get? a with
      | none => rfl
      | some o =>
        obtain ⟨o', q⟩ := J.base.there a o e (by rw [hex]; exact fun z => nomatch z)
        exact (sIa o' q).elim
    have np : ∀ p ∈ X.pn ++ pins, p.1 ≠ a := fun p hp z => by
      obtain ⟨e, _⟩ := J.pin p hp
      rw [z] at e
      exact sIa _ e
    have S3 := inv_suite (a := a) J3
    have go : ∀ {hds' : List ExceptHandler} {l' : List (Value × Option Nat × (Addr → TS))}, HdT X hds' l' → wT X.K Wout D l' cls d σ' H' →
        wpAny (model X.prog X.w) X.A (handleBy (.ref a) X.env hds') (SP X pins D) X.xe { s' with heap := h3 } := by
      intro hds' l' hk
      have LT : PySem.W.Looks (model X.prog X.w) h3 (typeOf (.ref a)) cls := fun A Q E s k q => wpAny_typeOf_ref (k _ _ he3) (by rw [hz3.1]; exact q)
      have test : ∀ {x : Str} {c : Value} {np : Pos} {Q : Value → Shared → Prop} {E : Value → Shared → Prop}, Names X x c → Q c { s' with heap := h3 } → wpAny (model X.prog X.w) (X.A.mark (some (.ref a))) (eval (.Name x np) X.env) Q E { s' with heap := h3 } := fun {x c np Q E} hc q => by
        obtain ⟨hg, hdbg, hm | ⟨hm, hv, hnn⟩⟩ := hc
        · exact ld_glob (X := X.suite a X.pn) S3 hg hm q hdbg
        · exact ld_blt (X := X.suite a X.pn) S3 hg hm hv q hnn hdbg
      have land4 : ∀ {h4 : Heap} (fl4 : HandSPX.FlyingZ B (X.env :: X.outer) a (Zc cls d) h4) (up4 : h3.UpToSlots h4), Inv (X.suite a X.pn) pins σ' (upd H' a (ExV cls d a)) { s' with heap := h4 } := fun {h4} fl4 up4 => by
        have J4 : Inv X pins σ' H' { s' with heap := h4 } := J.landed nb fl4.1 ((up.trans up3).trans up4) os ag
        obtain ⟨oe4, vs4, he4, hz4, hd4⟩ := fl4.there
        exact inv_suite (inv_track J4 he4 hd4 na nL n0 np ⟨oe4, vs4, he4, hz4, hd4⟩ fun h1 h2 ⟨o, v, q, r⟩ k => ⟨o, v, k o q, r⟩)
      induction hk with
      | nil =>
        intro w
        refine wpAny_handleBy_nil ?_
        obtain ⟨k1, k2, k3, oe, vs, T, oT, ts', he, hz, hd, h1, hr⟩ := id fl3
        unfold PySem.passOn
        refine wpAny_bind (wpAny_field he hd h1 ?_)
        rw [if_neg (show ¬ ((Value.ref T == Value.none) = true) from by simp)]
        have fin : wpAny (model X.prog X.w) X.A (setFlight (.ref a) X.env.frame) (fun _ s4 => wpAny (model X.prog X.w) X.A (throw (.ref a) : Sem Flow) (SP X pins D) X.xe s4) X.xe { s' with heap := h3 } := by
          rw [hf]
          refine HandSPX.setFlight_upZ fl3 fun h4 hh4 up4 => wpAny_throw (tk _ _ ?_)
          exact ⟨a, B, sI, pins, σ', H', cls, d, rfl, J, nb, (up.trans up3).trans up4, .inr (.inr (by rw [hs]; exact hh4)), na, os, ag, w⟩
        first
          | exact wpAny_bind (wpAny_pure (wpAny_bind fin))
          | exact wpAny_bind fin
      | @as x n c i ts b₀ suite np' pos' hds2 l2 hc hi hln hsu r ih =>
        intro w
        obtain ⟨b, hb1, hyes, hno⟩ := w
        refine wpAny_handleBy_cons (codeAny_handlers_test ?_) (by intro q; cases q)
        have LM := PySem.W.exm_one (M := model X.prog X.w) (J3.kIn) LT hb1
        refine test hc (LM.here ?_)
        cases b with
        | true =>
          refine codeAny_handlers_suite_as ?_
          refine HandSPX.lands_againZ fl3 fun h4 fl4 up4 => ?_
          have S4 := land4 fl4 up4
          have hloc : Loc X.env.scope n := .inl hln
          refine store_ok (X := X.suite a X.pn) (v := .ref a) S4 hN hi hloc rfl (fun s5 S5 => ?_) (.inr hln)
          refine wpAny_mono ((hsu a).run pins s5 _ _ _ S5 (hyes rfl a na)) (fun f s6 hsp => ?_) (fun _ _ z => False.elim z)
          have end_ : ∀ {σ6 : L2.St} {H6 : Hp} {Q : Shared → Prop}, Inv (X.suite a X.pn) pins σ6 H6 s6 → (∀ s7, Inv X pins (σ6.set i none) H6 s7 → Q s7) →
              wpAny (model X.prog X.w) X.A (do bindName X.env n .none; unbindBehindTheSuite X.env n pos') (fun _ s7 => Q s7) X.xe s6 := fun {σ6 H6 Q} S6 hq => gone_ok (inv_unsuite S6 ok) hN hi hln hq
          cases f with
          | next =>
            obtain ⟨σ6, H6, S6, q6⟩ := hsp
            exact end_ S6 fun s7 J7 => ⟨_, _, J7, q6⟩
          | brk =>
            obtain ⟨σ6, H6, S6, q6⟩ := hsp
            exact end_ S6 fun s7 J7 => ⟨_, _, J7, q6⟩
          | cont =>
            obtain ⟨σ6, H6, S6, q6⟩ := hsp
            exact end_ S6 fun s7 J7 => ⟨_, _, J7, q6⟩
          | ret u =>
            obtain ⟨v6, σ6, H6, S6, r6, q6⟩ := hsp
            exact end_ S6 fun s7 J7 => ⟨_, _, _, J7, r6, q6⟩
        | false =>
          show wpAny _ X.A (handleBy (.ref a) X.env hds2) _ _ _
          exact ih (hno rfl)
      | @no x c ts b₀ suite np' pos' hds2 l2 hc hsu r ih =>
        intro w
        obtain ⟨b, hb1, hyes, hno⟩ := w
        refine wpAny_handleBy_cons (codeAny_handlers_test ?_) (by intro q; cases q)
        have LM := PySem.W.exm_one (M := model X.prog X.w) (J3.kIn) LT hb1
        refine test hc (LM.here ?_)
        cases b with
        | true =>
          refine codeAny_handlers_suite ?_
          refine HandSPX.lands_againZ fl3 fun h4 fl4 up4 => ?_
          have S4 := land4 fl4 up4
          refine wpAny_mono ((hsu a).run pins _ _ _ _ S4 (hyes rfl a na)) (fun f s6 hsp => ?_) (fun _ _ z => False.elim z)
          cases f with
          | next =>
            obtain ⟨σ6, H6, S6, q6⟩ := hsp
            exact ⟨_, _, inv_unsuite S6 ok, q6⟩
          | brk =>
            obtain ⟨σ6, H6, S6, q6⟩ := hsp
            exact ⟨_, _, inv_unsuite S6 ok, q6⟩
          | cont =>
            obtain ⟨σ6, H6, S6, q6⟩ := hsp
            exact ⟨_, _, inv_unsuite S6 ok, q6⟩
          | ret u =>
            obtain ⟨v6, σ6, H6, S6, r6, q6⟩ := hsp
            exact ⟨_, _, _, inv_unsuite S6 ok, r6, q6⟩
        | false =>
          show wpAny _ X.A (handleBy (.ref a) X.env hds2) _ _ _
          exact ih (hno rfl)
    exact go hh w
  · cases f with
    | next =>
      obtain ⟨σ', H', J', q⟩ := hsp
      exact wpAny_execs_nil ⟨σ', H', J'.ofTry ok, q⟩
    | brk =>
      obtain ⟨σ', H', J', q⟩ := hsp
      exact ⟨σ', H', J'.ofTry ok, q⟩
    | cont =>
      obtain ⟨σ', H', J', q⟩ := hsp
      exact ⟨σ', H', J'.ofTry ok, q⟩
    | ret u =>
      obtain ⟨v, σ', H', J', r, q⟩ := hsp
      exact ⟨v, σ', H', J'.ofTry ok, r, q⟩
end
end PV
end
section
/-! PVA39: try as a plain function. -/
namespace PV
open PySem PySem.Spec PyProof.Rows L2
def xcOf (c : Nat) (fs : List (Str × D)) : D := .xc c (fs.map (·.1)) (fs.map (·.2))
def RT.unset (i : Nat) : RT → RT
  | .nx σ h => .nx (σ.set i none) h
  | .brk σ h => .brk (σ.set i none) h
  | .cont σ h => .cont (σ.set i none) h
  | .ret w h => .ret w h
  | .exc _ _ _ _ => .bad
  | .bad => .bad
def RT.noexc : RT → RT
  | .exc _ _ _ _ => .bad
  | r => r
abbrev Hdl := List Nat × Option Nat × MS
def msHs : List Hdl → Nat → List (Str × D) → MS
  | [], c, fs, σ, h => .exc c fs σ h
  | (L, some i, ms) :: r, c, fs, σ, h => if L.contains c = true then (ms (σ.set i (some (xcOf c fs))) h).unset i else msHs r c fs σ h
  | (L, none, ms) :: r, c, fs, σ, h => if L.contains c = true then (ms σ h).noexc else msHs r c fs σ h
def msTry (b : MS) (hs : List Hdl) : MS := fun σ h => match b σ h with
  | .exc c fs σ1 h1 => if 100 ≤ c then msHs hs c fs σ1 h1 else .bad
  | r => r
section
variable {g : Gx} {μ : List Addr} {H : Hp}
theorem RS.setN {σw : Sg} {σ : L2.St} (r : RS g μ H σw σ) (i : Nat) : RS g μ H (σw.set i none) (σ.set i none) := by
  refine ⟨by simp [r.1], fun j w' e => ?_⟩
  by_cases hj : i = j
  · subst hj
    by_cases hl : i < σw.length
    · rw [List.getElem?_set_self hl] at e; cases e
    · rw [List.getElem?_eq_none (by simpa using hl)] at e; cases e
  · rw [List.getElem?_set_ne hj] at e ⊢
    exact r.2 j w' e
theorem RKs.split : ∀ {fs : List (Str × D)} {vs : List (Str × V)}, RKs g μ H fs vs → vs = (fs.map (·.1)).zip (vs.map (·.2)) ∧ RVs g μ H (fs.map (·.2)) (vs.map (·.2))
  | [], vs, r => by rw [show vs = [] from r]; exact ⟨rfl, rfl⟩
  | p :: fs, vs, r => by
    obtain ⟨v, rr, rfl, nt, q, z⟩ := r
    obtain ⟨e, z2⟩ := RKs.split z
    exact ⟨by simp only [List.map_cons, List.zip_cons_cons]; rw [← e], ⟨v, _, rfl, nt, q, z2⟩⟩
theorem XV.caught {c : Nat} {fs : List (Str × D)} {cv : Value} {d : Option Addr} {h : Hh} {a : Addr} (rh : RH g μ h H) (x : XV g μ H c fs cv d) (na : H a = none) : RV g μ (upd H a (ExV cv d a)) (xcOf c fs) (.ref a) := by
  obtain ⟨C, vs, hC, rfl, hd, z⟩ := x
  obtain ⟨e, z2⟩ := z.split
  refine ⟨a, C, d, vs.map (·.2), rfl, hC, upd_same, by simp, ?_, z2.ext rh.trk (.new rh.trk na)⟩
  rcases hd with ⟨rfl, hd⟩ | ⟨dx, hd, q⟩
  · exact .inl ⟨rfl, hd⟩
  · refine .inr ⟨dx, hd, ?_⟩
    rw [upd_ne (ne_of_none q na), ← e]
    exact q
end
inductive HdQ (g : Gx) (X : Cx) : List ExceptHandler → List Hdl → Prop
  | nil : HdQ g X [] []
  | as {x n : Str} {cv : Value} {i : Nat} {L : List Nat} {ms : MS} {b₀ : Stmt} {suite : List Stmt} {np pos' : Pos} {hds : List ExceptHandler} {hs : List Hdl} (hc : Names X x cv) (hi : X.N[i]? = some n) (hln : X.env.kindOf n = some .local)
      (hm : ∀ c C, 100 ≤ c → g.ca c = some C → PySem.W.exmOne X.K (.ref C) cv = some (L.contains c)) (hsu : ∀ a : Addr, SL g (X.suite a X.pn) (fun _ _ _ _ => False) (b₀ :: suite) ms) (r : HdQ g X hds hs) :
      HdQ g X (.ExceptHandler (some (.Name x np)) (some n) (b₀ :: suite) pos' :: hds) ((L, some i, ms) :: hs)
  | no {x : Str} {cv : Value} {L : List Nat} {ms : MS} {b₀ : Stmt} {suite : List Stmt} {np pos' : Pos} {hds : List ExceptHandler} {hs : List Hdl} (hc : Names X x cv)
      (hm : ∀ c C, 100 ≤ c → g.ca c = some C → PySem.W.exmOne X.K (.ref C) cv = some (L.contains c)) (hsu : ∀ a : Addr, SL g (X.suite a X.pn) (fun _ _ _ _ => False) (b₀ :: suite) ms) (r : HdQ g X hds hs) :
      HdQ g X (.ExceptHandler (some (.Name x np)) none (b₀ :: suite) pos' :: hds) ((L, none, ms) :: hs)
section
variable {g : Gx} {X : Cx} {hds : List ExceptHandler} {hs : List Hdl}
theorem HdQ.hdT (q : HdQ g X hds hs) : ∃ l, HdT X hds l ∧ ∀ (Wx : WX) (E : Ends) (μ : List Addr) (H : Hp) (c : Nat) (fs : List (Str × D)) (σw : Sg) (h : Hh), 100 ≤ c → PoS g Wx μ H (msHs hs c fs σw h) E →
    ∀ μ' H' σ' cv d, Ext μ H μ' H' → RH g μ' h H' → RS g μ' H' σw σ' → XV g μ' H' c fs cv d → wT X.K Wx E l cv d σ' H' := by
  induction q with
  | nil => exact ⟨[], .nil, fun Wx E μ H c fs σw h hc po μ' H' σ' cv d x r s v => po μ' H' σ' cv d x r s v⟩
  | @as x n cv i L ms b₀ suite np pos' hds hs hc hi hln hm hsu r ih =>
    obtain ⟨l, hl, hw⟩ := ih
    refine ⟨(cv, some i, fun a => tOfL (X.suite a X.pn) (b₀ :: suite)) :: l, .as hc hi hln (fun a => pss_of) hl, fun Wx E μ H c fs σw h hcc po μ' H' σ' cv' d x rh rs xv => ?_⟩
    have xv' := xv
    obtain ⟨C, vs, hC, rfl, hd, z⟩ := xv'
    refine ⟨L.contains c, hm c C hcc hC, fun hb a na => ?_, fun hb => ?_⟩
    · have x2 : Ext μ' H' μ' (upd H' a (ExV (.ref C) d a)) := .new rh.trk na
      refine hsu a (σw.set i (some (xcOf c fs))) h _ _ μ' _ ((rs.ext rh.trk x2).set rfl (xv.caught rh na) i) (rh.new na) ?_
      simp only [msHs, hb, if_true] at po
      have po2 := po.ext (x.trans x2)
      cases hz : ms (σw.set i (some (xcOf c fs))) h with
      | nx σ1 h1 => rw [hz] at po2; exact fun μ3 H3 σ3 x3 r3 s3 => po2 μ3 H3 _ x3 r3 (s3.setN i)
      | brk σ1 h1 => rw [hz] at po2; exact fun μ3 H3 σ3 x3 r3 s3 => po2 μ3 H3 _ x3 r3 (s3.setN i)
      | cont σ1 h1 => rw [hz] at po2; exact fun μ3 H3 σ3 x3 r3 s3 => po2 μ3 H3 _ x3 r3 (s3.setN i)
      | ret w h1 => rw [hz] at po2; exact po2
      | exc c1 fs1 σ1 h1 => rw [hz] at po2; exact po2.elim
      | bad => rw [hz] at po2; exact po2.elim
    · simp only [msHs, hb] at po
      exact hw Wx E μ H c fs σw h hcc po μ' H' σ' _ d x rh rs xv
  | @no x cv L ms b₀ suite np pos' hds hs hc hm hsu r ih =>
    obtain ⟨l, hl, hw⟩ := ih
    refine ⟨(cv, none, fun a => tOfL (X.suite a X.pn) (b₀ :: suite)) :: l, .no hc (fun a => pss_of) hl, fun Wx E μ H c fs σw h hcc po μ' H' σ' cv' d x rh rs xv => ?_⟩
    have xv' := xv
    obtain ⟨C, vs, hC, rfl, hd, z⟩ := xv'
    refine ⟨L.contains c, hm c C hcc hC, fun hb a na => ?_, fun hb => ?_⟩
    · have x2 : Ext μ' H' μ' (upd H' a (ExV (.ref C) d a)) := .new rh.trk na
      refine hsu a σw h _ _ μ' _ (rs.ext rh.trk x2) (rh.new na) ?_
      simp only [msHs, hb, if_true] at po
      have po2 := po.ext (x.trans x2)
      cases hz : ms σw h with
      | nx σ1 h1 => rw [hz] at po2; exact po2
      | brk σ1 h1 => rw [hz] at po2; exact po2
      | cont σ1 h1 => rw [hz] at po2; exact po2
      | ret w h1 => rw [hz] at po2; exact po2
      | exc c1 fs1 σ1 h1 => rw [hz] at po2; exact po2.elim
      | bad => rw [hz] at po2; exact po2.elim
    · simp only [msHs, hb] at po
      exact hw Wx E μ H c fs σw h hcc po μ' H' σ' _ d x rh rs xv
variable {FS : FST} {k : Nat} {cl : Cll} {N : List Str} {sc : Scope} {fq : Str → Bool} {Wx : WX} {body : List Stmt} {h₀ : ExceptHandler} {pos : Pos} {mb : MS}
theorem ss_try (hp : HP X) (G : Good FS g k cl N sc fq X Wx) (hb : ∀ (X' : Cx) (Wx' : WX), Good FS g k cl N sc fq X' Wx' → HP X' → QL g X' Wx' body mb) (hh : HdQ g X (h₀ :: hds) hs) : SS g X Wx (.Try body (h₀ :: hds) [] [] pos) (msTry mb hs) := by
  intro σw h σ H μ E rs rh po
  obtain ⟨l, hl, hw⟩ := hh.hdT
  refine psAt (ps_tryT hp.st hp.fr hp.ex G.xN G.tk (tb := fun W E σ H => ∀ pn xe, Takes (X.tr pn xe) W → PassesOwn (model X.prog X.w) X.A X.env xe → tOfL (X.tr pn xe) body E σ H) (fun W pn xe tk ps => ⟨fun pins s σ H E I q => q pn xe tk ps pins s I⟩) hl) ?_
  intro pn xe tk ps
  refine (hb (X.tr pn xe) _ ⟨G.K, G.calm, G.eN, G.nd, G.sc, G.fn, G.room, G.gd, tk, G.fs⟩ ⟨ps, hp.st, hp.fr, hp.ex⟩).p σw h σ H μ E rs rh ?_
  unfold msTry at po
  cases hz : mb σw h with
  | nx σ1 h1 => rw [hz] at po; exact po
  | brk σ1 h1 => rw [hz] at po; exact po
  | cont σ1 h1 => rw [hz] at po; exact po
  | ret w h1 => rw [hz] at po; exact po
  | bad => rw [hz] at po; exact po
  | exc c fs σ1 h1 =>
    rw [hz] at po
    by_cases hc : 100 ≤ c
    · simp only [hc, if_true] at po
      exact fun μ' H' σ' cv d x r s v => hw Wx E μ H c fs σ1 h1 hc po μ' H' σ' cv d x r s v
    · simp only [hc, if_false] at po
      exact po.elim
end
end PV
end
section
set_option maxHeartbeats 4000000
/-! PVA40: raise: an own exception class whose __init__ calls its base and stores its arguments. -/
namespace PV
open PySem PySem.Spec PyProof.Rows L2
/-! ### the class -/
def oexB (K : PySem.W.Frag) (C : Addr) : Bool := (match K.lookup C with
  | some ⟨.type "type", _, .cls cd, sl⟩ => (match cd.mro, sl.toList with
    | .ref C' :: bm, [_, _, _, _, some (.builtin n), _] => C' == C && n == "ValueError.__new__" && !cd.hasDel && cd.hasDict && HandSPX.refsVE bm
    | _, _ => false)
  | _ => false) && (He.eqO (PySem.W.findIn K (.ref C) "__setattr__") (some (some (.builtin "object.__setattr__"))) && (decide (PySem.W.subIn K (.ref C) (.type "BaseException") = some true) && (decide (PySem.W.typeIn K (.ref C) = some (.type "type")) && PySem.W.keepIn K (.ref C))))
theorem oexB_ok {K : PySem.W.Frag} {C : Addr} (h : oexB K C = true) : OexC K C := by
  unfold oexB at h
  obtain ⟨q, h⟩ := He.ba h
  obtain ⟨h1, h⟩ := He.ba h
  obtain ⟨h2, h⟩ := He.ba h
  obtain ⟨h3, h4⟩ := He.ba h
  refine ⟨?_, He.eqO_ok h1, of_decide_eq_true h2, of_decide_eq_true h3, h4⟩
  split at q
  · rename_i dd cd sl ho
    split at q
    · rename_i C' bm k0 k1 k2 k3 n k5 hm hs
      simp only [Bool.and_eq_true, beq_iff_eq, Bool.not_eq_true'] at q
      obtain ⟨⟨⟨⟨rfl, rfl⟩, hdel⟩, hdct⟩, ht⟩ := q
      obtain ⟨nm, bs, mro, ns, qn, hd, sn, sub, ab, col, del⟩ := cd
      dsimp only at hm hdel hdct
      subst hm hdel hdct
      have hsl : sl = #[k0, k1, k2, k3, some (.builtin "ValueError.__new__"), k5] := by
        obtain ⟨l⟩ := sl
        simp only at hs
        rw [hs]
      subst hsl
      exact ⟨nm, qn, ns, bs, bm, sn, sub, ab, col, dd, k0, k1, k2, k3, k5, ho, ht⟩
    · cases q
  · cases q
/-- the base class: its __init__ is ValueError's -/
def ginB (K : PySem.W.Frag) (C : Addr) : Bool := PySem.W.readsIn K C (.type "type") && (He.eqO (PySem.W.specialIn K (.ref C) "__getattribute__") (some (some (.builtin "type.__getattribute__"))) && (match PySem.W.findCls K (.ref C) (.type "type") "__init__" with
  | some (.val (.builtin n)) => n == "ValueError.__init__"
  | _ => false))
structure GinC (K : PySem.W.Frag) (C : Addr) : Prop where
  rd : PySem.W.readsIn K C (.type "type") = true
  ga : PySem.W.specialIn K (.ref C) "__getattribute__" = some (some (.builtin "type.__getattribute__"))
  at_ : PySem.W.findCls K (.ref C) (.type "type") "__init__" = some (.val (.builtin "ValueError.__init__"))
theorem ginB_ok {K : PySem.W.Frag} {C : Addr} (h : ginB K C = true) : GinC K C := by
  unfold ginB at h
  obtain ⟨h1, h⟩ := He.ba h
  obtain ⟨h2, h⟩ := He.ba h
  refine ⟨h1, He.eqO_ok h2, ?_⟩
  split at h
  · rename_i n e
    rw [e, beq_iff_eq.mp h]
  · cases h
/-! ### the __init__ -/
section
variable {X : Cx} {e : Expr} {es : List Expr} {ta : TA} {p1 p2 pos : Pos}
theorem pe_ginit {pl : Sem Bool} {x : Str} {CG : Addr} (hg : Gl X x) (hm : X.mg x = some (.ref CG)) (hdb : (x == ("__debug__" : Str)) = false) (T : GinC X.K CG) (ha : PA X (e :: es) ta)
    (hc : eval (.Call (.Attribute (.Name x p1) "__init__" p2) (e :: es) [] pos) X.env = (eval (.Name x p1) X.env >>= fun ov => standAt p2.atName >>= fun _ => holding [ov] (getMethod ov "__init__" pl) >>= fun r =>
      callWith pos r.1 r.2 (backTo pos (starEach (e :: es) X.env)) (backToKw pos (keywordEach [] X.env))))
    (he : starEach (e :: es) X.env = (false, eval e X.env) :: starEach es X.env) (hpl : (backTo pos (starEach es X.env)).any (·.1) = false) :
    PE X (.Call (.Attribute (.Name x p1) "__init__" p2) (e :: es) [] pos) (tVeI X.K ta) := by
  refine ⟨fun pins s σ H Q I h => ?_⟩
  refine PySem.W.methodCall_KW (ld_glob I hg hm ?_ hdb) hc
  refine PySem.W.method_cls I.kIn T.ga (PySem.W.cls_value I.kIn T.rd T.at_ (by decide +kernel) ?_)
  show wpAny _ _ (callWith pos (Value.builtin "ValueError.__init__") [] (backTo pos (starEach (e :: es) X.env)) []) _ _ _
  refine PyProof.Rows.callWith_method1 (thn (ha.run pos pins _ σ H _ (I.tok _) h) fun us s1 ⟨vs, H1, I1, r1, a, C, ws, ev, hl, T, ea, q⟩ => ?_) he hpl
  subst ev
  cases r1 with
  | @cons _ u0 _ ur ra rw' =>
    obtain rfl : u0 = Value.ref a := ra
    have hlen : ur.length ≤ sizeLine := by
      rw [← Paired.length rw', sizeLine_eq]
      omega
    exact oinit_ok T I1 ea hlen fun s' J => ⟨.non, H1, J, rfl, q⟩
end
inductive IsSt : List Stmt → List Str → Prop
  | nil : IsSt [] []
  | cons {f : Str} {p1 p2 p3 p4 : Pos} {r : List Stmt} {fs : List Str} (t : IsSt r fs) : IsSt (.Assign [.Attribute (.Name "self" p1) f p2] (.Name f p3) p4 :: r) (f :: fs)
def StV (X : Cx) (σ : L2.St) : List Str → List V → Prop
  | [], vs => vs = []
  | f :: fs, vs => ∃ v r, vs = v :: r ∧ (∃ i : Nat, X.N[i]? = some f ∧ σ[i]? = some (some v)) ∧ Vis X.env.scope f ∧ (f == ("__debug__" : Str)) = false ∧ (f == ("__classdict__" : Str)) = false ∧ StV X σ fs r
/-- an exception that is being made, at a: its dict, its fields so far -/
def XSt (H : Hp) (a C : Addr) (od : Option Addr) (done : List (Str × V)) : Prop := (od = none ∧ done = [] ∧ H a = some (exo a C none)) ∨ ∃ dx, od = some dx ∧ dx ≠ a ∧ H a = some (exo a C (some dx)) ∧ H dx = some (exd dx done)
theorem stores {X : Cx} {a C : Addr} {σ : L2.St} {D : Ends} (T : OexC X.K C) (h0 : X.N[0]? = some ("self" : Str)) (v0 : Vis X.env.scope "self") (s0 : σ[0]? = some (some (.ref a))) : ∀ {body : List Stmt} {fs : List Str}, IsSt body fs → ∀ {vs : List V} {H : Hp} {od : Option Addr} {done : List (Str × V)}, StV X σ fs vs → XSt H a C od done →
    (∀ f ∈ fs, PySem.W.findIn X.K (.ref C) f = some none) → done.length + fs.length ≤ 900 →
    (∀ H' od', XSt H' a C od' ((fs.zip vs).reverse ++ done) → (∀ b, b ≠ a → od' ≠ some b → H' b = H b) → (∀ b, od = some b → od' = some b) → (∀ b, od' = some b → H b = none ∨ od = some b) → (fs = [] → od' = od) → D.nx σ H') → tOfL X body D σ H := by
  intro body fs hb
  induction hb with
  | nil =>
    intro vs H od done sv x _ _ post
    exact pssAt pss_nil (post H od (by simpa using x) (fun _ _ _ => rfl) (fun _ e => e) (fun b e => .inr e) fun _ => rfl)
  | @cons f p1 p2 p3 p4 r fs t ih =>
    intro vs H od done sv x hno hl post
    obtain ⟨v, vr, rfl, ⟨i, hi, hv⟩, vis, d1, d2, sv'⟩ := sv
    refine pssAt (pss_cons (ps_ost (pe_var h0 v0 (by decide) (by decide)) (pe_var hi vis d1 d2) (by rfl)) pss_of) ?_
    refine ⟨v, hv, .ref a, s0, a, C, rfl, T, hno f List.mem_cons_self, ?_⟩
    simp only [List.length_cons] at hl
    rcases x with ⟨rfl, rfl, ha⟩ | ⟨dx, rfl, hne, ha, hdx⟩
    · refine .inl ⟨ha, fun dx n ne => ih (od := some dx) (done := [(f, v)]) sv' (.inr ⟨dx, rfl, ne, upd_same, by rw [upd_ne ne]; exact upd_same⟩) (fun g hg => hno g (List.mem_cons_of_mem _ hg)) (by simp; simp at hl; omega) fun H' od' x' fr' k1 k2 _ => ?_⟩
      have e' := k1 dx rfl
      refine post H' od' (by simpa using x') (fun b hb hob => ?_) (fun b e => by cases e) (fun b e => .inl ?_) (fun e => by cases e)
      · have nb : b ≠ dx := fun z => hob (by rw [z]; exact e')
        rw [fr' b hb hob, upd_ne hb, upd_ne nb]
      · rw [e'] at e; cases e; exact n
    · refine .inr ⟨dx, done, ha, hdx, by omega, ih (od := some dx) (done := (f, v) :: done) sv' (.inr ⟨dx, rfl, hne, by rw [upd_ne hne.symm]; exact ha, upd_same⟩) (fun g hg => hno g (List.mem_cons_of_mem _ hg)) (by simp; omega) fun H' od' x' fr' k1 k2 _ => ?_⟩
      have e' := k1 dx rfl
      refine post H' od' (by simpa using x') (fun b hb hob => ?_) k1 (fun b e => .inr ?_) (fun e => by cases e)
      · have nb : b ≠ dx := fun z => hob (by rw [z]; exact e')
        rw [fr' b hb hob, upd_ne nb]
      · rw [e'] at e; exact e
/-- what such an __init__ keeps -/
def xsp (C : Addr) (fs : List Str) : Sp := fun vs H Q E => ∃ a ws, vs = .ref a :: ws ∧ ws.length = fs.length ∧ H a = some (exo a C none) ∧ ∀ H' od', XSt H' a C od' ((fs.zip ws).reverse) → (∀ b, b ≠ a → od' ≠ some b → H' b = H b) → (∀ b, od' = some b → H b = none) → (fs = [] → od' = none) → Q .non H'
/-- the body of such an __init__ -/
inductive IsIn (x : Str) (fs : List Str) : List Stmt → Prop
  | mk {p1 p2 p3 p4 p5 p6 : Pos} {z : Str} {j : Nat} {r : List Stmt} (hline : (p2.endLine == p5.line) = true) (t : IsSt r fs) : IsIn x fs (.Expr (.Call (.Attribute (.Name x p1) "__init__" p2) [.Name "self" p3, .Constant (.str z) j p4] [] p5) p6 :: r)
def okN (N : List Str) (sc : Scope) (x : Str) : Bool := (match sc.names.lookup x with
  | some .local => true
  | _ => false) && !(x == ("__debug__" : Str)) && !(x == ("__classdict__" : Str))
theorem start_get {N : List Str} {vs : List V} {i : Nat} {v : V} (e : vs[i]? = some v) : (L2.start N vs)[i]? = some (some v) := by
  have hi : i < vs.length := by
    rcases Nat.lt_or_ge i vs.length with z | z
    · exact z
    · rw [List.getElem?_eq_none z] at e; cases e
  unfold L2.start
  rw [List.getElem?_append_left (by simpa using hi), List.getElem?_map, e]
  rfl
theorem stv_of {X : Cx} {σ : L2.St} {sc : Scope} (hsc : X.env.scope = sc) : ∀ {fs : List Str} {vs : List V} {j : Nat}, (∀ i f, fs[i]? = some f → X.N[j + i]? = some f) → (∀ i v, vs[i]? = some v → σ[j + i]? = some (some v)) → vs.length = fs.length → (∀ f ∈ fs, okN X.N sc f = true) → StV X σ fs vs
  | [], vs, j, _, _, hl, _ => by
    show vs = []
    exact List.length_eq_zero_iff.mp hl
  | f :: fs, [], j, _, _, hl, _ => by simp at hl
  | f :: fs, v :: vs, j, hN, hσ, hl, ok => by
    have h1 := ok f List.mem_cons_self
    unfold okN at h1
    simp only [Bool.and_eq_true, Bool.not_eq_true'] at h1
    obtain ⟨⟨q, q2⟩, q3⟩ := h1
    refine ⟨v, vs, rfl, ⟨j, hN 0 f rfl, hσ 0 v rfl⟩, ?_, q2, q3, stv_of (j := j + 1) hsc (fun i g e => by have := hN (i + 1) g (by simpa using e); rw [show j + 1 + i = j + (i + 1) by omega]; exact this) (fun i u e => by have := hσ (i + 1) u (by simpa using e); rw [show j + 1 + i = j + (i + 1) by omega]; exact this) (by simpa using hl) fun g hg => ok g (List.mem_cons_of_mem _ hg)⟩
    rw [hsc]
    unfold Vis
    split at q
    · exact .inl ‹_›
    · cases q
theorem init_ok {P : Program} {w : World} {K : PySem.W.Frag} {mg : Str → Option Value} {base : Heap} {q x : Str} {st : Stmt} {fI C CG : Addr} {fd : FuncData} {fs : List Str} (F : FunD K "__init__" q (defArgs st) (defBody st) (defScope st) [] [] fI fd) (S : FnScope ("self" :: fs) ("self" :: fs) (defScope st))
    (hb : IsIn x fs (defBody st)) (T : OexC K C) (hg : mg x = some (.ref CG)) (TG : GinC K CG) (hx : okG (defScope st) x = true) (hs : okN ("self" :: fs) (defScope st) "self" = true) (hf : ∀ f ∈ fs, okN ("self" :: fs) (defScope st) f = true) (hno : ∀ f ∈ fs, PySem.W.findIn K (.ref C) f = some none) (hl : fs.length ≤ 900) :
    FnOk P w K mg base (CX P w) 1 fI fd ("self" :: fs) (xsp C fs) := by
  refine FunD.ok (k := 0) F S (fun vs H Q E ⟨a, ws, e, hw, _⟩ => by rw [e]; simp [hw]) fun cdv A outer s H vs Q E hr hsp => ?_
  obtain ⟨a, ws, rfl, hw, ha, post⟩ := hsp
  refine ⟨_, pss_of, ?_⟩
  generalize eX : cxOf (CX P w) P w K mg base ("self" :: fs) q (defScope st) fI cdv A outer s H E = X
  have hsc : X.env.scope = defScope st := by rw [← eX]; rfl
  have hN : X.N = ("self" : Str) :: fs := by rw [← eX]; rfl
  have hK : X.K = K := by rw [← eX]; rfl
  have hmg : X.mg = mg := by rw [← eX]; rfl
  have v0 : Vis X.env.scope "self" := by
    have h1 := hs
    unfold okN at h1
    simp only [Bool.and_eq_true, Bool.not_eq_true'] at h1
    rw [hsc]
    unfold Vis
    have h2 := h1.1.1
    split at h2
    · exact .inl ‹_›
    · cases h2
  have hgl : Gl X x ∧ (x == ("__debug__" : Str)) = false := by
    have h1 := hx
    unfold okG at h1
    simp only [Bool.and_eq_true, Bool.not_eq_true'] at h1
    obtain ⟨⟨h1, h2⟩, h3⟩ := h1
    refine ⟨?_, h2⟩
    unfold Gl Env.kindOf
    rw [hsc]
    split at h1
    · rename_i e; exact e
    · cases h1
  have h0 : X.N[0]? = some ("self" : Str) := by rw [hN]; rfl
  have s0 : (L2.start (("self" : Str) :: fs) (.ref a :: ws))[0]? = some (some (.ref a)) := start_get rfl
  cases hb' : defBody st with
  | nil => rw [hb'] at hb; cases hb
  | cons b0 bs =>
    rw [hb'] at hb
    obtain @⟨p1, p2, p3, p4, p5, p6, z, j, _, hline, t⟩ := hb
    refine pssAt (pss_cons (ps_expr (pe_ginit hgl.1 (by rw [hmg]; exact hg) hgl.2 (by rw [hK]; exact TG) (pa_cons (pe_var h0 v0 (by decide) (by decide)) (pa_cons pe_str pa_nil (by rfl)) (by rfl)) (meth_eq rfl rfl rfl hline) (by rfl) (by rfl)) (by rfl)) pss_of) ?_
    refine ⟨.ref a, s0, a, C, [.str z], rfl, by simp, by rw [hK]; exact T, ha, ?_⟩
    refine stores (by rw [hK]; exact T) h0 v0 s0 t (stv_of (j := 1) hsc (fun i f e => by rw [hN, Nat.add_comm]; exact e) (fun i v e => start_get (by rw [Nat.add_comm]; exact e)) hw (fun f hf' => by rw [hN]; exact hf f hf')) (.inl ⟨rfl, rfl, ha⟩) (fun f hf' => by rw [hK]; exact hno f hf') (by simp; exact hl) fun H' od' x' fr' k1 k2 k3 => ?_
    exact post H' od' (by simpa using x') fr' (fun b e => by
      rcases k2 b e with z | z
      · exact z
      · cases z) k3
end PV
end
section
set_option maxHeartbeats 4000000
/-! PVA41: raise C(..) as a plain statement. -/
namespace PV
open PySem PySem.Spec PyProof.Rows L2
section
variable {X : Cx} {e : Expr} {es : List Expr} {ta : TA} {p pos : Pos}
/-- the end of C(), nothing stored: the exception is let go -/
theorem mk_end_n {pins : List (Addr × Obj)} {σ : L2.St} {H1 H2 : Hp} {hp hp2 h2 : Heap} {g1 g2 : Array GenState} {d1 d2 : Drawn} {t1 t2 : Nat} {os1 os2 : OsState} {a C : Addr} (I1 : Inv X pins σ H1 ⟨hp, g1, d1, t1, os1⟩)
    (ha : hp.objs.size ≤ a) (k : ∀ b o, hp.get? b = some o → hp2.get? b = some o) (un : Un (frs X.stack) [] (upd H1 a (exo a C none)) H2 hp2 h2) (hok : HOk X.prog X.w H2 h2) (ho : os2 = os1) (hb : AllBare g2) (ea : H2 a = some (exo a C none)) :
    ∃ (t0 : Addr) (G : Heap), Inv X pins σ (del H2 a) ⟨G, g2, d2, t2, os2⟩ ∧ (∀ b o, G.get? b = some o → h2.get? b = some o) ∧ G.get? a = none ∧
      h2.get? a = some ({ cls := .ref C, dict := none, data := .fields #[.ref t0, .none, .none, .none, .bool false, .none] } : Obj) := by
  obtain ⟨t0, hoe⟩ := exo_at hok ea
  have hn : H1 a = none := I1.hok.fresh ha
  obtain ⟨G, g1', g2'⟩ := L2.restrict h2 fun b => decide (b ≠ a)
  have gk : ∀ b, b ≠ a → G.get? b = h2.get? b := fun b hb => g1' b (decide_eq_true hb)
  have ge : G.get? a = none := g2' a (by simp)
  have nha : ∀ {b : Addr} {o : Obj}, hp.get? b = some o → b ≠ a := fun {b o} z => Nat.ne_of_lt (Nat.lt_of_lt_of_le (Heap.lt_size z) ha)
  have up : ∀ {b : Addr}, b ≠ a → H1 b = none → upd H1 a (exo a C none) b = none := fun {b} hb n => by rw [upd_ne hb]; exact n
  have U : Un (frs X.stack) [] H1 (del H2 a) hp G := {
    keep := fun b o z n hf hx => by
      rw [gk b (nha z)]
      exact un.keep b o (k b o z) (up (nha z) n) hf hx
    slot := fun b o z n hf hx => by
      rw [gk b (nha z)]
      exact un.slot b o (k b o z) (up (nha z) n) hf hx
    free := fun b o z n hx => by
      rw [del_ne (nha z)]
      exact un.free b o (k b o z) (up (nha z) n) hx
    there := fun b o z hx => by
      rw [gk b (nha z)]
      exact un.there b o (k b o z) hx
    tups := fun b xs z => by
      rw [del_ne (ne_of_none z hn)]
      exact un.tups b xs (by rw [upd_ne (ne_of_none z hn)]; exact z)
    frzs := fun b o v z => by
      rw [del_ne (ne_of_none z hn)]
      exact un.frzs b o v (by rw [upd_ne (ne_of_none z hn)]; exact z)
    tbls := fun b ps z => by
      rw [del_ne (ne_of_none z hn)]
      exact un.tbls b ps (by rw [upd_ne (ne_of_none z hn)]; exact z) }
  have hok3 : HOk X.prog X.w (del H2 a) G := fun b o z => by
    have hba : b ≠ a := fun e => by
      rw [e, del_same] at z
      cases z
    rw [del_ne hba] at z
    have noa : ∀ {c : Addr}, H2 c = some (.own b) → c ≠ a := fun {c} hc => at_ne ea hc exo_own
    exact (hok b o z).stay (fun c v hc y => by
        have hca : c ≠ a := by
          rcases hc with hc | hc
          · rw [hc]
            exact hba
          · exact noa hc
        rw [gk c hca]
        exact y)
      (fun c hc => by rw [del_ne (noa hc)]; exact hc) (fun c xs hc => by rw [del_ne (at_ne ea hc exo_tup)]; exact hc)
  have J : Inv X pins σ (del H2 a) ⟨G, g2, d2, t2, os2⟩ := I1.call' (ch := []) ho U hok3 hb (fun b z => absurd z (by simp))
  refine ⟨t0, G, J, fun b o z => ?_, ge, hoe⟩
  by_cases hba : b = a
  · rw [hba, ge] at z
    cases z
  · exact (gk b hba).symm.trans z
/-- what raise C(..) wishes -/
def tX (C : Addr) (fs : List Str) (ta : TA) : L2.St → Hp → XK → Prop := fun σ H Q => ta σ H fun vs H1 => vs.length = fs.length ∧ (fs = [] → Q (.ref C) none H1) ∧ (fs ≠ [] → ∀ d, H1 d = none → Q (.ref C) (some d) (upd H1 d (.xd ((fs.zip vs).reverse))))
/-- what a class must have -/
structure XcC (X : Cx) (x : Str) (C : Addr) (fs : List Str) : Prop where
  T : OexC X.K C
  mg : X.mg x = some (.ref C)
  fn : ∃ fI fd, PySem.W.findIn X.K (.ref C) "__init__" = some (some (.ref fI)) ∧ PySem.W.typeIn X.K (.ref fI) = some (.type "function") ∧ FnOk X.prog X.w X.K X.mg X.base (CX X.prog X.w) 1 fI fd ("self" :: fs) (xsp C fs) ∧ Binds X.K fd ("self" :: fs) []
  lt : fs.length ≤ 900
theorem mk_x {x : Str} {C : Addr} {fs : List Str} {pins : List (Addr × Obj)} {σ : L2.St} {H1 : Hp} {Q : XK} {s1 : Shared} {us : List Value} {vs : List V} {Wx : WX} (XC : XcC X x C fs) (hr : Room 2 X.A) (tk : Takes X Wx) (I1 : Inv X pins σ H1 s1) (r1 : Vals vs us) (hl : vs.length = fs.length) (q0 : fs = [] → Q (.ref C) none H1) (q1 : fs ≠ [] → ∀ d, H1 d = none → Q (.ref C) (some d) (upd H1 d (.xd ((fs.zip vs).reverse)))) :
    wpAny (model X.prog X.w) X.A (call (.ref C) us) (MkP X pins σ Q) X.xe s1 := by
  obtain ⟨T, hmg, ⟨fI, fd, iC, tI, F1, hb⟩, hlt⟩ := XC
  obtain ⟨nm, q, N, bs, bm, sn, sub, ab, col, dd, k0, k1, k2, k3, k5, hC, hbm⟩ := T.cls
  obtain ⟨hp, g, dr, tok, os⟩ := s1
  have hsz : hp.objs.size ≤ hp.objs.size + 1 := Nat.le_succ _
  have hn : H1 (hp.objs.size + 1) = none := I1.hok.fresh hsz
  have kk : ∀ b o, hp.get? b = some o → ((hp.push (PySem.W.kdv_tup us)).push (PySem.HandSPX.excO C hp.objs.size)).get? b = some o := fun b o e => Heap.get?_push_of_some _ (Heap.get?_push_of_some _ e)
  have hget : ((hp.push (PySem.W.kdv_tup us)).push (PySem.HandSPX.excO C hp.objs.size)).get? (hp.objs.size + 1) = some (PySem.HandSPX.excO C hp.objs.size) := by heap_get
  have I2 : Inv X pins σ (upd H1 (hp.objs.size + 1) (exo (hp.objs.size + 1) C none)) ⟨(hp.push (PySem.W.kdv_tup us)).push (PySem.HandSPX.excO C hp.objs.size), g, dr, tok, os⟩ :=
    I1.laid (t' := tok) (a := hp.objs.size + 1) (o := exo (hp.objs.size + 1) C none) (h' := (hp.push (PySem.W.kdv_tup us)).push (PySem.HandSPX.excO C hp.objs.size)) kk hsz (exo_ok hget)
  have r2 : Vals (V.ref (hp.objs.size + 1) :: vs) (Value.ref (hp.objs.size + 1) :: us) := .cons rfl r1
  have hlu : us.length = fs.length := by rw [← Paired.length r1]; exact hl
  have hus : us.length ≤ sizeLine := by
    rw [hlu, sizeLine_eq]
    omega
  have hsp : xsp C fs (V.ref (hp.objs.size + 1) :: vs) (upd H1 (hp.objs.size + 1) (exo (hp.objs.size + 1) C none)) (fun v H2 => v = .non ∧ ∃ od, XSt H2 (hp.objs.size + 1) C od ((fs.zip vs).reverse) ∧ (∀ b, b ≠ hp.objs.size + 1 → od ≠ some b → H2 b = H1 b) ∧ (∀ b, od = some b → b ≠ hp.objs.size + 1 → H1 b = none) ∧ (fs = [] → od = none)) (fun _ _ _ => False) :=
    ⟨_, vs, rfl, hl, upd_same, fun H' od x' fr' n' k3 => ⟨rfl, od, x', fun b hb ho => by rw [fr' b hb ho, upd_ne hb], fun b e hb => by have := n' b e; rw [upd_ne hb] at this; exact this, k3⟩⟩
  refine wpAny_call (PySem.HandSPX.call_own F.excBase_ValueError (fun Y => PySem.HandSPX.refsVE_contains Y bm hbm) (I1.kIn _ _ hC) (PySem.W.looks_findIn I1.kIn iC) (fun self => PySem.W.bind_fn I1.kIn self tI) hus
    (codeAny_mono (F1.run _ X.stack _ _ ⟨Value.ref (hp.objs.size + 1) :: us, []⟩ (Value.ref (hp.objs.size + 1) :: us) _ _ (fun _ _ _ => False) (hr.make C us []) (I2.env0.make C us []) (by have := hb _ (Value.ref (hp.objs.size + 1) :: us) I2.kIn (by simp [hlu]); rw [List.append_nil] at this; exact this) r2 hsp) fun r s' hq' => ?_))
  cases r with
  | error er => exact tk _ _ (XE.of_call I2 (fun _ _ _ z => z.elim) hq')
  | ok fl =>
    cases fl with
    | ret u =>
      obtain ⟨v, H2, os2, bare2, un2, hok2, rv, ev, od, xst, fr, nw, k3⟩ := hq'
      subst ev
      obtain ⟨h2, g2, d2, t2, os'⟩ := s'
      refine ⟨rv, ?_⟩
      have T2 := raises_own (X := X) T.exC T.tyC
      rcases xst with ⟨rfl, hdone, ea⟩ | ⟨d, rfl, hne, ea, ed⟩
      · have hfs : fs = [] := by
          have : (fs.zip vs).length = 0 := by rw [← List.length_reverse, hdone]; rfl
          rw [List.length_zip, hl, Nat.min_self] at this
          exact List.length_eq_zero_iff.mp this
        obtain ⟨t0, G, J, kG, ge, hoe⟩ := mk_end_n (d2 := d2) (t2 := t2) I1 hsz kk un2 hok2 os2 bare2 ea
        have eH : del H2 (hp.objs.size + 1) = H1 := by
          funext b
          by_cases hb : b = hp.objs.size + 1
          · rw [hb, del_same, hn]
          · rw [del_ne hb]; exact fr b hb (by simp)
        rw [eH] at J
        exact ⟨_, _, _, ⟨G, g2, d2, t2, os'⟩, _, .ref C, none, rfl, J, kG, ge, hoe, ⟨rfl, rfl⟩, rfl, rfl, hn, rfl, bare2, T2, q0 hfs⟩
      · have hd1 : H1 d = none := nw d rfl hne
        have hfs : fs ≠ [] := fun z => by have := k3 z; cases this
        refine mk_end (d2 := d2) (t2 := t2) T2 I1 hsz kk un2 hok2 os2 bare2 ea ed hd1 ?_
        have eH : upd (del H2 (hp.objs.size + 1)) d (.xd ((fs.zip vs).reverse)) = upd H1 d (.xd ((fs.zip vs).reverse)) := by
          funext b
          by_cases hbd : b = d
          · rw [hbd, upd_same, upd_same]
          · rw [upd_ne hbd, upd_ne hbd]
            by_cases hb : b = hp.objs.size + 1
            · rw [hb, del_same, hn]
            · rw [del_ne hb]; exact fr b hb (by simpa using Ne.symm hbd)
        rw [eH]
        exact q1 hfs d hd1
    | next => exact False.elim hq'
    | brk => exact False.elim hq'
    | cont => exact False.elim hq'
theorem pmk_x {x : Str} {C : Addr} {fs : List Str} {Wx : WX} (XC : XcC X x C fs) (hr : Room 2 X.A) (tk : Takes X Wx) (hg : Gl X x) (hdb : (x == ("__debug__" : Str)) = false) (ha : PA X (e :: es) ta)
    (he : starEach (e :: es) X.env = (false, eval e X.env) :: starEach es X.env) (hpl : (backTo pos (starEach es X.env)).any (·.1) = false) : PMk X (.Call (.Name x p) (e :: es) [] pos) (tX C fs ta) := by
  intro pins s σ H Q I h
  refine wpAny_Call_Name_kw (ld_glob I hg XC.mg ?_ hdb)
  refine PySem.W.callWith_K (h₀ := X.base) I.ok.mod.kin XC.T.kC (thn (ha.run pos pins s σ H _ I h) fun us s1 ⟨vs, H1, I1, r1, hl, q0, q1⟩ => ⟨I1.kIn, ?_⟩) he hpl
  exact mk_x XC hr tk I1 r1 hl q0 q1
theorem pmk_x0 {x : Str} {C : Addr} {Wx : WX} (XC : XcC X x C []) (hr : Room 2 X.A) (tk : Takes X Wx) (hg : Gl X x) (hdb : (x == ("__debug__" : Str)) = false) : PMk X (.Call (.Name x p) [] [] pos) (fun σ H Q => Q (.ref C) none H) := by
  intro pins s σ H Q I h
  refine wpAny_Call_Name_kw (ld_glob I hg XC.mg ?_ hdb)
  exact PySem.W.callWith_K0 I.kIn XC.T.kC (mk_x XC hr tk I .nil rfl (fun _ => h) fun z => absurd rfl z)
end
def msRaise (c : Nat) (ks : List Str) (ma : M (List D)) : MS := fun σ h => (ma σ h).then σ fun ws h1 => if ws.length = ks.length then .exc c ((ks.zip ws).reverse) σ h1 else .bad
section
variable {g : Gx}
theorem RKs.snoc {μ : List Addr} {H : Hp} : ∀ {fs : List (Str × D)} {vs : List (Str × V)} {f : Str} {w : D} {v : V}, RKs g μ H fs vs → w.isTl = false → RV g μ H w v → RKs g μ H (fs ++ [(f, w)]) (vs ++ [(f, v)])
  | [], vs, f, w, v, r, nt, q => by rw [show vs = [] from r]; exact ⟨v, [], rfl, nt, q, rfl⟩
  | p :: fs, vs, f, w, v, r, nt, q => by
    obtain ⟨v', rr, rfl, nt', q', z⟩ := r
    exact ⟨v', _, rfl, nt', q', RKs.snoc z nt q⟩
theorem rks_zip {μ : List Addr} {H : Hp} : ∀ {ks : List Str} {ws : List D} {vs : List V}, RVs g μ H ws vs → RKs g μ H ((ks.zip ws).reverse) ((ks.zip vs).reverse)
  | [], ws, vs, r => rfl
  | k :: ks, [], vs, r => by rw [show vs = [] from r]; rfl
  | k :: ks, w :: ws, vs, r => by
    obtain ⟨v, rr, rfl, nt, q, z⟩ := r
    simp only [List.zip_cons_cons, List.reverse_cons]
    exact RKs.snoc (rks_zip z) nt q
/-- an exception class of the module -/
def XcF (P : Program) (w : World) (K : PySem.W.Frag) (mg : Str → Option Value) (base : Heap) (g : Gx) (c : Nat) (x : Str) (fs : List Str) : Prop :=
  ∃ C, g.ca c = some C ∧ OexC K C ∧ mg x = some (.ref C) ∧ fs.length ≤ 900 ∧ ∃ fI fd, PySem.W.findIn K (.ref C) "__init__" = some (some (.ref fI)) ∧ PySem.W.typeIn K (.ref fI) = some (.type "function") ∧ FnOk P w K mg base (CX P w) 1 fI fd ("self" :: fs) (xsp C fs) ∧ Binds K fd ("self" :: fs) []
variable {FS : FST} {k : Nat} {cl : Cll} {N : List Str} {sc : Scope} {fq : Str → Bool} {X : Cx} {Wx : WX} {pos p pos' : Pos} {x : Str} {c : Nat} {ks : List Str} {e : Expr} {es : List Expr} {ms : List (M D)}
theorem raise_out {C : Addr} {σw : Sg} {h : Hh} {σ : L2.St} {H : Hp} {μ : List Addr} {E : Ends} {ws : List D} {vs : List V} (hC : g.ca c = some C) (hl : ws.length = ks.length) (rs : RS g μ H σw σ) (rh : RH g μ h H) (qs : RVs g μ H ws vs) (po : PoS g Wx μ H (.exc c ((ks.zip ws).reverse) σw h) E) :
    vs.length = ks.length ∧ (ks = [] → Wx (.ref C) none σ H) ∧ (ks ≠ [] → ∀ d, H d = none → Wx (.ref C) (some d) σ (upd H d (.xd ((ks.zip vs).reverse)))) := by
  have l1 := qs.length
  refine ⟨by omega, fun hk => ?_, fun hk d nd => ?_⟩
  · subst hk
    exact po μ H σ _ none (Ext.refl rh.trk) rh rs ⟨C, [], hC, rfl, .inl ⟨rfl, rfl⟩, rfl⟩
  · have x1 : Ext μ H μ (upd H d (.xd ((ks.zip vs).reverse))) := .new rh.trk nd
    exact po μ _ σ _ (some d) x1 (rh.new nd) (rs.ext rh.trk x1) ⟨C, (ks.zip vs).reverse, hC, rfl, .inr ⟨d, rfl, upd_same⟩, rks_zip (qs.ext rh.trk x1)⟩
theorem Good.qraise (G : Good FS g k cl N sc fq X Wx) (h : okG sc x = true) (hx : XcF X.prog X.w X.K X.mg X.base g c x ks) (hs : nSts (e :: es) = true) (ha : QA g X Wx (e :: es) (mArgs ms)) : QS g X Wx (.Raise (some (.Call (.Name x p) (e :: es) [] pos)) none pos') (msRaise c ks (mArgs ms)) := by
  obtain ⟨h1, h2, h3⟩ := G.gl h
  obtain ⟨C, hC, T, hm, hlt, fn⟩ := hx
  simp only [nSts, Bool.and_eq_true] at hs
  refine ⟨fun σw h σ H μ E rs rh po => ?_⟩
  have hr : Room 2 X.A := G.room.mono (by omega)
  refine psAt (ps_raise G.calm G.tk (pmk_x ⟨T, hm, fn, hlt⟩ hr G.tk h1 h2 pa_of (star1 hs.1) (starN hs.2))) ?_
  unfold msRaise at po
  refine ha.p σw h σ H μ _ rs rh ((PoS.then rs rh po).imp fun ws h1 μ1 H1 x1 r1 p1 vs qs => ?_)
  have p2 := p1 μ1 H1 x1
  by_cases hl : ws.length = ks.length
  · rw [if_pos hl] at p2
    exact raise_out hC hl (rs.ext rh.trk x1) r1 qs p2
  · rw [if_neg hl] at p2
    exact p2.elim
theorem Good.qraise0 (G : Good FS g k cl N sc fq X Wx) (h : okG sc x = true) (hx : XcF X.prog X.w X.K X.mg X.base g c x []) : QS g X Wx (.Raise (some (.Call (.Name x p) [] [] pos)) none pos') (msRaise c [] (mArgs [])) := by
  obtain ⟨h1, h2, h3⟩ := G.gl h
  obtain ⟨C, hC, T, hm, hlt, fn⟩ := hx
  refine ⟨fun σw h σ H μ E rs rh po => ?_⟩
  have hr : Room 2 X.A := G.room.mono (by omega)
  refine psAt (ps_raise G.calm G.tk (pmk_x0 ⟨T, hm, fn, hlt⟩ hr G.tk h1 h2)) ?_
  exact (raise_out (ws := []) (vs := []) hC rfl rs rh rfl po).2.1 rfl
end
end PV
end
section
set_option maxHeartbeats 4000000
/-! PVA42: attributes of instances and of caught exceptions; isinstance of own classes. -/
namespace PV
open PySem PySem.Spec PyProof.Rows L2
/-! ### attributes -/
section
variable {X : Cx} {e : Expr} {te : TE} {pos : Pos} {f : Str}
def tFx (K : PySem.W.Frag) (te : TE) (f : Str) : TE := fun σ H Q => te σ H fun x H1 => ∃ a C, x = .ref a ∧ ((∃ dx fs v, H1 a = some (.ins C dx fs) ∧ Cls K C ∧ NoAttr K C f ∧ fs.lookup f = some v ∧ Q v H1) ∨
  ∃ dd fs v, H1 a = some (ExV (.ref C) (some dd) a) ∧ XfC K C ∧ PySem.W.findIn K (.ref C) f = some none ∧ H1 dd = some (.xd fs) ∧ fs.lookup f = some v ∧ Q v H1)
theorem pe_fx (he : PE X e te) (hb : attributeBase e f X.env (eval e X.env) = eval e X.env) : PE X (.Attribute e f pos) (tFx X.K te f) := by
  refine ⟨fun pins s σ H Q I h => ?_⟩
  refine attr_of hb (thn (he.run pins s σ H _ I h) fun u s1 hh => ?_)
  obtain ⟨x, H1, I1, rx, a, C, ex, hh⟩ := hh
  subst ex
  obtain rfl : u = Value.ref a := rx
  rcases hh with ⟨dx, fs, v, ea, c, n, l, q⟩ | ⟨dd, fs, v, ea, T, hno, ed, l, q⟩
  · exact getattr_ok I1 ea c n l fun u s' J r => ⟨v, H1, J, r, q⟩
  · obtain ⟨⟨oe, vs, ha, hz, hd⟩, _, _⟩ := (show ObjOk X.prog X.w H1 s1.heap a (ExV (.ref C) (some dd) a) from I1.hok a _ ea)
    have hx : ObjOk X.prog X.w H1 s1.heap dd (.xd fs) := I1.hok dd _ ed
    obtain ⟨mA, hns, hr⟩ := hx
    obtain ⟨od, ho, hl⟩ := lookIn_ns hns
    obtain ⟨u, hu, ru⟩ := RelO.some_of (v := v) (o := mA f) (by rw [← l]; exact hr f)
    have J : PySem.W.InstAt s1.heap a oe C (some od) := ⟨ha, hz.1, by unfold PySem.W.notCls; rw [hd] <;> rfl, by rw [hz.2]; exact ho⟩
    exact HandSPX.exc_get I1.kIn J T.ga T.gg T.exC (PySem.W.findObj_own T.hdC hno rfl (by rw [hl, hu])) (handed_of ru) ⟨v, H1, I1.tok _, ru, q⟩
end
def fldX (f : Str) (x : D) (h : Hh) : R D := match x with
  | .xc c ks ws => if 100 ≤ c then match (ks.zip ws).lookup f with
      | some w => .ok w h
      | none => .bad
    else .bad
  | x => fldW f x h
def mFldX (f : Str) (m : M D) : M D := fun σ h => (m σ h).bind (fldX f)
/-- attribute fl may be read on exceptions -/
def XfF (K : PySem.W.Frag) (g : Gx) (fl : Str) : Prop := ∀ c C, 100 ≤ c → g.ca c = some C → XfC K C ∧ PySem.W.findIn K (.ref C) fl = some none
section
variable {g : Gx} {X : Cx} {Wx : WX} {e : Expr} {me : M D} {f : Str} {pos : Pos}
theorem zip_lookup {μ : List Addr} {H : Hp} : ∀ {ks : List Str} {ws : List D} {vs : List V} {w : D}, RVs g μ H ws vs → (ks.zip ws).lookup f = some w → ∃ v, (ks.zip vs).lookup f = some v ∧ w.isTl = false ∧ RV g μ H w v
  | [], ws, vs, w, r, e => by cases e
  | k :: ks, [], vs, w, r, e => by cases e
  | k :: ks, w0 :: ws, vs, w, r, e => by
    obtain ⟨v, rr, rfl, nt, q, z⟩ := r
    rw [List.zip_cons_cons, List.lookup_cons] at e
    show ∃ v', List.lookup f ((k, v) :: ks.zip rr) = some v' ∧ _
    rw [List.lookup_cons]
    cases hk : f == k
    · rw [hk] at e
      exact zip_lookup z e
    · rw [hk] at e
      cases e
      exact ⟨v, rfl, nt, q⟩
theorem se_fldX (he : SE g X Wx e me) (hc : ∀ c C, c < 100 → g.ca c = some C → Cls X.K C ∧ NoAttr X.K C f) (hx : XfF X.K g f) (hb : attributeBase e f X.env (eval e X.env) = eval e X.env) : SE g X Wx (.Attribute e f pos) (mFldX f me) := by
  intro σw h σ H μ Q rs rh po
  refine peAt (pe_fx pe_of hb) (he σw h σ H μ _ rs rh (po.bind.imp fun x h1 μ1 H1 x1 r1 p1 v qv fv => ?_))
  unfold fldX at p1
  split at p1
  · rename_i c ks ws
    split at p1
    · rename_i hc100
      split at p1
      · rename_i w el
        obtain ⟨a, C, d, vs, rfl, hC, ha, hl, hd, z⟩ := qv
        obtain ⟨v', ev, nt, q⟩ := zip_lookup z el
        obtain ⟨T, hno⟩ := hx c C hc100 hC
        rcases hd with ⟨hk, hd⟩ | ⟨dd, rfl, ed⟩
        · subst hk; cases el
        · exact ⟨a, C, rfl, .inr ⟨dd, _, v', ha, T, hno, ed, ev, p1.at r1 v' q (.of nt)⟩⟩
      · exact p1.elim
    · exact p1.elim
  · unfold fldW at p1
    split at p1
    · rename_i i _
      split at p1
      · rename_i c fs ec
        split at p1
        · rename_i hlt
          split at p1
          · rename_i w el
            obtain ⟨a, C, dx, vs, rfl, ea, hC, hb, z⟩ := ins_at r1 qv ec
            obtain ⟨v', ev, nt, q⟩ := z.lookup el
            obtain ⟨c1, c2⟩ := hc c C hlt hC
            exact ⟨a, C, rfl, .inl ⟨dx, vs, v', hb, c1, c2, ev, p1.at r1 v' q (.of nt)⟩⟩
          · exact p1.elim
        · exact p1.elim
      · exact p1.elim
    · exact p1.elim
end
/-! ### isinstance -/
structure KxC (K : PySem.W.Frag) (C : Addr) : Prop where
  cl : (PySem.W.clsIn K C).isSome = true
  hga : PySem.W.findIn K (.ref C) "__getattribute__" = some (some (.builtin "BaseException.__getattribute__"))
  hgt : PySem.W.findIn K (.ref C) "__getattr__" = some none
  hsub : PySem.W.subIn K (.ref C) (.type "BaseException") = some true
  ha : PySem.W.findIn K (.ref C) "__class__" = some (some (.builtin "object.__class__"))
  hm : PySem.W.mroIn K C (.type "object") = some true
structure KxG (K : PySem.W.Frag) : Prop where
  hn : PySem.W.specialIn K (.builtin "object.__class__") "__get__" = some (some (.builtin "getset_descriptor.__get__"))
  ht : PySem.W.takesIn K (.builtin "object.__class__") = some true
structure KiC (K : PySem.W.Frag) (C : Addr) : Prop where
  cl : Cls K C
  ha : PySem.W.findIn K (.ref C) "__class__" = some (some (.builtin "object.__class__"))
  hm : PySem.W.mroIn K C (.type "object") = some true
/-- the type of a value, as isinstance sees it -/
inductive TyZ (K : PySem.W.Frag) (H : Hp) : V → Value → Prop
  | base {x : V} {t : Value} (h : TyX K H x t) : TyZ K H x t
  | exc {a C : Addr} {d : Option Addr} (e : H a = some (ExV (.ref C) d a)) (hd : ∀ dd, d = some dd → ∃ fs, H dd = some (.xd fs)) (G : KxG K) (k : KxC K C) : TyZ K H (.ref a) (.ref C)
section
variable {X : Cx} {pins : List (Addr × Obj)} {σ : L2.St} {H : Hp} {s : Shared}
theorem kit_ofZ {x : V} {u t : Value} (I : Inv X pins σ H s) (rx : RelV x u) (ty : TyZ X.K H x t) : ∃ P : Heap → Prop, PySem.W.KitX X.K u t P ∧ P s.heap ∧ u ≠ .builtin "__main__.__loader__#opaque" := by
  cases ty with
  | base h => exact kit_of I rx h
  | @exc a C d ea hd G k =>
    cases (show u = Value.ref a from rx)
    obtain ⟨⟨oe, vs, ha, hz, hdt⟩, _, _⟩ := (show ObjOk X.prog X.w H s.heap a (ExV (.ref C) d a) from I.hok a _ ea)
    cases d with
    | none =>
      have J : PySem.W.InstAt s.heap a oe C none := ⟨ha, hz.1, by unfold PySem.W.notCls; rw [hdt] <;> rfl, by rw [hz.2]; trivial⟩
      exact ⟨_, PySem.W.kitx_exc k.cl k.hga k.hgt k.hsub k.ha G.hn G.ht k.hm, J, fun z => nomatch z⟩
    | some dd =>
      obtain ⟨fs, ed⟩ := hd dd rfl
      obtain ⟨mA, hns, hr⟩ := (show ObjOk X.prog X.w H s.heap dd (.xd fs) from I.hok dd _ ed)
      obtain ⟨od, ho, hl⟩ := lookIn_ns hns
      have J : PySem.W.InstAt s.heap a oe C (some od) := ⟨ha, hz.1, by unfold PySem.W.notCls; rw [hdt] <;> rfl, by rw [hz.2]; exact ho⟩
      exact ⟨_, PySem.W.kitx_exc k.cl k.hga k.hgt k.hsub k.ha G.hn G.ht k.hm, J, fun z => nomatch z⟩
def rIsZ (K : PySem.W.Frag) : List V → Hp → VK → Prop := fun xs H Q => ∃ (x c : V) (t u : Value) (b : Bool), xs = [x, c] ∧ ClsV c u ∧ TyZ K H x t ∧ PySem.W.kitOne K t u = some b ∧ Q (.bl b) H
def rIsZT (K : PySem.W.Frag) : List V → Hp → VK → Prop := fun xs H Q => ∃ (x : V) (tp : Addr) (cs : List V) (t : Value) (us : List Value) (b : Bool), xs = [x, .ref tp] ∧ H tp = some (.tup cs) ∧ Paired ClsV cs us ∧ TyZ K H x t ∧ PySem.W.kitAny K t us = some b ∧ Q (.bl b) H
theorem call_isZ : CallR X (.builtin "isinstance") (rIsZ X.K) := by
  intro pins s σ H xs us Q I r h
  obtain ⟨x, c, t, u, b, rfl, k, ty, e, q⟩ := h
  obtain ⟨u1, u2, rfl, r1, r2⟩ := vals2 r
  have e2 := k.eq r2
  subst e2
  obtain ⟨P, Z, p, hx⟩ := kit_ofZ I r1 ty
  exact PySem.W.kia_one Z I.kIn p e hx fun tk => ⟨.bl b, H, I.tok tk, rfl, q⟩
theorem call_isZT : CallR X (.builtin "isinstance") (rIsZT X.K) := by
  intro pins s σ H xs us Q I r h
  obtain ⟨x, tp, cs, t, ws, b, rfl, hT, k, ty, e, q⟩ := h
  obtain ⟨u1, u2, rfl, r1, r2⟩ := vals2 r
  cases (show u2 = Value.ref tp from r2)
  obtain ⟨P, Z, p, hx⟩ := kit_ofZ I r1 ty
  obtain ⟨_, its, rv, o, h1, h2, n, h3⟩ := (show ObjOk X.prog X.w H s.heap tp (.tup cs) from I.hok tp _ hT)
  have e3 := ClsV.all k rv
  subst e3
  obtain ⟨oc, od, dt, sl⟩ := o
  simp only at h2 h3
  subst h2 h3
  exact PySem.W.kia_tup Z I.kIn p h1 e hx fun tk => ⟨.bl b, H, I.tok tk, rfl, q⟩
end
/-- a type as a number: own classes below, built-in types by name -/
inductive Tn where
  | own (c : Nat) | bt (n : String)
  deriving DecidableEq
def tnOf (h : Hh) (x : D) : Option Tn := match x with
  | .xc c _ _ => if 100 ≤ c then some (.own c) else none
  | .ref i => match h[i]? with
    | some (.ins c _) => if c < 100 then some (.own c) else none
    | _ => (tyD h (.ref i)).map .bt
  | x => (tyD h x).map .bt
/-- own classes: 100 is the base of all exceptions -/
def isiT (t : Tn) (y : D) : Option Bool := match t, y with
  | .own c, .cls d => some (c == d || (d == 100 && decide (100 ≤ c)))
  | .own c, .ty n => if n = "ValueError" then some (decide (100 ≤ c)) else none
  | .bt _, .cls _ => some false
  | .bt t, .ty n => if n = "ValueError" then some false else kitB t n
  | _, _ => none
def isiTs (t : Tn) : List D → Option Bool
  | [] => some false
  | y :: ys => match isiT t y, isiTs t ys with
    | some b, some c => some (b || c)
    | _, _ => none
def isiX (x y : D) (h : Hh) : R D := match tnOf h x with
  | some t => match y with
    | .tup ys => match isiTs t ys with
      | some b => .ok (.bl b) h
      | none => .bad
    | y => match isiT t y with
      | some b => .ok (.bl b) h
      | none => .bad
  | none => .bad
/-- what the module must say of its classes -/
structure KF (K : PySem.W.Frag) (g : Gx) : Prop where
  G : KxG K
  xc : ∀ c C, 100 ≤ c → g.ca c = some C → KxC K C
  ins : ∀ c C, c < 100 → g.ca c = some C → KiC K C
  oo : ∀ c C d E, g.ca c = some C → g.ca d = some E → PySem.W.kitOne K (.ref C) (.ref E) = some (c == d || (d == 100 && decide (100 ≤ c)))
  ov : ∀ c C, g.ca c = some C → PySem.W.kitOne K (.ref C) (.type "ValueError") = some (decide (100 ≤ c))
  bo : ∀ d E (t : String), t ∈ ["NoneType", "bool", "int", "str", "tuple", "list", "dict"] → g.ca d = some E → PySem.W.kitOne K (.type t) (.ref E) = some false
  bv : ∀ (t : String), t ∈ ["NoneType", "bool", "int", "str", "tuple", "list", "dict"] → PySem.W.kitOne K (.type t) (.type "ValueError") = some false
section
variable {g : Gx} {X : Cx} {Wx : WX} {μ : List Addr} {h : Hh} {H : Hp}
def tnV (g : Gx) (t : Tn) (tv : Value) : Prop := match t with
  | .own c => ∃ C, g.ca c = some C ∧ tv = .ref C
  | .bt n => tv = .type n ∧ n ∈ ["NoneType", "bool", "int", "str", "tuple", "list", "dict"]
theorem tyD_mem {x : D} {t : String} (e : tyD h x = some t) : t ∈ ["NoneType", "bool", "int", "str", "tuple", "list", "dict"] := by
  unfold tyD at e
  split at e <;> first
    | (cases e; decide)
    | (split at e <;> first
      | (cases e; decide)
      | cases e)
    | cases e
theorem tn_ok {x : D} {vx : V} {t : Tn} (k : KF X.K g) (hK : X.K = g.K) (rh : RH g μ h H) (qx : RV g μ H x vx) (e : tnOf h x = some t) : ∃ tv, TyZ X.K H vx tv ∧ tnV g t tv := by
  have bt : ∀ {t : Tn}, (tyD h x).map Tn.bt = some t → ∃ tv, TyZ X.K H vx tv ∧ tnV g t tv := fun {t} e => by
    cases et : tyD h x with
    | none => rw [et] at e; cases e
    | some n =>
      rw [et] at e
      cases e
      exact ⟨.type n, .base (by rw [hK]; exact tyD_ok rh qx et), rfl, tyD_mem et⟩
  unfold tnOf at e
  split at e
  · rename_i c ks ws
    split at e
    · rename_i hc
      cases e
      obtain ⟨a, C, d, vs, rfl, hC, ha, hl, hd, z⟩ := qx
      refine ⟨.ref C, .exc ha (fun dd ed => ?_) k.G (k.xc c C hc hC), C, hC, rfl⟩
      rcases hd with ⟨_, hd⟩ | ⟨dx, e1, e2⟩
      · rw [hd] at ed; cases ed
      · rw [e1] at ed; cases ed; exact ⟨_, e2⟩
    · cases e
  · rename_i i
    split at e
    · rename_i c fs ec
      split at e
      · rename_i hc
        cases e
        obtain ⟨a, C, dx, vs, rfl, ea, hC, hb, z⟩ := ins_at rh qx ec
        have ki := k.ins c C hc hC
        exact ⟨.ref C, .base (.base (.ins hb ki.cl ki.ha k.G.hn k.G.ht ki.hm)), C, hC, rfl⟩
      · cases e
    · exact bt e
  · exact bt e
theorem isiT_ok {t : Tn} {tv : Value} {y : D} {vy : V} {b : Bool} (k : KF X.K g) (ht : tnV g t tv) (qy : RV g μ H y vy) (e : isiT t y = some b) : ∃ u, ClsV vy u ∧ PySem.W.kitOne X.K tv u = some b := by
  unfold isiT at e
  split at e
  · cases e
    obtain ⟨C, hC, rfl⟩ := ht
    obtain ⟨E, hE, rfl⟩ := qy
    exact ⟨.ref E, .own E, k.oo _ _ _ _ hC hE⟩
  · split at e
    · rename_i hn
      cases e
      obtain ⟨C, hC, rfl⟩ := ht
      subst hn
      rw [show vy = .ty "ValueError" from qy]
      exact ⟨_, .ty _, k.ov _ _ hC⟩
    · cases e
  · cases e
    obtain ⟨rfl, hm⟩ := ht
    obtain ⟨E, hE, rfl⟩ := qy
    exact ⟨.ref E, .own E, k.bo _ _ _ hm hE⟩
  · obtain ⟨rfl, hm⟩ := ht
    rename_i n
    rw [show vy = .ty n from qy]
    split at e
    · rename_i hn
      cases e
      subst hn
      exact ⟨_, .ty _, k.bv _ hm⟩
    · exact ⟨_, .ty _, kit_ty e⟩
  · cases e
theorem isiTs_ok {t : Tn} {tv : Value} (k : KF X.K g) (ht : tnV g t tv) : ∀ {ys : List D} {vs : List V} {b : Bool}, RVs g μ H ys vs → isiTs t ys = some b → ∃ us, Paired ClsV vs us ∧ PySem.W.kitAny X.K tv us = some b
  | [], vs, b, r, e => by
    rw [show vs = [] from r]
    cases e
    exact ⟨[], .nil, rfl⟩
  | y :: ys, vs, b, r, e => by
    obtain ⟨v, rr, rfl, nt, q, z⟩ := r
    unfold isiTs at e
    split at e
    · rename_i b1 c1 e1 e2
      cases e
      obtain ⟨us, pu, ku⟩ := isiTs_ok k ht z e2
      obtain ⟨u, cu, k1⟩ := isiT_ok k ht q e1
      refine ⟨u :: us, .cons cu pu, ?_⟩
      simp only [PySem.W.kitAny, k1]
      cases b1
      · simpa using ku
      · rfl
    · cases e
theorem sc_isX (k : KF X.K g) (hK : X.K = g.K) : SC2 g X Wx (.builtin "isinstance") isiX := by
  intro x y h σ H μ vx vy Q rh qx qy po
  unfold isiX at po
  split at po
  · rename_i t et
    obtain ⟨tv, ty, ht⟩ := tn_ok k hK rh qx et
    split at po
    · rename_i ys
      split at po
      · rename_i b eb
        obtain ⟨tp, cs, rfl, hT, z⟩ := qy
        obtain ⟨us, pu, ku⟩ := isiTs_ok k ht z eb
        exact crAt call_isZT ⟨vx, tp, cs, tv, us, b, rfl, hT, pu, ty, ku, po.at rh _ rfl (.of rfl)⟩
      · exact po.elim
    · split at po
      · rename_i b eb
        obtain ⟨u, cu, k1⟩ := isiT_ok k ht qy eb
        exact crAt call_isZ ⟨vx, vy, tv, u, b, rfl, cu, ty, k1, po.at rh _ rfl (.of rfl)⟩
      · exact po.elim
  · exact po.elim
end
end PV
end
section
set_option maxHeartbeats 4000000
/-! PVA43: exceptions, in the form that generated proofs use. -/
namespace PV
open PySem PySem.Spec PyProof.Rows L2
/-- attribute fl may be read -/
def AtX (K : PySem.W.Frag) (g : Gx) (fl : Str) : Prop := AtF K g fl ∧ XfF K g fl
/-- the class called x has the number c -/
def ClF (mg : Str → Option Value) (g : Gx) (x : Str) (c : Nat) : Prop := ∃ C, mg x = some (.ref C) ∧ g.ca c = some C
/-- the clause 'except x' takes just the classes L -/
def ChF (K : PySem.W.Frag) (mg : Str → Option Value) (g : Gx) (x : Str) (L : List Nat) : Prop := ∃ C, mg x = some (.ref C) ∧ ∀ c C', 100 ≤ c → g.ca c = some C' → PySem.W.exmOne K (.ref C') (.ref C) = some (L.contains c)
/-- what an except suite's context offers -/
structure Good0 (FS : FST) (g : Gx) (k : Nat) (cl : Cll) (N : List Str) (sc : Scope) (X : Cx) : Prop where
  K : X.K = g.K
  eN : X.N = N
  nd : N.Nodup
  sc : X.env.scope = sc
  un : X.A.units + 65 < cLine
  gd : X.A.guards = some []
  fs : FS X.prog X.w X.K X.mg X.base g k cl
section
variable {FS : FST} {g : Gx} {k : Nat} {cl : Cll} {N : List Str} {sc : Scope} {fq : Str → Bool} {X : Cx} {Wx : WX} {pos p np pos' : Pos} {x n fl : Str} {i c : Nat} {e a : Expr} {me ma : M D} {L : List Nat} {ms : MS} {b₀ : Stmt} {suite : List Stmt} {hds : List ExceptHandler} {hs : List Hdl}
theorem Good.su (G : Good FS g k cl N sc fq X Wx) (a : Addr) : Good0 FS g k cl N sc (X.suite a X.pn) := ⟨G.K, G.eN, G.nd, G.sc, G.un, G.gd, G.fs⟩
theorem Good.qfldX (G : Good FS g k cl N sc fq X Wx) (ha : AtX X.K g fl) (hb : nC1 e = true) (he : QE g X Wx e me) : QE g X Wx (.Attribute e fl pos) (mFldX fl me) := ⟨se_fldX he.p ha.1 ha.2 (attB1 hb)⟩
theorem Good.qcls (G : Good FS g k cl N sc fq X Wx) (h : okG sc x = true) (hc : ClF X.mg g x c) : QE g X Wx (.Name x pos) (mC (.cls c)) := by
  obtain ⟨C, hm, hC⟩ := hc
  exact ⟨G.con (v := .ref C) h hm rfl rfl fun _ _ => ⟨C, hC, rfl⟩⟩
theorem Good.cisiX (G : Good FS g k cl N sc fq X Wx) (kf : KF X.K g) : QC2 g X Wx (.builtin "isinstance") isiX := ⟨sc_isX kf G.K⟩
theorem Good0.qvar (G : Good0 FS g k cl N sc X) (i : Nat) (h : okV N sc i x = true) : QE g X Wx (.Name x pos) (mV i) := by
  unfold okV at h
  simp only [Bool.and_eq_true, Bool.not_eq_true', decide_eq_true_eq] at h
  obtain ⟨⟨⟨h1, h2⟩, h3⟩, h4⟩ := h
  refine ⟨se_var (by rw [G.eN]; exact h1) ?_ h3 h4⟩
  rw [G.sc]
  unfold Vis
  split at h2
  · exact .inl ‹_›
  · exact .inr (.inl ‹_›)
  · exact .inr (.inr ‹_›)
  · cases h2
theorem Good0.qtgt (G : Good0 FS g k cl N sc X) (i : Nat) (h : okL N sc i x = true) : QG g X (.Name x pos) (.nm i) := by
  unfold okL at h
  simp only [Bool.and_eq_true, decide_eq_true_eq] at h
  obtain ⟨h1, h2⟩ := h
  refine ⟨sg_name (by rw [G.eN]; exact G.nd) (by rw [G.eN]; exact h1) ?_ ?_⟩
  · rw [G.sc]
    unfold L2.Loc
    split at h2
    · exact .inl ‹_›
    · cases h2
  · rw [G.sc]
    split at h2
    · exact .inr ‹_›
    · cases h2
theorem Good0.qfldX (G : Good0 FS g k cl N sc X) (ha : AtX X.K g fl) (hb : nC1 e = true) (he : QE g X Wx e me) : QE g X Wx (.Attribute e fl pos) (mFldX fl me) := ⟨se_fldX he.p ha.1 ha.2 (attB1 hb)⟩
theorem Good0.gl (G : Good0 FS g k cl N sc X) (h : okG sc x = true) : Gl X x ∧ (x == ("__debug__" : Str)) = false ∧ x ≠ "__name__" := by
  unfold okG at h
  simp only [Bool.and_eq_true, Bool.not_eq_true', decide_eq_false_iff_not] at h
  obtain ⟨⟨h1, h2⟩, h3⟩ := h
  refine ⟨?_, h2, h3⟩
  unfold Gl Env.kindOf
  rw [G.sc]
  split at h1
  · rename_i e; exact e
  · cases h1
theorem Good0.qf1 (G : Good0 FS g k cl N sc X) {bv : Value} {ff : D → Hh → R D} (h : okG sc x = true) (hm : X.mg x = none) (hv : bootBuiltins x = some bv) (hb : isBt bv = true) (s : QC1 g X Wx bv ff) (hs : nSt a = true) (ha : QE g X Wx a ma) : QE g X Wx (.Call (.Name x p) [a] [] pos) (mF1 ff ma) := by
  obtain ⟨h1, h2, h3⟩ := G.gl h
  exact ⟨se_b1 s.p hb h1 hm hv h3 h2 (starL hs) ha.p⟩
theorem Good0.creprX (G : Good0 FS g k cl N sc X) : QC1 g X Wx (.builtin "repr") reprX := ⟨sc_reprX G.K G.gd G.un⟩
theorem Good.nm (G : Good FS g k cl N sc fq X Wx) (h : okG sc x = true) {C : Addr} (hm : X.mg x = some (.ref C)) : Names X x (.ref C) := by
  obtain ⟨h1, h2, h3⟩ := G.gl h
  exact ⟨h1, h2, .inl hm⟩
theorem Good.qhAs (G : Good FS g k cl N sc fq X Wx) (i : Nat) (h : okG sc x = true) (hl : okL N sc i n = true) (hc : ChF X.K X.mg g x L) (hsu : ∀ X', Good0 FS g k cl N sc X' → QL g X' (fun _ _ _ _ => False) (b₀ :: suite) ms) (r : HdQ g X hds hs) :
    HdQ g X (.ExceptHandler (some (.Name x np)) (some n) (b₀ :: suite) pos' :: hds) ((L, some i, ms) :: hs) := by
  obtain ⟨C, hm, hx⟩ := hc
  obtain ⟨h1, h2⟩ := G.loc hl
  exact .as (G.nm h hm) h1 h2 hx (fun a => (hsu _ (G.su a)).p) r
theorem Good.qhNo (G : Good FS g k cl N sc fq X Wx) (h : okG sc x = true) (hc : ChF X.K X.mg g x L) (hsu : ∀ X', Good0 FS g k cl N sc X' → QL g X' (fun _ _ _ _ => False) (b₀ :: suite) ms) (r : HdQ g X hds hs) :
    HdQ g X (.ExceptHandler (some (.Name x np)) none (b₀ :: suite) pos' :: hds) ((L, none, ms) :: hs) := by
  obtain ⟨C, hm, hx⟩ := hc
  exact .no (G.nm h hm) hx (fun a => (hsu _ (G.su a)).p) r
theorem qs_try {body : List Stmt} {h₀ : ExceptHandler} {mb : MS} (hp : HP X) (G : Good FS g k cl N sc fq X Wx) (hb : ∀ (X' : Cx) (Wx' : WX), Good FS g k cl N sc fq X' Wx' → HP X' → QL g X' Wx' body mb) (hh : HdQ g X (h₀ :: hds) hs) : QS g X Wx (.Try body (h₀ :: hds) [] [] pos) (msTry mb hs) := ⟨ss_try hp G hb hh⟩
end
/-! ### the module's side -/
section
variable {P : Nat → Addr → Prop} {l : List (Nat × Addr)} {n : Nat} {A : Addr}
theorem cx_nil : ∀ c C, 100 ≤ c → ([] : List (Nat × Addr)).lookup c = some C → P c C := fun c C _ e => by cases e
theorem cx_cons (h : P n A) (t : ∀ c C, 100 ≤ c → l.lookup c = some C → P c C) : ∀ c C, 100 ≤ c → ((n, A) :: l).lookup c = some C → P c C := fun c C hc e => by
  rw [List.lookup_cons] at e
  cases hk : c == n
  · rw [hk] at e; exact t c C hc e
  · have e1 : c = n := by simpa using hk
    subst e1
    rw [hk] at e; cases e; exact h
theorem cx_skip (h : decide (n < 100) = true) (t : ∀ c C, 100 ≤ c → l.lookup c = some C → P c C) : ∀ c C, 100 ≤ c → ((n, A) :: l).lookup c = some C → P c C := fun c C hc e => by
  rw [List.lookup_cons] at e
  cases hk : c == n
  · rw [hk] at e; exact t c C hc e
  · have e1 : c = n := by simpa using hk
    have h1 := of_decide_eq_true h
    omega
end
theorem lookup_mem {l : List (Nat × Addr)} {c : Nat} {C : Addr} (e : l.lookup c = some C) : (c, C) ∈ l := by
  induction l with
  | nil => cases e
  | cons p l ih =>
    obtain ⟨n, A⟩ := p
    rw [List.lookup_cons] at e
    cases hk : c == n
    · rw [hk] at e; exact List.mem_cons_of_mem _ (ih e)
    · have e1 : c = n := by simpa using hk
      rw [hk] at e; cases e; subst e1
      exact List.mem_cons_self
def tys : List String := ["NoneType", "bool", "int", "str", "tuple", "list", "dict"]
def kxB (K : PySem.W.Frag) (C : Addr) : Bool := (PySem.W.clsIn K C).isSome && (He.eqO (PySem.W.findIn K (.ref C) "__getattribute__") (some (some (.builtin "BaseException.__getattribute__"))) && (He.eqO (PySem.W.findIn K (.ref C) "__getattr__") (some none) && (decide (PySem.W.subIn K (.ref C) (.type "BaseException") = some true) &&
  (He.eqO (PySem.W.findIn K (.ref C) "__class__") (some (some (.builtin "object.__class__"))) && decide (PySem.W.mroIn K C (.type "object") = some true)))))
theorem kxB_ok {K : PySem.W.Frag} {C : Addr} (h : kxB K C = true) : KxC K C := by
  unfold kxB at h
  obtain ⟨h1, h⟩ := He.ba h
  obtain ⟨h2, h⟩ := He.ba h
  obtain ⟨h3, h⟩ := He.ba h
  obtain ⟨h4, h⟩ := He.ba h
  obtain ⟨h5, h6⟩ := He.ba h
  exact ⟨h1, He.eqO_ok h2, He.eqO_ok h3, of_decide_eq_true h4, He.eqO_ok h5, of_decide_eq_true h6⟩
def clsB (K : PySem.W.Frag) (C : Addr) : Bool := PySem.W.plainGet K C Str.empty && (PySem.W.hasDictIn K C && (PySem.W.plainOver K C && He.eqO (PySem.W.findIn K (.ref C) "__setattr__") (some (some (.builtin "object.__setattr__")))))
theorem clsB_ok {K : PySem.W.Frag} {C : Addr} (c : clsB K C = true) : Cls K C := by
  unfold clsB at c
  obtain ⟨c1, c⟩ := He.ba c
  obtain ⟨c2, c⟩ := He.ba c
  obtain ⟨c3, c4⟩ := He.ba c
  exact ⟨c1, c2, c3, He.eqO_ok c4⟩
def kiB (K : PySem.W.Frag) (C : Addr) : Bool := clsB K C && (He.eqO (PySem.W.findIn K (.ref C) "__class__") (some (some (.builtin "object.__class__"))) && decide (PySem.W.mroIn K C (.type "object") = some true))
theorem kiB_ok {K : PySem.W.Frag} {C : Addr} (h : kiB K C = true) : KiC K C := by
  unfold kiB at h
  obtain ⟨h1, h⟩ := He.ba h
  obtain ⟨h5, h6⟩ := He.ba h
  exact ⟨clsB_ok h1, He.eqO_ok h5, of_decide_eq_true h6⟩
def kfB (K : PySem.W.Frag) (l : List (Nat × Addr)) : Bool := (He.eqO (PySem.W.specialIn K (.builtin "object.__class__") "__get__") (some (some (.builtin "getset_descriptor.__get__"))) && decide (PySem.W.takesIn K (.builtin "object.__class__") = some true)) &&
  ((l.all fun p => if 100 ≤ p.1 then kxB K p.2 else kiB K p.2) && ((l.all fun p => l.all fun q => decide (PySem.W.kitOne K (.ref p.2) (.ref q.2) = some (p.1 == q.1 || (q.1 == 100 && decide (100 ≤ p.1))))) &&
  ((l.all fun p => decide (PySem.W.kitOne K (.ref p.2) (.type "ValueError") = some (decide (100 ≤ p.1)))) && ((l.all fun p => tys.all fun t => decide (PySem.W.kitOne K (.type t) (.ref p.2) = some false)) && tys.all fun t => decide (PySem.W.kitOne K (.type t) (.type "ValueError") = some false)))))
theorem kfB_ok {K : PySem.W.Frag} {g : Gx} {l : List (Nat × Addr)} (hg : g.ca = fun c => l.lookup c) (h : kfB K l = true) : KF K g := by
  unfold kfB at h
  obtain ⟨h1, h⟩ := He.ba h
  obtain ⟨h2, h⟩ := He.ba h
  obtain ⟨h3, h⟩ := He.ba h
  obtain ⟨h4, h⟩ := He.ba h
  obtain ⟨h5, h6⟩ := He.ba h
  obtain ⟨a1, a2⟩ := He.ba h1
  have look : ∀ {c C}, g.ca c = some C → (c, C) ∈ l := fun {c C} e => lookup_mem (by rw [hg] at e; exact e)
  refine ⟨⟨He.eqO_ok a1, of_decide_eq_true a2⟩, fun c C hc e => ?_, fun c C hc e => ?_, fun c C d E e1 e2 => ?_, fun c C e => ?_, fun d E t ht e => ?_, fun t ht => ?_⟩
  · have := List.all_eq_true.mp h2 _ (look e)
    rw [if_pos hc] at this
    exact kxB_ok this
  · have := List.all_eq_true.mp h2 _ (look e)
    rw [if_neg (by simpa using hc)] at this
    exact kiB_ok this
  · have := List.all_eq_true.mp (List.all_eq_true.mp h3 _ (look e1)) _ (look e2)
    exact of_decide_eq_true this
  · exact of_decide_eq_true (List.all_eq_true.mp h4 _ (look e))
  · exact of_decide_eq_true (List.all_eq_true.mp (List.all_eq_true.mp h5 _ (look e)) t ht)
  · exact of_decide_eq_true (List.all_eq_true.mp h6 t ht)
def exB (K : PySem.W.Frag) (l : List (Nat × Addr)) (C : Addr) (L : List Nat) : Bool := l.all fun p => if 100 ≤ p.1 then decide (PySem.W.exmOne K (.ref p.2) (.ref C) = some (L.contains p.1)) else true
theorem exB_ok {K : PySem.W.Frag} {g : Gx} {mg : Str → Option Value} {l : List (Nat × Addr)} {x : Str} {C : Addr} {L : List Nat} (hg : g.ca = fun c => l.lookup c) (hm : mg x = some (.ref C)) (h : exB K l C L = true) : ChF K mg g x L := by
  refine ⟨C, hm, fun c C' hc e => ?_⟩
  have := List.all_eq_true.mp h _ (lookup_mem (c := c) (C := C') (by rw [hg] at e; exact e))
  rw [if_pos hc] at this
  exact of_decide_eq_true this
def xfAll (K : PySem.W.Frag) (l : List (Nat × Addr)) (fl : Str) : Bool := l.all fun p => if 100 ≤ p.1 then xfB K p.2 && He.eqO (PySem.W.findIn K (.ref p.2) fl) (some none) else clsB K p.2 && He.eqO (PySem.W.findIn K (.ref p.2) fl) (some none)
theorem xfAll_ok {K : PySem.W.Frag} {g : Gx} {l : List (Nat × Addr)} {fl : Str} (hg : g.ca = fun c => l.lookup c) (h : xfAll K l fl = true) : AtX K g fl := by
  have look : ∀ {c C}, g.ca c = some C → (c, C) ∈ l := fun {c C} e => lookup_mem (by rw [hg] at e; exact e)
  refine ⟨fun c C hc e => ?_, fun c C hc e => ?_⟩
  · have := List.all_eq_true.mp h _ (look e)
    rw [if_neg (by simpa using hc)] at this
    obtain ⟨h1, h2⟩ := He.ba this
    exact ⟨clsB_ok h1, He.eqO_ok h2⟩
  · have := List.all_eq_true.mp h _ (look e)
    rw [if_pos hc] at this
    obtain ⟨h1, h2⟩ := He.ba this
    exact ⟨xfB_ok h1, He.eqO_ok h2⟩
/-- an exception class that is raised -/
def xcB (K : PySem.W.Frag) (C G : Addr) (fs : List Str) : Bool := oexB K C && (ginB K G && ((fs.all fun f => He.eqO (PySem.W.findIn K (.ref C) f) (some none)) && (He.eqO (PySem.W.findIn K (.ref C) "__init__") (some (some (.ref (He.ma K C "__init__")))) && decide (PySem.W.typeIn K (.ref (He.ma K C "__init__")) = some (.type "function")))))
theorem xcF_ok {P : Program} {w : World} {K : PySem.W.Frag} {mg : Str → Option Value} {base : Heap} {g : Gx} {c : Nat} {x q gx : Str} {fs : List Str} {st : Stmt} {C G : Addr} {fd : FuncData} (hC : g.ca c = some C) (hm : mg x = some (.ref C)) (hmg : mg gx = some (.ref G)) (h : xcB K C G fs = true)
    (F : FunD K "__init__" q (defArgs st) (defBody st) (defScope st) [] [] (He.ma K C "__init__") fd) (bd : BdM "__init__" q st ("self" :: fs)) (S : FnScope ("self" :: fs) ("self" :: fs) (defScope st)) (hb : IsIn gx fs (defBody st)) (hx : okG (defScope st) gx = true) (hs : okN ("self" :: fs) (defScope st) "self" = true) (hf : (fs.all fun f => okN ("self" :: fs) (defScope st) f) = true) (hl : decide (fs.length ≤ 900) = true) :
    XcF P w K mg base g c x fs := by
  unfold xcB at h
  obtain ⟨h1, h⟩ := He.ba h
  obtain ⟨h2, h⟩ := He.ba h
  obtain ⟨h3, h⟩ := He.ba h
  obtain ⟨h4, h5⟩ := He.ba h
  have T := oexB_ok h1
  exact ⟨C, hC, T, hm, of_decide_eq_true hl, _, fd, He.eqO_ok h4, of_decide_eq_true h5, init_ok F S hb T hmg (ginB_ok h2) hx hs (fun f hf' => List.all_eq_true.mp hf f hf') (fun f hf' => He.eqO_ok (List.all_eq_true.mp h3 f hf')) (of_decide_eq_true hl), F.bindsN bd⟩
end PV
end
section
set_option maxHeartbeats 4000000
/-! PVA44: list.count, list.index. -/
namespace PV
open PySem PySem.Spec PyProof.Rows L2
section
variable {X : Cx}
def rCntD (K : PySem.W.Frag) : V → List V → Hp → VK → Prop := fun x xs H Q => ∃ (a : Addr) (y : V) (d : PyData) (ds : List PyData), x = V.ref a ∧ xs = [y] ∧ Dp K H (V.ref a) (.list ds) ∧ Dp K H y d ∧
  SeqAt.shaped (.list ds) = true ∧ SeqAt.shaped d = true ∧ Q (.int (ds.countP (fun z => PyData.eqv z d) : Nat)) H
theorem mt_countD (hu : X.A.units + 65 < cLine) : MtR X "list.count" (rCntD X.K) := by
  intro pins s σ H x xs v us Q I rx rxs h
  obtain ⟨a, y, d, ds, rfl, rfl, hl, hy, sl, sd, q⟩ := h
  cases rx
  cases rxs with
  | cons ry rt =>
    rename_i uy ut
    cases rt
    obtain ⟨bs, r1⟩ := Dp.reads I d y uy hy ry
    have hxs : PyData.canLayAll0 ds = true := SeqAt.canLay_of_shaped sl
    have hroom : X.A.units + 1 + min (PyData.depthAll ds) d.depth < cLine := room_in_shaped sd hu
    cases hl with
    | lst hs ha =>
      obtain ⟨its, rv, ⟨⟨cls, dd, data, sls⟩, n, ho, hc, hdn, hdt⟩, hlen⟩ := I.list hs
      simp only at hc hdt
      subst hc hdt
      obtain ⟨as, h4⟩ := Dp.readsAll I ds _ its ha rv
      have hmap : its.map (SeqAt.readOf s.heap) = ds := SeqAt.readsAll_map ds its as hxs h4
      refine call_meets PySem.F.slot_list_count ⟨_, ho, rfl⟩ PySem.F.entry_list_count (PySem.F.args_list_count_2 _ _)
        (SeqAt.list_countAt a its.toArray n dd sls uy (fun u => PyData.eqv (SeqAt.readOf s.heap u) d)) ⟨ho, SeqAt.items_eqAt (vs := its.toArray) (show ReadsAll s.heap its.toArray.toList ds as from h4) r1 hxs (SeqAt.canLay_of_shaped sd) hroom, ?_⟩
      have ec : its.toArray.toList.countP (fun u => PyData.eqv (SeqAt.readOf s.heap u) d) = ds.countP (fun z => PyData.eqv z d) := by
        rw [← hmap, List.countP_map]; rfl
      exact ⟨.int (ds.countP (fun z => PyData.eqv z d) : Nat), H, I.tok _, ⟨s.toks, by rw [ec]⟩, q⟩
end
def countW : Op1 := fun x y h => match toP h deep x, toP h deep y with
  | some (.list ds), some d => if SeqAt.shaped (.list ds) && SeqAt.shaped d then .ok (.int (ds.countP (fun z => PyData.eqv z d) : Nat)) h else .bad
  | _, _ => .bad
def indexW : Op1 := fun x y h => match toP h deep x, toP h deep y with
  | some (.list ds), some d => if SeqAt.shaped (.list ds) && SeqAt.shaped d then match ds.findIdx? (fun z => PyData.eqv z d) with
      | some j => .ok (.int (j : Nat)) h
      | none => .bad
    else .bad
  | _, _ => .bad
section
variable {g : Gx} {X : Cx} {Wx : WX} {μ : List Addr} {h : Hh} {H : Hp}
theorem dp_list {K : PySem.W.Frag} {H : Hp} {v : V} {ds : List PyData} (d : Dp K H v (.list ds)) : ∃ a, v = .ref a := by
  cases d with
  | lst hs ha => exact ⟨_, rfl⟩
theorem sm_count (hK : X.K = g.K) (hu : X.A.units + 65 < cLine) : SM1 g X Wx "list.count" countW := by
  intro x y h σ H μ vx vy Q rh qx qy po
  unfold countW at po
  split at po
  · rename_i ds d e1 e2
    split at po
    · rename_i hs
      simp only [Bool.and_eq_true] at hs
      have d1 := toP_dp rh _ _ _ _ e1 qx
      have d2 := toP_dp rh _ _ _ _ e2 qy
      obtain ⟨a, rfl⟩ := dp_list d1
      exact mtAt (mt_countD hu) ⟨a, vy, d, ds, rfl, rfl, by rw [hK]; exact d1, by rw [hK]; exact d2, hs.1, hs.2, po.at rh _ rfl (.of rfl)⟩
    · exact po.elim
  · exact po.elim
theorem sm_index (hK : X.K = g.K) (hu : X.A.units + 65 < cLine) : SM1 g X Wx "list.index" indexW := by
  intro x y h σ H μ vx vy Q rh qx qy po
  unfold indexW at po
  split at po
  · rename_i ds d e1 e2
    split at po
    · rename_i hs
      simp only [Bool.and_eq_true] at hs
      split at po
      · rename_i j ej
        have d1 := toP_dp rh _ _ _ _ e1 qx
        have d2 := toP_dp rh _ _ _ _ e2 qy
        obtain ⟨a, rfl⟩ := dp_list d1
        rw [List.findIdx?_eq_some_iff_getElem] at ej
        obtain ⟨hj, h1, h2⟩ := ej
        exact mtAt (mt_indexD hu) ⟨a, vy, d, ds, j, ds[j], rfl, rfl, by rw [hK]; exact d1, by rw [hK]; exact d2, hs.1, hs.2, List.getElem?_eq_getElem hj, h1, fun m z hm ez => by
          have := h2 m hm
          rw [List.getElem?_eq_getElem (by omega)] at ez
          cases ez
          simpa using this, po.at rh _ rfl (.of rfl)⟩
      · exact po.elim
    · exact po.elim
  · exact po.elim
variable {FS : FST} {k : Nat} {cl : Cll} {N : List Str} {sc : Scope} {fq : Str → Bool}
theorem mf_count : MtF "list" "count" "list.count" := ⟨PySem.F.plainAttrs_list, PySem.F.slot_list_count, PySem.F.type_list_count⟩
theorem mf_index : MtF "list" "index" "list.index" := ⟨PySem.F.plainAttrs_list, PySem.F.slot_list_index, PySem.F.type_list_index⟩
theorem Good.mcountW (G : Good FS g k cl N sc fq X Wx) : QM1 g X Wx "list.count" countW := ⟨sm_count G.K G.un⟩
theorem Good.mindexW (G : Good FS g k cl N sc fq X Wx) : QM1 g X Wx "list.index" indexW := ⟨sm_index G.K G.un⟩
end
end PV
end
section
set_option maxHeartbeats 4000000
/-! PVA45: dict(pairs), d.update(dict), keys that are tuples. -/
namespace PV
open PySem PySem.Spec PyProof.Rows L2
def mergeT (acc kvs : List (List Key × V)) : List (List Key × V) := kvs.foldl (fun acc kv => L2.putK acc kv.1 kv.2) acc
theorem mergeT_len : ∀ (kvs acc : List (List Key × V)), (mergeT acc kvs).length ≤ acc.length + kvs.length
  | [], acc => Nat.le_refl _
  | kv :: kvs, acc => by
    have h1 := mergeT_len kvs (L2.putK acc kv.1 kv.2)
    have h2 := L2.length_putK acc kv.1 kv.2
    show (mergeT (L2.putK acc kv.1 kv.2) kvs).length ≤ _
    simp only [List.length_cons]
    omega
theorem kt_merge {H : Hp} : ∀ {kvs : List (List Key × V)} {prs : List (List Key × Addr × Value)} {acc : List (List Key × V)} {xs : List (List Key × Addr × Value)}, KT H kvs prs → KT H acc xs → KT H (mergeT acc kvs) (storedAllH xs prs) := by
  intro kvs prs acc xs r
  induction r generalizing acc xs with
  | nil => exact fun r0 => r0
  | @cons p q ps qs h t ih =>
    intro r0
    obtain ⟨h1, h2, h3⟩ := h
    have e : q.1 = p.1 := h1.symm
    show KT H (mergeT (L2.putK acc p.1 p.2) ps) (storedAllH (storedH xs q.1 q.2.1 q.2.2) qs)
    rw [e]
    exact ih (r0.put p.1 h2 h3)
theorem is_at {P : Program} {w : World} {h h' : Heap} {ks : List Key} {a : Addr} (x : (tupleKind (mixKind P w)).is h ks a) (k : ∀ o, h.get? a = some o → h'.get? a = some o) : (tupleKind (mixKind P w)).is h' ks a := by
  obtain ⟨o, vs, n, h1, r⟩ := x
  exact ⟨o, vs, n, k o h1, r⟩
section
variable {X : Cx}
theorem pairs_ofT {pins : List (Addr × Obj)} {σ : L2.St} {H : Hp} {s : Shared} (I : Inv X pins σ H s) : ∀ {ps : List Addr} {kvs : List (List Key × V)}, Paired (fun p kv => ∃ b, SqT X.K H p [.ref b, kv.2] ∧ H b = some (.tup (kv.1.map kV))) ps kvs →
    ∃ prs : List (List Key × Addr × Value), KT H kvs prs ∧ prs.length = ps.length ∧ ∀ (j : Nat) (q : List Key × Addr × Value), prs[j]? = some q → ∃ p, ps[j]? = some p ∧ IsTup s.heap p #[.ref q.2.1, q.2.2] ∧ H q.2.1 = some (.tup (q.1.map kV))
  | _, _, .nil => ⟨[], .nil, rfl, fun j q e => by simp at e⟩
  | _, _, .cons (a := p) (b := kv) h t => by
    obtain ⟨prs, r, hl, hp⟩ := pairs_ofT I t
    obtain ⟨b, h, hb⟩ := h
    obtain ⟨its, rv, ht, _⟩ := I.tuple h
    obtain ⟨u, y, ei, ru, ry⟩ := vals2 rv
    subst ei
    cases (show u = Value.ref b from ru)
    refine ⟨(kv.1, b, y) :: prs, .cons ⟨rfl, hb, ry⟩ r, by rw [List.length_cons, List.length_cons, hl], fun j q e => ?_⟩
    cases j with
    | zero =>
      have e' : (kv.1, b, y) = q := Option.some.inj e
      subst e'
      exact ⟨p, rfl, ht, hb⟩
    | succ j =>
      obtain ⟨b', e1, e2, e3⟩ := hp j q (by simpa using e)
      exact ⟨b', by simpa using e1, e2, e3⟩
theorem call_dictT (hcalm : X.calm = true) (hu : X.A.units + 65 < cLine) : CallR X (.type "dict") (fun xs H Q => ∃ (a : Addr) (ps : List Addr) (kvs : List (List Key × V)), xs = [.ref a] ∧ SqL X.K H a (ps.map V.ref) ∧ Paired (fun p kv => ∃ b, SqT X.K H p [.ref b, kv.2] ∧ H b = some (.tup (kv.1.map kV))) ps kvs ∧
    ∀ p, H p = none → Q (.ref p) (upd H p (.dT (mergeT [] kvs)))) := by
  intro pins s σ H xs us Q I r q
  obtain ⟨a, ps, kvs, ex, hq, hp, q⟩ := q
  subst ex
  obtain ⟨u, eu, rx⟩ := vals1 r
  subst eu
  cases rx
  obtain ⟨its, rv, pl, hz⟩ := I.list hq
  have ei := refs_at rv
  subst ei
  rw [List.length_map] at hz
  obtain ⟨prs, rel, hl, hpr⟩ := pairs_ofT I hp
  obtain ⟨o, n, ho, hc, hd, hdat⟩ := pl
  have hst : KeysStay (tupleKind (mixKind X.prog X.w)) s.heap s.heap.objs.size [] prs := fun h' hk x hx => by
    obtain ⟨j, hj, e⟩ := List.getElem_of_mem hx
    obtain ⟨p, _, _, e3⟩ := hpr j x (by rw [List.getElem?_eq_getElem hj, e])
    exact is_at (key_of I.hok e3) fun o' e' => hk _ _ (Nat.ne_of_lt (Heap.lt_size e')) (by simp) e'
  refine PySem.call_dict_pairsH (knd := tupleKind (mixKind X.prog X.w)) (ps := prs) (PairArg.list a (ps.map Value.ref).toArray (fun j => ps.getD j 0) (prs.map fun x => (.ref x.2.1, x.2.2))) (I.ok.hd hcalm)
    (show X.A.in1.in1.units < cLine from by have := hu; simp only [Around.in1] at *; omega) ⟨⟨o, n, ho, hc, hd, hdat⟩, by simp [hl], fun j k v e => ?_⟩ ⟨by simp, fun i key v e => ?_⟩ hst (by rw [List.length_map, hl]; exact hz) fun h' tk hd' k => ?_
  · rw [List.getElem?_map] at e
    obtain ⟨x, ex, e⟩ := Option.map_eq_some_iff.mp e
    cases e
    obtain ⟨p, e1, e2, e3⟩ := hpr j x ex
    refine ⟨by simp [e1], .inl ?_⟩
    have : ps.getD j 0 = p := by simp [List.getD, e1]
    show s.heap.IsTuple (ps.getD j 0) _
    rw [this]
    exact e2
  · have e' : (prs.map fun x => ((.ref x.2.1 : Value), x.2.2))[i]? = some (key, v) := e
    rw [List.getElem?_map] at e'
    obtain ⟨x, ex, e2⟩ := Option.map_eq_some_iff.mp e'
    cases e2
    exact ⟨x.1, x.2.1, ex, rfl⟩
  · have hm : (s.heap.objs.size == sysModules) = false := beq_eq_false_iff_ne.mpr (Nat.ne_of_gt I.big)
    have hlen : (mergeT [] kvs).length ≤ sizeLine := by
      refine Nat.le_trans (mergeT_len kvs []) ?_
      rw [List.length_nil, Nat.zero_add, Paired.length rel, hl]
      exact hz
    have nH : H s.heap.objs.size = none := I.hok.fresh (Nat.le_refl _)
    obtain ⟨ob, es, ep, hq', h2, h3, h4, _, h5⟩ := hd'
    refine ⟨.ref s.heap.objs.size, upd H s.heap.objs.size (.dT (mergeT [] kvs)), I.laid (t' := tk) (fun b o e => k b o (by simp) e) (Nat.le_refl _) (show ObjOk X.prog X.w _ _ _ (.dT (mergeT [] kvs)) from ⟨hlen, hm, _, (kt_merge rel .nil).keeps fun c ys ec => ?_, ob, es, ep, hq', h2, h3, h4, h5⟩), rfl, q _ nH⟩
    exact (upd_ne (ne_of_none ec nH)).trans ec
/-- d.update(e), e another dict; d is not empty, or e is -/
theorem mt_updateT (hu : X.A.units + 65 < cLine) : MtR X "dict.update" (fun x xs H Q => ∃ (a b : Addr) (kvs more : List (List Key × V)), x = .ref a ∧ xs = [.ref b] ∧ H a = some (.dT kvs) ∧ H b = some (.dT more) ∧ a ≠ b ∧ (kvs ≠ [] ∨ more = []) ∧ kvs.length + more.length ≤ sizeLine ∧ Q .non (upd H a (.dT (mergeT kvs more)))) := by
  intro pins s σ H x xs v us Q I rx rxs h
  obtain ⟨a, b, kvs, more, rfl, rfl, ha, hb, hab, hne, hsz, q⟩ := h
  cases rx
  obtain ⟨u, eu, ru⟩ := vals1 rxs
  subst eu
  cases ru
  obtain ⟨z1, hd1, xs1, r1, dd1⟩ := dt_of I.hok ha
  obtain ⟨z2, hd2, xs2, r2, dd2⟩ := dt_of I.hok hb
  have l1 := Paired.length r1
  have l2 := Paired.length r2
  refine PySem.call_update_dictH (knd := tupleKind (mixKind X.prog X.w)) (show X.A.in1.units < cLine from by have := hu; simp only [Around.in1] at *; omega) hab hd2 dd1 dd2 ?_ (by omega) fun h' d1 d2 hs => ?_
  · rcases hne with hne | hne
    · refine .inl fun z => hne ?_
      rw [z] at l1
      exact List.length_eq_zero_iff.mp l1
    · subst hne
      have : xs2 = [] := List.length_eq_zero_iff.mp l2.symm
      subst this
      exact .inr ⟨by simp, by simp⟩
  · obtain ⟨ob, es, ep, hq', h2, h3, h4, _, h5⟩ := d1
    have hl2 := mergeT_len more kvs
    refine ⟨.non, upd H a (.dT (mergeT kvs more)), d_write (t' := s.toks) I (by rw [ha]; exact True.intro) hs ⟨ob, hq'⟩ ⟨by omega, hd1, _, (kt_merge r2 r1).keeps fun c ys ec => ?_, ob, es, ep, hq', h2, h3, h4, h5⟩, rfl, q⟩
    exact (upd_ne (ne_of ec ha (fun z => nomatch z))).trans ec
end
end PV
end
section
set_option maxHeartbeats 4000000
/-! PVA46: dict(pairs), dict(dict), d.update(dict) as plain functions. -/
namespace PV
open PySem PySem.Spec PyProof.Rows L2
def pairT : D → Option (List Key × D)
  | .tup [.tup ks, w] => (mapO toK ks).map fun k => (k, w)
  | _ => none
def mergeTD (acc kvs : List (List Key × D)) : List (List Key × D) := kvs.foldl (fun acc kv => putD acc kv.1 kv.2) acc
/-- dict(l), l a list of pairs whose keys are tuples -/
def dictTW (x : D) (h : Hh) : R D := match asL h x with
  | some ws => match mapO pairT ws with
    | some kvs => .ok (.ref h.length) (h ++ [.dT (mergeTD [] kvs)])
    | none => .bad
  | none => .bad
/-- dict(d), keys ints or strs -/
def dictCW (x : D) (h : Hh) : R D := match x with
  | .ref i => match h[i]? with
    | some (.dK kvs) => .ok (.ref h.length) (h ++ [.dK kvs])
    | _ => .bad
  | _ => .bad
def updateTW : Op1 := fun x y h => match x, y with
  | .ref i, .ref j => match h[i]?, h[j]? with
    | some (.dT kvs), some (.dT more) => if i ≠ j ∧ (kvs ≠ [] ∨ more = []) ∧ kvs.length + more.length ≤ sizeLine then .ok .non (h.set i (.dT (mergeTD kvs more))) else .bad
    | _, _ => .bad
  | _, _ => .bad
section
variable {g : Gx} {X : Cx} {Wx : WX} {μ : List Addr} {h : Hh} {H : Hp}
theorem rks_len {κ : Type} : ∀ {fs : List (κ × D)} {vs : List (κ × V)}, RKs g μ H fs vs → vs.length = fs.length
  | [], vs, r => by rw [show vs = [] from r]; rfl
  | w :: ws, vs, r => by obtain ⟨v, rr, rfl, _, _, z⟩ := r; simp [rks_len z]
theorem rks_merge : ∀ {kvs acc : List (List Key × D)} {vs avs : List (List Key × V)}, RKs g μ H kvs vs → RKs g μ H acc avs → RKs g μ H (mergeTD acc kvs) (mergeT avs vs)
  | [], acc, vs, avs, r, r0 => by rw [show vs = [] from r]; exact r0
  | kv :: kvs, acc, vs, avs, r, r0 => by
    obtain ⟨v, rr, rfl, nt, q, z⟩ := r
    exact rks_merge (acc := putD acc kv.1 kv.2) (avs := putK avs kv.1 v) z (putD_ok r0 kv.1 nt q)
theorem pairs_rel : ∀ {ws : List D} {kvs : List (List Key × D)} {vs : List V}, mapO pairT ws = some kvs → RVs g μ H ws vs → ∃ (ps : List Addr) (kv2 : List (List Key × V)), vs = ps.map V.ref ∧ RKs g μ H kvs kv2 ∧ Paired (fun p kv => ∃ b, SqT g.K H p [.ref b, kv.2] ∧ H b = some (.tup (kv.1.map kV))) ps kv2
  | [], kvs, vs, e, r => by
    unfold mapO at e; cases e
    exact ⟨[], [], r, rfl, .nil⟩
  | w :: ws, kvs, vs, e, r => by
    obtain ⟨v, rr, rfl, nt, q, z⟩ := r
    unfold mapO at e
    split at e
    · rename_i a b ea eb
      cases e
      obtain ⟨ps, kv2, e2, r2, p2⟩ := pairs_rel eb z
      unfold pairT at ea
      split at ea
      · rename_i ks w1
        obtain ⟨k, ek, rfl⟩ := Option.map_eq_some_iff.mp ea
        obtain ⟨p, us, rfl, hp, zs⟩ := q
        obtain ⟨u1, r1, rfl, nt1, q1, z1⟩ := zs
        obtain ⟨u2, r3, rfl, nt2, q2, z3⟩ := z1
        have e3 : r3 = [] := z3
        subst e3
        obtain ⟨bk, ys, rfl, hk, zk⟩ := q1
        have ey := toKs_ok ek zk
        subst ey
        exact ⟨p :: ps, (k, u2) :: kv2, by rw [e2]; rfl, ⟨u2, kv2, rfl, nt2, q2, r2⟩, .cons ⟨bk, .of hp, hk⟩ p2⟩
      · cases ea
    · cases e
theorem sc_dictT (hK : X.K = g.K) (hc : X.calm = true) (hu : X.A.units + 65 < cLine) : SC1 g X Wx (.type "dict") dictTW := by
  intro x h σ H μ vx Q rh qx po
  unfold dictTW at po
  split at po
  · rename_i ws ew
    split at po
    · rename_i kvs ek
      obtain ⟨a, vs, rfl, s1, z⟩ := asL_ok rh qx ew
      obtain ⟨ps, kv2, rfl, r2, p2⟩ := pairs_rel ek z
      refine crAt (call_dictT hc hu) ⟨a, ps, kv2, rfl, by rw [hK]; exact s1, by rw [hK]; exact p2, fun p np => ?_⟩
      have r3 : RKs g μ H (mergeTD [] kvs) (mergeT [] kv2) := rks_merge r2 rfl
      obtain ⟨x1, r1, q1⟩ := newCell (o := .dT (mergeT [] kv2)) (c := .dT (mergeTD [] kvs)) rh np ⟨_, upd_same, r3.ext rh.trk (.new rh.trk np)⟩
      exact po _ _ x1 r1 _ q1 (.of rfl)
    · exact po.elim
  · exact po.elim
theorem sc_dictC : SC1 g X Wx (.type "dict") dictCW := by
  intro x h σ H μ vx Q rh qx po
  unfold dictCW at po
  split at po
  · rename_i i
    split at po
    · rename_i kvs ec
      obtain ⟨a, ea, rfl⟩ := qx
      obtain ⟨b, eb, vs, hb, z⟩ := rh.cell i _ ec
      rw [ea] at eb; cases eb
      refine crAt call_dictD ⟨a, vs, rfl, .inl hb, fun p np => ?_⟩
      obtain ⟨x1, r1, q1⟩ := newCell (o := .dK vs) (c := .dK kvs) rh np ⟨_, upd_same, z.ext rh.trk (.new rh.trk np)⟩
      exact po _ _ x1 r1 _ q1 (.of rfl)
    · exact po.elim
  · exact po.elim
theorem sm_updateT (hu : X.A.units + 65 < cLine) : SM1 g X Wx "dict.update" updateTW := by
  intro x y h σ H μ vx vy Q rh qx qy po
  unfold updateTW at po
  split at po
  · rename_i i j
    split at po
    · rename_i kvs more ei ej
      split at po
      · rename_i hh
        obtain ⟨hij, hne, hsz⟩ := hh
        obtain ⟨a, ea, rfl⟩ := qx
        obtain ⟨b, eb, rfl⟩ := qy
        obtain ⟨a', ea', vs, ha, za⟩ := rh.cell i _ ei
        obtain ⟨b', eb', us, hb, zb⟩ := rh.cell j _ ej
        rw [ea] at ea'; cases ea'
        rw [eb] at eb'; cases eb'
        have la := rks_len za
        have lb := rks_len zb
        refine mtAt (mt_updateT hu) ⟨a, b, vs, us, rfl, rfl, ha, hb, fun z => hij (get_inj rh.nd ea (by rw [z]; exact eb)), ?_, by omega, ?_⟩
        · rcases hne with hne | hne
          · refine .inl fun z => hne ?_
            rw [z] at la
            exact List.length_eq_zero_iff.mp la.symm
          · refine .inr ?_
            rw [hne] at lb
            exact List.length_eq_zero_iff.mp lb
        · have xw : Ext μ H μ (upd H a (.dT (mergeT vs us))) := .wr rh.trk ea rfl
          exact po μ _ xw (rh.wr ea rfl ⟨_, upd_same, (rks_merge zb za).ext rh.trk xw⟩) _ rfl (.of rfl)
      · exact po.elim
    · exact po.elim
  · exact po.elim
variable {FS : FST} {k : Nat} {cl : Cll} {N : List Str} {sc : Scope} {fq : Str → Bool}
theorem mf_update : MtF "dict" "update" "dict.update" := ⟨PySem.F.plainAttrs_dict, PySem.F.slot_dict_update, PySem.F.type_dict_update⟩
theorem Good.mupdateTW (G : Good FS g k cl N sc fq X Wx) : QM1 g X Wx "dict.update" updateTW := ⟨sm_updateT G.un⟩
theorem Good.cdictTW (G : Good FS g k cl N sc fq X Wx) : QC1 g X Wx (.type "dict") dictTW := ⟨sc_dictT G.K G.calm G.un⟩
theorem Good.cdictCW (G : Good FS g k cl N sc fq X Wx) : QC1 g X Wx (.type "dict") dictCW := ⟨sc_dictC⟩
end
end PV
end
section
/-! PVP1: how the plain functions compute: one step each, for simp. -/
namespace PV
open PySem PySem.Spec PyProof.Rows L2
section
variable {σ : Sg} {h h1 : Hh} {a b : MS} {m n : M D} {c d : M Bool} {ms : List (M D)} {mA : M (List D)} {t : Tg} {f : D → D → Hh → R D} {f1 : D → Hh → R D} {i : Nat} {w x y : D} {cl : Cll}
@[simp] theorem msSeq_ap : msSeq a b σ h = (a σ h).seq b := id rfl
@[simp] theorem msNil_ap : msNil σ h = .nx σ h := id rfl
@[simp] theorem msRet_ap : msRet m σ h = (m σ h).then σ fun w h1 => .ret w h1 := id rfl
@[simp] theorem msExpr_ap : msExpr m σ h = (m σ h).then σ fun _ h1 => .nx σ h1 := id rfl
@[simp] theorem msIf_ap : msIf c a b σ h = (c σ h).then σ fun x h1 => if x = true then a σ h1 else b σ h1 := id rfl
@[simp] theorem msAsgN_ap : msAsg (.nm i) m σ h = (m σ h).then σ fun w h1 => .nx (σ.set i (some (stash w h1).1)) (stash w h1).2 := id rfl
@[simp] theorem mOp_ap : mOp f m n σ h = (m σ h).bind fun x h1 => (n σ h1).bind fun y h2 => f x y h2 := id rfl
@[simp] theorem mF1_ap : mF1 f1 m σ h = (m σ h).bind f1 := id rfl
@[simp] theorem mC_ap : mC w σ h = .ok w h := id rfl
theorem mV_ap : mV i σ h = match σ[i]? with
  | some (some w) => .ok w h
  | _ => .bad := rfl
@[simp] theorem mV_0 {l : Sg} : mV 0 (some w :: l) h = .ok w h := id rfl
@[simp] theorem mV_s {l : Sg} {o : Option D} : mV (i + 1) (o :: l) h = mV i l h := id rfl
@[simp] theorem mV_1 {l : Sg} {o0 : Option D} : mV 1 (o0 :: some w :: l) h = .ok w h := id rfl
@[simp] theorem mV_2 {l : Sg} {o0 o1 : Option D} : mV 2 (o0 :: o1 :: some w :: l) h = .ok w h := id rfl
@[simp] theorem mV_3 {l : Sg} {o0 o1 o2 : Option D} : mV 3 (o0 :: o1 :: o2 :: some w :: l) h = .ok w h := id rfl
@[simp] theorem mV_4 {l : Sg} {o0 o1 o2 o3 : Option D} : mV 4 (o0 :: o1 :: o2 :: o3 :: some w :: l) h = .ok w h := id rfl
@[simp] theorem mV_5 {l : Sg} {o0 o1 o2 o3 o4 : Option D} : mV 5 (o0 :: o1 :: o2 :: o3 :: o4 :: some w :: l) h = .ok w h := id rfl
@[simp] theorem mV_6 {l : Sg} {o0 o1 o2 o3 o4 o5 : Option D} : mV 6 (o0 :: o1 :: o2 :: o3 :: o4 :: o5 :: some w :: l) h = .ok w h := id rfl
@[simp] theorem mV_7 {l : Sg} {o0 o1 o2 o3 o4 o5 o6 : Option D} : mV 7 (o0 :: o1 :: o2 :: o3 :: o4 :: o5 :: o6 :: some w :: l) h = .ok w h := id rfl
@[simp] theorem mV_8 {l : Sg} {o0 o1 o2 o3 o4 o5 o6 o7 : Option D} : mV 8 (o0 :: o1 :: o2 :: o3 :: o4 :: o5 :: o6 :: o7 :: some w :: l) h = .ok w h := id rfl
@[simp] theorem mV_9 {l : Sg} {o0 o1 o2 o3 o4 o5 o6 o7 o8 : Option D} : mV 9 (o0 :: o1 :: o2 :: o3 :: o4 :: o5 :: o6 :: o7 :: o8 :: some w :: l) h = .ok w h := id rfl
@[simp] theorem mV_10 {l : Sg} {o0 o1 o2 o3 o4 o5 o6 o7 o8 o9 : Option D} : mV 10 (o0 :: o1 :: o2 :: o3 :: o4 :: o5 :: o6 :: o7 :: o8 :: o9 :: some w :: l) h = .ok w h := id rfl
@[simp] theorem mV_11 {l : Sg} {o0 o1 o2 o3 o4 o5 o6 o7 o8 o9 o10 : Option D} : mV 11 (o0 :: o1 :: o2 :: o3 :: o4 :: o5 :: o6 :: o7 :: o8 :: o9 :: o10 :: some w :: l) h = .ok w h := id rfl
@[simp] theorem mV_12 {l : Sg} {o0 o1 o2 o3 o4 o5 o6 o7 o8 o9 o10 o11 : Option D} : mV 12 (o0 :: o1 :: o2 :: o3 :: o4 :: o5 :: o6 :: o7 :: o8 :: o9 :: o10 :: o11 :: some w :: l) h = .ok w h := id rfl
@[simp] theorem mTup_ap : mTup mA σ h = (mA σ h).bind fun ws h1 => if ws.length ≤ sizeLine then .ok (.tup ws) h1 else .bad := id rfl
@[simp] theorem mLst_ap : mLst mA σ h = (mA σ h).bind fun ws h1 => if ws.length ≤ sizeLine then .ok (.tl ws) h1 else .bad := id rfl
@[simp] theorem mArgs_nil : mArgs [] σ h = .ok [] h := id rfl
@[simp] theorem mArgs_cons : mArgs (m :: ms) σ h = (m σ h).bind fun w h1 => (mArgs ms σ (stash w h1).2).bind fun ws h2 => .ok ((stash w h1).1 :: ws) h2 := id rfl
@[simp] theorem mB_ap : mB m σ h = (m σ h).bind fun x h1 => match x with
  | .bl b => .ok b h1
  | _ => .bad := id rfl
@[simp] theorem mIf_ap : mIf c m n σ h = (c σ h).bind fun x h1 => if x = true then m σ h1 else n σ h1 := id rfl
@[simp] theorem mAndB_ap : mAndB c d σ h = (c σ h).bind fun x h1 => if x = true then d σ h1 else .ok false h1 := id rfl
@[simp] theorem mOrB_ap : mOrB c d σ h = (c σ h).bind fun x h1 => if x = true then .ok true h1 else d σ h1 := id rfl
@[simp] theorem mNotB_ap : mNotB c σ h = (c σ h).bind fun x h1 => .ok (!x) h1 := id rfl
@[simp] theorem mCall_ap {f : Nat} : mCall cl f mA σ h = gcR h ((mA σ h).bind fun ws h1 => cl f ws h1) := id rfl
@[simp] theorem mCallP_ap {f : Nat} {perm : List Nat} : mCallP cl f mA perm σ h = gcR h ((mA σ h).bind fun ws h1 => match permL perm ws with
  | some ws => cl f ws h1
  | none => .bad) := id rfl
@[simp] theorem mSt_ap : mSt m σ h = (m σ h).bind fun w h1 => .ok (stash w h1).1 (stash w h1).2 := id rfl
@[simp] theorem msSub_ap {me mo mi : M D} : msSub me mo mi σ h = (mSt me σ h).then σ fun w h1 => (mo σ h1).then σ fun x h2 => (mi σ h2).then σ fun y h3 => match setW x y w h3 with
  | some h4 => .nx σ h4
  | none => .bad := id rfl
@[simp] theorem mSl_ap {lo hi : Option (M D)} : mSl m lo hi σ h = (m σ h).bind fun x h1 => (mPart lo σ h1).bind fun l h2 => (mPart hi σ h2).bind fun u h3 => slW x l u h3 := id rfl
@[simp] theorem mPart_none : mPart none σ h = .ok none h := id rfl
@[simp] theorem mPart_some : mPart (some m) σ h = (m σ h).bind fun x h1 => match x with
    | .int i => .ok (some i) h1
    | _ => .bad := id rfl
@[simp] theorem outR_nx : outR (.nx σ h) = .ok .non h := id rfl
@[simp] theorem outR_ret : outR (.ret w h) = .ok w h := rfl
-- stash
@[simp] theorem stash_int {i : Int} : stash (.int i) h = (.int i, h) := id rfl
@[simp] theorem stash_bl {i : Bool} : stash (.bl i) h = (.bl i, h) := id rfl
@[simp] theorem stash_str {i : Str} : stash (.str i) h = (.str i, h) := id rfl
@[simp] theorem stash_tup {ws : List D} : stash (.tup ws) h = (.tup ws, h) := id rfl
@[simp] theorem stash_kt {ws : List D} : stash (.kt ws) h = (.kt ws, h) := id rfl
@[simp] theorem stash_fl {ws : List D} : stash (.fl ws) h = (.fl ws, h) := id rfl
@[simp] theorem stash_ref : stash (.ref i) h = (.ref i, h) := id rfl
@[simp] theorem stash_non : stash .non h = (.non, h) := id rfl
@[simp] theorem stash_tl {ws : List D} : stash (.tl ws) h = (.ref h.length, h ++ [.lst ws]) := rfl
-- operators
@[simp] theorem addW_i {i j : Int} : addW (.int i) (.int j) h = .ok (.int (i + j)) h := id rfl
@[simp] theorem subW_i {i j : Int} : subW (.int i) (.int j) h = .ok (.int (i - j)) h := id rfl
@[simp] theorem mulW_i {i j : Int} : mulW (.int i) (.int j) h = if CMul i j then .ok (.int (i * j)) h else .bad := id rfl
@[simp] theorem fdivW_i {i j : Int} : fdivW (.int i) (.int j) h = if 0 < j ∧ j < 1073741824 then .ok (.int (i / j)) h else .bad := id rfl
@[simp] theorem modW_i {i j : Int} : modW (.int i) (.int j) h = if 0 < j then .ok (.int (i % j)) h else .bad := id rfl
@[simp] theorem ltW_i {i j : Int} : ltW (.int i) (.int j) h = .ok (.bl (decide (i < j))) h := id rfl
@[simp] theorem leW_i {i j : Int} : leW (.int i) (.int j) h = .ok (.bl (decide (i ≤ j))) h := id rfl
@[simp] theorem gtW_i {i j : Int} : gtW (.int i) (.int j) h = .ok (.bl (decide (j < i))) h := id rfl
@[simp] theorem geW_i {i j : Int} : geW (.int i) (.int j) h = .ok (.bl (decide (j ≤ i))) h := id rfl
@[simp] theorem absW_i {i : Int} : absW (.int i) h = .ok (.int (if i < 0 then -i else i)) h := id rfl
@[simp] theorem negW_i {i : Int} : negW (.int i) h = .ok (.int (-i)) h := id rfl
@[simp] theorem intW_b {k : Bool} : intW (.bl k) h = .ok (.int (if k then 1 else 0)) h := id rfl
@[simp] theorem intW_i {k : Int} : intW (.int k) h = .ok (.int k) h := id rfl
@[simp] theorem lenW_tup {ws : List D} : lenW (.tup ws) h = .ok (.int ws.length) h := id rfl
@[simp] theorem lenW_kt {ws : List D} : lenW (.kt ws) h = .ok (.int ws.length) h := id rfl
@[simp] theorem lenW_tl {ws : List D} : lenW (.tl ws) h = .ok (.int ws.length) h := id rfl
@[simp] theorem lenW_fl {ws : List D} : lenW (.fl ws) h = .ok (.int ws.length) h := id rfl
theorem lenW_ref {ws : List D} (e : h[i]? = some (.lst ws)) : lenW (.ref i) h = .ok (.int ws.length) h := by simp [lenW, asL, e]
@[simp] theorem tupleW_tl {ws : List D} : tupleW (.tl ws) h = .ok (.tup ws) h := id rfl
@[simp] theorem tupleW_fl {ws : List D} : tupleW (.fl ws) h = .ok (.tup ws) h := id rfl
@[simp] theorem tupleW_tup {ws : List D} : tupleW (.tup ws) h = .ok (.tup ws) h := id rfl
theorem tupleW_ref {ws : List D} (e : h[i]? = some (.lst ws)) : tupleW (.ref i) h = .ok (.tup ws) h := by simp [tupleW, asL, e]
@[simp] theorem maxW_i {i j : Int} : maxW (.int i) (.int j) h = .ok (.int (if j > i then j else i)) h := id rfl
@[simp] theorem minW_i {i j : Int} : minW (.int i) (.int j) h = .ok (.int (if j < i then j else i)) h := rfl
-- subscripts
@[simp] theorem ixW_t0 {ws : List D} : ixW (.tup (w :: ws)) (.int 0) h = .ok w h := by simp [ixW, asL, asT, atI, ixN]
@[simp] theorem ixW_t1 {ws : List D} : ixW (.tup (x :: w :: ws)) (.int 1) h = .ok w h := by
  have : (1 : Int) < (ws.length : Int) + 1 + 1 := by omega
  simp [ixW, asL, asT, atI, ixN, this]
@[simp] theorem ixW_t2 {ws : List D} : ixW (.tup (x :: y :: w :: ws)) (.int 2) h = .ok w h := by
  have : (2 : Int) < (ws.length : Int) + 1 + 1 + 1 := by omega
  simp [ixW, asL, asT, atI, ixN, this]
theorem atI_nat {α : Type} {ws : List α} {n : Nat} : atI ws (n : Int) = ws[n]? := by
  unfold atI ixN
  by_cases hn : n < ws.length
  · simp [hn]
  · simp [hn, List.getElem?_eq_none (Nat.le_of_not_lt hn)]
theorem ixW_tn {ws : List D} {n : Nat} (e : ws[n]? = some w) : ixW (.tup ws) (.int (n : Int)) h = .ok w h := by simp [ixW, asL, asT, atI_nat, e]
theorem ixW_fn {ws : List D} {n : Nat} (e : ws[n]? = some w) : ixW (.fl ws) (.int (n : Int)) h = .ok w h := by simp [ixW, asL, atI_nat, e]
theorem ixW_rn {ws : List D} {n : Nat} (e : h[i]? = some (.lst ws)) (e2 : ws[n]? = some w) : ixW (.ref i) (.int (n : Int)) h = .ok w h := by simp [ixW, asL, e, atI_nat, e2]
end

/-! ### calls -/
theorem callF_s {T : Tab} {k f : Nat} {ws : List D} {h : Hh} {d : Fd} (e : T f = some d) : callF T (k + 1) f ws h = if ws.length = d.np then outR (d.body (callF T k) (startW d.nN ws) h) else .bad := by
  simp only [callF, e, runF]
theorem gc_len {h h' : Hh} {w : D} (hl : h'.length = h.length) (lim : w.lim h.length = true) : gc h w h' = .ok w h' := by
  unfold gc
  by_cases hg : gcOk h.length h h' = true
  · rw [if_pos hg, if_pos lim, List.take_of_length_le (by omega)]
  · rw [if_neg hg]
@[simp] theorem gcR_len {h h' : Hh} {w : D} (hl : h'.length = h.length) (lim : w.lim h.length = true) : gcR h (.ok w h') = .ok w h' := gc_len hl lim
theorem gcOk_of {n : Nat} : ∀ {h h' : Hh}, h.length ≤ h'.length → (∀ (j : Nat) (c : Cl), j < h.length → h'[j]? = some c → h[j]? = some c ∨ c.lim n = true) → gcOk n h h' = true
  | [], h', _, _ => by cases h' <;> rfl
  | c :: h, [], hl, _ => by simp at hl
  | c :: h, d :: h', hl, hj => by
    unfold gcOk
    rw [Bool.and_eq_true]
    refine ⟨?_, gcOk_of (by simpa using hl) fun j e hjl he => ?_⟩
    · rcases hj 0 d (by simp) rfl with z | z
      · have : c = d := by simpa using z
        simp [this]
      · simp [z]
    · have := hj (j + 1) e (by simpa using hjl) (by simpa using he)
      simpa using this
/-- the new cells go -/
theorem gcR_cut {h h' : Hh} {w : D} (lim : w.lim h.length = true) (hl : h.length ≤ h'.length) (hj : ∀ (j : Nat) (c : Cl), j < h.length → h'[j]? = some c → h[j]? = some c ∨ c.lim h.length = true) : gcR h (.ok w h') = .ok w (h'.take h.length) := by
  show gc h w h' = _
  unfold gc
  rw [if_pos (gcOk_of hl hj), if_pos lim]
/-- a fresh list comes back as itself -/
theorem gcR_tl {h h' : Hh} {ws : List D} (lim : D.lims h.length ws = true) (hl : h'.length = h.length) : gcR h (.ok (.tl ws) h') = .ok (.tl ws) h' := gcR_len hl lim
@[simp] theorem lim_int {n : Nat} {i : Int} : D.lim n (.int i) = true := by simp only [D.lim, D.lims]
@[simp] theorem lim_bl {n : Nat} {i : Bool} : D.lim n (.bl i) = true := by simp only [D.lim, D.lims]
@[simp] theorem lim_str {n : Nat} {i : Str} : D.lim n (.str i) = true := by simp only [D.lim, D.lims]
@[simp] theorem lim_non {n : Nat} : D.lim n .non = true := by simp only [D.lim, D.lims]
@[simp] theorem lim_tup {n : Nat} {ws : List D} : D.lim n (.tup ws) = D.lims n ws := by simp only [D.lim, D.lims]
@[simp] theorem lim_tl {n : Nat} {ws : List D} : D.lim n (.tl ws) = D.lims n ws := by simp only [D.lim, D.lims]
@[simp] theorem lim_ref {n i : Nat} : D.lim n (.ref i) = decide (i < n) := by simp only [D.lim, D.lims]
@[simp] theorem lims_nil {n : Nat} : D.lims n [] = true := by simp only [D.lim, D.lims]
@[simp] theorem lims_cons {n : Nat} {w : D} {ws : List D} : D.lims n (w :: ws) = (D.lim n w && D.lims n ws) := by simp only [D.lim, D.lims]
theorem lims_all {n : Nat} : ∀ {ws : List D}, (∀ w ∈ ws, D.lim n w = true) → D.lims n ws = true
  | [], _ => rfl
  | w :: ws, h => by rw [lims_cons, h w (by simp), lims_all fun x hx => h x (by simp [hx])]; rfl
@[simp] theorem lims_str {n : Nat} {xs : List Str} : D.lims n (xs.map D.str) = true := lims_all fun w hw => by
  obtain ⟨x, _, rfl⟩ := List.mem_map.mp hw; rfl
@[simp] theorem lims_int {n : Nat} {xs : List Int} : D.lims n (xs.map D.int) = true := lims_all fun w hw => by
  obtain ⟨x, _, rfl⟩ := List.mem_map.mp hw; rfl
@[simp] theorem limc_lst {n : Nat} {ws : List D} : Cl.lim n (.lst ws) = D.lims n ws := by simp only [Cl.lim]
end PV
end
section
/-! PVP2: comprehensions and loops over what does not change. -/
namespace PV
open PySem PySem.Spec PyProof.Rows L2

theorem lt_of_get {α : Type} {l : List α} {i : Nat} {a : α} (e : l[i]? = some a) : i < l.length := by
  rcases Nat.lt_or_ge i l.length with z | z
  · exact z
  · rw [List.getElem?_eq_none z] at e; cases e
theorem drop_get {α : Type} {l : List α} {i : Nat} {a : α} (e : l[i]? = some a) : l.drop i = a :: l.drop (i + 1) := by
  have hi := lt_of_get e
  rw [List.drop_eq_getElem_cons hi]
  congr 1
  rw [List.getElem?_eq_getElem hi] at e
  exact Option.some.inj e
section
variable {src : Src} {t : Tg} {σ σ0 : Sg} {h : Hh} {ws : List D}
theorem lcL_pure {α : Type} {body : α → Sg → Hh → R α} (step : α → D → α) (P : α → Nat → Prop) (hs : ∀ i, src i h = some ws[i]?)
    (hb : ∀ i w acc, ws[i]? = some w → P acc i → P (step acc w) (i + 1) ∧ ∃ σ1, t.set w σ0 h = some σ1 ∧ body acc σ1 h = .ok (step acc w) h) :
    ∀ (n i : Nat) (acc : α), P acc i → i ≤ ws.length → ws.length < i + n → lcL src t body σ0 n i acc h = .ok ((ws.drop i).foldl step acc) h
  | 0, i, acc, hp, hle, hl => by omega
  | n + 1, i, acc, hp, hle, hl => by
    simp only [lcL, hs]
    cases e : ws[i]? with
    | none =>
      simp only
      rw [List.drop_eq_nil_of_le (List.getElem?_eq_none_iff.mp e)]
      rfl
    | some w =>
      obtain ⟨p1, σ1, e1, e2⟩ := hb i w acc e hp
      simp only [e1, e2, R.bind_ok]
      have := lt_of_get e
      rw [lcL_pure step P hs hb n (i + 1) (step acc w) p1 (by omega) (by omega), drop_get e]
      rfl
end
def stepF {α β : Type} (g : α → Option β) (acc : List β) (w : α) : List β := match g w with
  | some y => acc ++ [y]
  | none => acc
theorem foldl_filterMap {α β : Type} (g : α → Option β) : ∀ (ws : List α) (acc : List β), ws.foldl (stepF g) acc = acc ++ ws.filterMap g
  | [], acc => by simp
  | w :: ws, acc => by
    rw [List.foldl_cons, foldl_filterMap g ws]
    cases e : g w with
    | none => simp [stepF, e]
    | some y => simp [stepF, e]
/-- [e for t in ws if c], where nothing is written -/
theorem lc_pure {mi : M Src} {t : Tg} {mt : M Bool} {me : M D} {vs : List Nat} {σ : Sg} {h h1 : Hh} {src : Src} {ws : List D} (g : D → Option D) (hi : mi σ h = .ok src h1) (hs : ∀ i, src i h1 = some ws[i]?) (hl : ws.length < sizeLine)
    (hb : ∀ w ∈ ws, ∃ σ1, t.set w (wipeW σ vs) h1 = some σ1 ∧ ((∃ y, g w = some y ∧ mt σ1 h1 = .ok true h1 ∧ me σ1 h1 = .ok y h1 ∧ y.isTl = false) ∨ (g w = none ∧ mt σ1 h1 = .ok false h1))) :
    mLc mi t mt me vs σ h = .ok (.tl (ws.filterMap g)) h1 := by
  unfold mLc
  rw [hi, R.bind_ok]
  have key := lcL_pure (src := src) (t := t) (σ0 := wipeW σ vs) (h := h1) (ws := ws) (body := bodyE mt me) (stepF g) (fun acc i => acc.length ≤ i) hs (fun i w acc e hp => by
      obtain ⟨σ1, e1, z⟩ := hb w (List.mem_of_getElem? e)
      have hi := lt_of_get e
      rcases z with ⟨y, eg, et, ee, nt⟩ | ⟨eg, et⟩
      · refine ⟨by simp [stepF, eg]; omega, σ1, e1, ?_⟩
        have ha : acc.length < sizeLine := by omega
        simp only [bodyE, et, noX, R.bind_ok, if_true, ee, stash_of nt, ha, stepF, eg]
      · refine ⟨by simp [stepF, eg]; omega, σ1, e1, ?_⟩
        simp [bodyE, et, noX, stepF, eg]) loopN 0 [] (by simp) (by omega) (by unfold loopN; have : sizeLine = 16777216 := rfl; omega)
  rw [key, R.bind_ok, List.drop_zero, foldl_filterMap]
  rfl
/-- the same without a test -/
theorem lc_map {mi : M Src} {t : Tg} {me : M D} {vs : List Nat} {σ : Sg} {h h1 : Hh} {src : Src} {ws : List D} (g : D → D) (hi : mi σ h = .ok src h1) (hs : ∀ i, src i h1 = some ws[i]?) (hl : ws.length < sizeLine)
    (hb : ∀ w ∈ ws, ∃ σ1, t.set w (wipeW σ vs) h1 = some σ1 ∧ me σ1 h1 = .ok (g w) h1 ∧ (g w).isTl = false) : mLc mi t (fun _ h => .ok true h) me vs σ h = .ok (.tl (ws.map g)) h1 := by
  have := lc_pure (mt := fun _ h => .ok true h) (me := me) (fun w => some (g w)) hi hs hl fun w hw => by
    obtain ⟨σ1, e1, e2, e3⟩ := hb w hw
    exact ⟨σ1, e1, .inl ⟨g w, rfl, rfl, e2, e3⟩⟩
  rw [this]
  simp
section
variable {h : Hh} {ws us : List D} {i : Nat}
theorem srcT_at (j : Nat) : srcT ws j h = some ws[j]? := rfl
theorem srcL_tl (j : Nat) : srcL (.tl ws) j h = some ws[j]? := rfl
theorem srcL_fl (j : Nat) : srcL (.fl ws) j h = some ws[j]? := rfl
theorem srcL_ref (e : h[i]? = some (.lst ws)) (j : Nat) : srcL (.ref i) j h = some ws[j]? := by simp [srcL, asL, e]
def enumD (ws : List D) : List D := ws.mapIdx fun i w => .tup [.int (i : Nat), w]
theorem srcE_at {s : Src} (hs : ∀ j, s j h = some ws[j]?) (j : Nat) : srcE s j h = some (enumD ws)[j]? := by
  unfold srcE enumD
  rw [hs, List.getElem?_mapIdx]
  cases ws[j]? <;> rfl
theorem srcR_at {lo : Int} {n : Nat} (j : Nat) : srcR lo n j h = some ((List.range n).map fun (i : Nat) => D.int (lo + (i : Nat)))[j]? := by
  unfold srcR
  by_cases hj : j < n
  · simp [hj]
  · simp [hj]
end
/-- a for loop that goes through -/
theorem forL_ok {src : Src} {t : Tg} {b : MS} {ws : List D} (I : Nat → Sg → Hh → Prop) (hs : ∀ i σ h, I i σ h → src i h = some ws[i]?)
    (step : ∀ i w σ h, I i σ h → ws[i]? = some w → ∃ σ1 σ2 h2, t.set w σ h = some σ1 ∧ (b σ1 h = .nx σ2 h2 ∨ b σ1 h = .cont σ2 h2) ∧ I (i + 1) σ2 h2) :
    ∀ (n i : Nat) (σ : Sg) (h : Hh), I i σ h → i ≤ ws.length → ws.length < i + n → ∃ σ2 h2, forL src t b n i σ h = .nx σ2 h2 ∧ I ws.length σ2 h2
  | 0, i, σ, h, hi, hle, hl => by omega
  | n + 1, i, σ, h, hi, hle, hl => by
    simp only [forL, hs i σ h hi]
    cases e : ws[i]? with
    | none =>
      have := List.getElem?_eq_none_iff.mp e
      have hi' : i = ws.length := by omega
      subst hi'
      exact ⟨σ, h, rfl, hi⟩
    | some w =>
      obtain ⟨σ1, σ2, h2, e1, e2, hi2⟩ := step i w σ h hi e
      have := lt_of_get e
      obtain ⟨σ3, h3, e3, hi3⟩ := forL_ok I hs step n (i + 1) σ2 h2 hi2 (by omega) (by omega)
      refine ⟨σ3, h3, ?_, hi3⟩
      rcases e2 with e2 | e2
      · simp only [e1, e2]; exact e3
      · simp only [e1, e2]; exact e3
theorem msFor_ok {mi : M Src} {src : Src} {t : Tg} {b : MS} {ws : List D} {σ : Sg} {h h1 : Hh} (I : Nat → Sg → Hh → Prop) (hm : mi σ h = .ok src h1) (hs : ∀ i σ h, I i σ h → src i h = some ws[i]?)
    (step : ∀ i w σ h, I i σ h → ws[i]? = some w → ∃ σ1 σ2 h2, t.set w σ h = some σ1 ∧ (b σ1 h = .nx σ2 h2 ∨ b σ1 h = .cont σ2 h2) ∧ I (i + 1) σ2 h2)
    (h0 : I 0 σ h1) (hl : ws.length ≤ 16777216) : ∃ σ2 h2, msFor mi t b σ h = .nx σ2 h2 ∧ I ws.length σ2 h2 := by
  unfold msFor
  rw [hm, R.then_ok]
  exact forL_ok I hs step loopN 0 σ h1 h0 (by omega) (by unfold loopN; omega)
end PV
end
section
/-! PVP3: comparisons, membership, repr of plain data. -/
namespace PV
open PySem PySem.Spec PyProof.Rows L2

theorem mapO_map {α β γ : Type} {f : α → Option β} {g : γ → α} {k : γ → β} : ∀ {xs : List γ}, (∀ x ∈ xs, f (g x) = some (k x)) → mapO f (xs.map g) = some (xs.map k)
  | [], _ => rfl
  | x :: xs, h => by
    simp only [List.map_cons, mapO]
    rw [h x (by simp), mapO_map fun y hy => h y (by simp [hy])]
@[simp] theorem toP_int {h : Hh} {n : Nat} {i : Int} : toP h (n + 1) (.int i) = some (.int i) := id rfl
@[simp] theorem toP_str {h : Hh} {n : Nat} {i : Str} : toP h (n + 1) (.str i) = some (.str i) := id rfl
@[simp] theorem toP_bl {h : Hh} {n : Nat} {i : Bool} : toP h (n + 1) (.bl i) = some (.bool i) := id rfl
@[simp] theorem toP_non {h : Hh} {n : Nat} : toP h (n + 1) .non = some .none := id rfl
@[simp] theorem toP_tup {h : Hh} {n : Nat} {ws : List D} : toP h (n + 1) (.tup ws) = (mapO (toP h n) ws).map .tuple := id rfl
@[simp] theorem toP_tl {h : Hh} {n : Nat} {ws : List D} : toP h (n + 1) (.tl ws) = (mapO (toP h n) ws).map .list := id rfl
@[simp] theorem mapO_nil {α β : Type} {f : α → Option β} : mapO f [] = some [] := id rfl
theorem mapO_cons {α β : Type} {f : α → Option β} {x : α} {xs : List α} {y : β} {ys : List β} (h1 : f x = some y) (h2 : mapO f xs = some ys) : mapO f (x :: xs) = some (y :: ys) := by simp only [mapO, h1, h2]
theorem canLay_all : ∀ {ds : List PyData}, (∀ d ∈ ds, d.canLay0 = true) → PyData.canLayAll0 ds = true
  | [], _ => by simp [PyData.canLayAll0]
  | d :: ds, h => by
    simp only [PyData.canLayAll0, Bool.and_eq_true]
    exact ⟨h d (by simp), canLay_all fun x hx => h x (by simp [hx])⟩
theorem depth_all {n : Nat} : ∀ {ds : List PyData}, (∀ d ∈ ds, d.depth ≤ n) → PyData.depthAll ds ≤ n
  | [], _ => by simp [PyData.depthAll]
  | d :: ds, h => by
    simp only [PyData.depthAll]
    have h1 := h d (by simp)
    have h2 := depth_all fun x hx => h x (List.mem_cons_of_mem _ hx)
    omega
theorem shaped_tup {ds : List PyData} {n : Nat} (hn : n < 64) (h : ∀ d ∈ ds, d.canLay0 = true) (hd : ∀ d ∈ ds, d.depth ≤ n) : SeqAt.shaped (.tuple ds) = true := by
  have := depth_all hd
  simp [SeqAt.shaped, PyData.canLay0, canLay_all h, PyData.depth]
  omega
theorem shaped_str {x : Str} (h : PyData.strOk x = true) : SeqAt.shaped (.str x) = true := by simp [SeqAt.shaped, PyData.canLay0, h, PyData.depth]
theorem inW_strs {h : Hh} {x : Str} {ss : List Str} (hx : PyData.strOk x = true) (hs : ∀ s ∈ ss, PyData.strOk s = true) : inW (.str x) (.tup (ss.map .str)) h = .ok (.bl (decide (x ∈ ss))) h := by
  have e1 : toP h deep (.tup (ss.map .str)) = some (.tuple (ss.map .str)) := by
    show (mapO (toP h 65) (ss.map .str)).map PyData.tuple = _
    rw [mapO_map (f := toP h 65) (g := D.str) (k := PyData.str) fun x _ => rfl]
    rfl
  have s1 : SeqAt.shaped (.tuple (ss.map .str)) = true := shaped_tup (n := 0) (by omega) (fun d hd => by
    obtain ⟨s, hs', rfl⟩ := List.mem_map.mp hd
    simp [PyData.canLay0, hs s hs']) (fun d hd => by
    obtain ⟨s, hs', rfl⟩ := List.mem_map.mp hd
    simp [PyData.depth])
  have e2 : toP h deep (.str x) = some (.str x) := rfl
  simp only [inW, inO, e1, e2, s1, shaped_str hx, Bool.and_self, if_true]
  congr 3
  rw [Bool.eq_iff_iff]
  simp only [List.any_map, List.any_eq_true, Function.comp, decide_eq_true_eq, PyData.eqv, beq_iff_eq]
  constructor
  · rintro ⟨s, hs, rfl⟩; exact hs
  · exact fun hm => ⟨x, hm, rfl⟩
end PV
end
section
/-! PVP4: comprehensions with two clauses, over what does not change. -/
namespace PV
open PySem PySem.Spec PyProof.Rows L2

theorem foldl_flatMap {α β : Type} (f : α → List β) : ∀ (ws : List α) (acc : List β), ws.foldl (fun acc w => acc ++ f w) acc = acc ++ ws.flatMap f
  | [], acc => by simp
  | w :: ws, acc => by
    rw [List.foldl_cons, foldl_flatMap f ws]
    simp
/-- the inner loop -/
theorem lcL_inner {src : Src} {t : Tg} {mt : M Bool} {me : M D} {σ0 : Sg} {h : Hh} {us : List D} (g : D → Option D) (hs : ∀ i, src i h = some us[i]?)
    (hb : ∀ w ∈ us, ∃ σ1, t.set w σ0 h = some σ1 ∧ ((∃ y, g w = some y ∧ mt σ1 h = .ok true h ∧ me σ1 h = .ok y h ∧ y.isTl = false) ∨ (g w = none ∧ mt σ1 h = .ok false h))) (acc : List D) (hl : acc.length + us.length < sizeLine) :
    lcL src t (bodyE mt me) σ0 loopN 0 acc h = .ok (acc ++ us.filterMap g) h := by
  have key := lcL_pure (src := src) (t := t) (σ0 := σ0) (h := h) (ws := us) (body := bodyE mt me) (stepF g) (fun a i => a.length ≤ acc.length + i) hs (fun i w a e hp => by
      obtain ⟨σ1, e1, z⟩ := hb w (List.mem_of_getElem? e)
      have hi := lt_of_get e
      rcases z with ⟨y, eg, et, ee, nt⟩ | ⟨eg, et⟩
      · refine ⟨by simp [stepF, eg]; omega, σ1, e1, ?_⟩
        have ha : a.length < sizeLine := by omega
        simp only [bodyE, et, noX, R.bind_ok, if_true, ee, stash_of nt, ha, stepF, eg]
      · refine ⟨by simp [stepF, eg]; omega, σ1, e1, ?_⟩
        simp [bodyE, et, noX, stepF, eg]) loopN 0 acc (by simp) (by omega) (by unfold loopN; have : sizeLine = 16777216 := rfl; omega)
  rw [key, List.drop_zero, foldl_filterMap]
theorem lc2_pure {mi mi1 : M Src} {t t1 : Tg} {mt mt1 : M Bool} {me : M D} {vs vs1 : List Nat} {σ : Sg} {h h1 : Hh} {src : Src} {ws : List D} (gt : D → Bool) (us : D → List D) (g : D → D → Option D) (B : Nat)
    (hi : mi σ h = .ok src h1) (hs : ∀ i, src i h1 = some ws[i]?) (hB : ∀ w ∈ ws, (us w).length ≤ B) (hl : ws.length * B + B < sizeLine) (hl2 : ws.length < sizeLine)
    (hb : ∀ w ∈ ws, ∃ σ1, t.set w (wipeW σ vs) h1 = some σ1 ∧ ((gt w = false ∧ mt σ1 h1 = .ok false h1) ∨ (gt w = true ∧ mt σ1 h1 = .ok true h1 ∧ ∃ src1, mi1 σ1 h1 = .ok src1 h1 ∧ (∀ j, src1 j h1 = some (us w)[j]?) ∧
      ∀ u ∈ us w, ∃ σ2, t1.set u (wipeW σ1 vs1) h1 = some σ2 ∧ ((∃ y, g w u = some y ∧ mt1 σ2 h1 = .ok true h1 ∧ me σ2 h1 = .ok y h1 ∧ y.isTl = false) ∨ (g w u = none ∧ mt1 σ2 h1 = .ok false h1))))) :
    mLc2 mi t mt mi1 t1 mt1 me vs vs1 σ h = .ok (.tl (ws.flatMap fun w => if gt w = true then (us w).filterMap (g w) else [])) h1 := by
  unfold mLc2
  rw [hi, R.bind_ok]
  rw [lcL_pure (src := src) (t := t) (σ0 := wipeW σ vs) (h := h1) (ws := ws) (fun acc w => acc ++ if gt w = true then (us w).filterMap (g w) else []) (fun acc i => acc.length ≤ i * B) hs (fun i w acc e hp => by
      obtain ⟨σ1, e1, z⟩ := hb w (List.mem_of_getElem? e)
      have hi := lt_of_get e
      have hbb := hB w (List.mem_of_getElem? e)
      have hmul : i * B ≤ ws.length * B := Nat.mul_le_mul_right _ (by omega)
      rcases z with ⟨eg, et⟩ | ⟨eg, et, src1, em, es, hin⟩
      · refine ⟨?_, σ1, e1, ?_⟩
        · simp only [eg, Bool.false_eq_true, if_false, List.append_nil]
          have : i * B ≤ (i + 1) * B := Nat.mul_le_mul_right _ (by omega)
          omega
        · simp [et, noX, eg]
      · refine ⟨?_, σ1, e1, ?_⟩
        · simp only [eg, if_true, List.length_append]
          have h1 := List.length_filterMap_le (g w) (us w)
          have : (i + 1) * B = i * B + B := by rw [Nat.add_mul]; omega
          omega
        · simp only [et, noX, R.bind_ok, if_true, em, eg]
          exact lcL_inner (g w) es hin acc (by omega)) loopN 0 [] (by simp) (by omega) (by unfold loopN; have : sizeLine = 16777216 := rfl; omega)]
  rw [R.bind_ok, List.drop_zero, foldl_flatMap]
  rfl
end PV
end
section
/-! PVP5: comprehensions that write. -/
namespace PV
open PySem PySem.Spec PyProof.Rows L2
theorem lcL_inv {α : Type} {src : Src} {t : Tg} {body : α → Sg → Hh → R α} {σ0 : Sg} {ws : List D} (I : Nat → α → Hh → Prop) (hs : ∀ i acc h, I i acc h → src i h = some ws[i]?)
    (step : ∀ i w acc h, I i acc h → ws[i]? = some w → ∃ σ1 acc' h', t.set w σ0 h = some σ1 ∧ body acc σ1 h = .ok acc' h' ∧ I (i + 1) acc' h') :
    ∀ (n i : Nat) (acc : α) (h : Hh), I i acc h → i ≤ ws.length → ws.length < i + n → ∃ acc' h', lcL src t body σ0 n i acc h = .ok acc' h' ∧ I ws.length acc' h'
  | 0, i, acc, h, hi, hle, hl => by omega
  | n + 1, i, acc, h, hi, hle, hl => by
    simp only [lcL, hs i acc h hi]
    cases e : ws[i]? with
    | none =>
      have := List.getElem?_eq_none_iff.mp e
      have hi' : i = ws.length := by omega
      subst hi'
      exact ⟨acc, h, rfl, hi⟩
    | some w =>
      obtain ⟨σ1, acc', h', e1, e2, hi2⟩ := step i w acc h hi e
      have := lt_of_get e
      obtain ⟨acc3, h3, e3, hi3⟩ := lcL_inv I hs step n (i + 1) acc' h' hi2 (by omega) (by omega)
      refine ⟨acc3, h3, ?_, hi3⟩
      simp only [e1, e2, R.bind_ok]; exact e3
/-- [e for t in ws], each turn under I -/
theorem lc_inv {mi : M Src} {t : Tg} {me : M D} {vs : List Nat} {σ : Sg} {h h1 : Hh} {src : Src} {ws : List D} (I : Nat → List D → Hh → Prop) (hi : mi σ h = .ok src h1) (hs : ∀ i acc h, I i acc h → src i h = some ws[i]?) (hl : ws.length < sizeLine)
    (h0 : I 0 [] h1) (step : ∀ i w acc h, I i acc h → acc.length = i → ws[i]? = some w → ∃ σ1 y h', t.set w (wipeW σ vs) h = some σ1 ∧ me σ1 h = .ok y h' ∧ I (i + 1) (acc ++ [(stash y h').1]) (stash y h').2) :
    ∃ acc h', mLc mi t (fun _ h => .ok true h) me vs σ h = .ok (.tl acc) h' ∧ acc.length = ws.length ∧ I ws.length acc h' := by
  obtain ⟨acc, h', e, hI, hlen⟩ := lcL_inv (src := src) (t := t) (body := bodyE (fun _ h => .ok true h) me) (σ0 := wipeW σ vs) (ws := ws) (fun i acc h => I i acc h ∧ acc.length = i) (fun i acc h hi => hs i acc h hi.1) (fun i w acc h hi e => by
    obtain ⟨σ1, y, h', e1, e2, e3⟩ := step i w acc h hi.1 hi.2 e
    have hlt := lt_of_get e
    have ha : acc.length < sizeLine := by have := hi.2; omega
    exact ⟨σ1, acc ++ [(stash y h').1], (stash y h').2, e1, by simp only [bodyE, noX, R.bind_ok, if_true, e2, ha], e3, by simp [hi.2]⟩) loopN 0 [] h1 ⟨h0, rfl⟩ (by omega) (by unfold loopN; have : sizeLine = 16777216 := rfl; omega)
  refine ⟨acc, h', ?_, hlen, hI⟩
  unfold mLc
  rw [hi, R.bind_ok, e]
  rfl
end PV
end
section
/-! PVP6: heaps that change at few cells; lists that lose an item. -/
namespace PV
open PySem PySem.Spec PyProof.Rows L2

theorem cmulL {i j : Int} (h : -18446744073709551616 < i) (h2 : i < 18446744073709551616) : CMul i j := .inl ⟨by simpa using h, by simpa using h2⟩
theorem cmulR {i j : Int} (h : -18446744073709551616 < j) (h2 : j < 18446744073709551616) : CMul i j := .inr ⟨by simpa using h, by simpa using h2⟩
/-- the heap changes at the cells is alone -/
structure Up (is : List Nat) (h h' : Hh) : Prop where
  len : h'.length = h.length
  same : ∀ j, j ∉ is → h'[j]? = h[j]?
theorem Up.rfl' {is : List Nat} {h : Hh} : Up is h h := ⟨rfl, fun _ _ => rfl⟩
theorem Up.trans {is : List Nat} {h h1 h2 : Hh} (a : Up is h h1) (b : Up is h1 h2) : Up is h h2 := ⟨b.len.trans a.len, fun j hj => (b.same j hj).trans (a.same j hj)⟩
theorem Up.mono {is js : List Nat} {h h1 : Hh} (a : Up is h h1) (s : ∀ i ∈ is, i ∈ js) : Up js h h1 := ⟨a.len, fun j hj => a.same j fun z => hj (s j z)⟩
theorem Up.get {is : List Nat} {h h1 : Hh} (a : Up is h h1) {j : Nat} {c : Cl} (e : h[j]? = some c) (hj : j ∉ is) : h1[j]? = some c := (a.same j hj).trans e
theorem Up.set {is : List Nat} {h : Hh} {i : Nat} {c : Cl} (hi : i ∈ is) : Up is h (h.set i c) := ⟨by simp, fun j hj => List.getElem?_set_ne fun z => hj (by rw [← z]; exact hi)⟩
/-- new cells go: what is left of the old ones -/
theorem Up.cut {is : List Nat} {h e h' : Hh} (a : Up is (h ++ e) h') : Up is h (h'.take h.length) := by
  have hl := a.len
  rw [List.length_append] at hl
  refine ⟨by rw [List.length_take]; omega, fun j hj => ?_⟩
  by_cases hlt : j < h.length
  · rw [List.getElem?_take_of_lt hlt, a.same j hj, List.getElem?_append_left hlt]
  · rw [List.getElem?_eq_none (by rw [List.length_take]; omega), List.getElem?_eq_none (by omega)]
theorem take_get {h' : Hh} {n i : Nat} {c : Cl} (e : h'[i]? = some c) (hi : i < n) : (h'.take n)[i]? = some c := by rw [List.getElem?_take_of_lt hi]; exact e
theorem app_get {h e : Hh} {i : Nat} {c : Cl} (q : h[i]? = some c) : (h ++ e)[i]? = some c := by rw [List.getElem?_append_left (lt_of_get q)]; exact q
/-- a call leaves the caller's cells, each as it was or plain -/
theorem gcR_up {is : List Nat} {h e h' : Hh} {w : D} (a : Up is (h ++ e) h') (lim : w.lim h.length = true) (hp : ∀ i ∈ is, i < h.length → ∃ c, h'[i]? = some c ∧ (h[i]? = some c ∨ c.lim h.length = true)) : gcR h (.ok w h') = .ok w (h'.take h.length) := by
  have hl := a.len
  rw [List.length_append] at hl
  refine gcR_cut lim (by omega) fun j c hj ec => ?_
  by_cases hm : j ∈ is
  · obtain ⟨c', e1, e2⟩ := hp j hm hj
    rw [e1] at ec; cases ec; exact e2
  · left
    rw [a.same j hm, List.getElem?_append_left hj] at ec; exact ec
theorem gcR_up0 {is : List Nat} {h h' : Hh} {w : D} (a : Up is h h') (lim : w.lim h.length = true) : gcR h (.ok w h') = .ok w h' := gcR_len a.len lim
/-- a source of draws at cell i, drawn from at most c times -/
def Sr (h : Hh) (i : Nat) (c : Nat) : Prop := ∃ a b d : Int, h[i]? = some (.lst [.int a, .int b, .int d]) ∧ 0 ≤ d ∧ d ≤ c
theorem Sr.mono {h : Hh} {i c c' : Nat} (s : Sr h i c) (hc : c ≤ c') : Sr h i c' := let ⟨a, b, d, e, h0, h1⟩ := s; ⟨a, b, d, e, h0, by omega⟩
theorem Sr.lt {h : Hh} {i c : Nat} (s : Sr h i c) : i < h.length := let ⟨_, _, _, e, _, _⟩ := s; lt_of_get e
theorem Sr.app {h e : Hh} {i c : Nat} (s : Sr h i c) : Sr (h ++ e) i c := let ⟨a, b, d, e, h0, h1⟩ := s; ⟨a, b, d, app_get e, h0, h1⟩
theorem Sr.cut {h : Hh} {i c n : Nat} (s : Sr h i c) (hi : i < n) : Sr (h.take n) i c := let ⟨a, b, d, e, h0, h1⟩ := s; ⟨a, b, d, take_get e hi, h0, h1⟩
theorem Sr.up {h h' : Hh} {i c : Nat} {is : List Nat} (s : Sr h i c) (u : Up is h h') (hi : i ∉ is) : Sr h' i c := let ⟨a, b, d, e, h0, h1⟩ := s; ⟨a, b, d, u.get e hi, h0, h1⟩
theorem Sr.cell {h : Hh} {i c : Nat} (s : Sr h i c) (n : Nat) : ∃ x, h[i]? = some x ∧ x.lim n = true := let ⟨a, b, d, e, h0, h1⟩ := s; ⟨_, e, by simp⟩
theorem gcR_src {i c : Nat} {h e h' : Hh} {w : D} (a : Up [i] (h ++ e) h') (s : Sr h' i c) (lim : w.lim h.length = true) : gcR h (.ok w h') = .ok w (h'.take h.length) :=
  gcR_up a lim fun j hj _ => by
    have : j = i := by simpa using hj
    subst this
    obtain ⟨x, e1, e2⟩ := s.cell h.length
    exact ⟨x, e1, .inr e2⟩
theorem popAt_ref {h : Hh} {p r : Nat} {ws : List D} (e : h[p]? = some (.lst ws)) (hr : r < ws.length) (hl : ws.length < 1073741824) : popAtW (.ref p) (.int (r : Int)) h = .ok ws[r] (h.set p (.lst (ws.eraseIdx r))) := by
  have h1 : -(2 ^ 63 : Int) ≤ (r : Int) := by omega
  have h2 : (r : Int) < 2 ^ 63 := by omega
  have h3 : seqIndex? (r : Int) ws.length = some r := by
    unfold seqIndex?
    simp
    omega
  simp [popAtW, lstAt, e, h3, List.getElem?_eq_getElem hr]
  omega
theorem erase_perm {α : Type} : ∀ {l : List α} {r : Nat} (hr : r < l.length), l.Perm (l[r] :: l.eraseIdx r)
  | x :: l, 0, _ => .refl _
  | x :: l, r + 1, hr => by
    have := erase_perm (l := l) (r := r) (by simpa using hr)
    simp only [List.getElem_cons_succ, List.eraseIdx_cons_succ]
    exact (this.cons x).trans (.swap _ _ _)
theorem eraseIdx_map' {α β : Type} {f : α → β} : ∀ {l : List α} {r : Nat}, (l.map f).eraseIdx r = (l.eraseIdx r).map f
  | [], r => by simp
  | x :: l, 0 => by simp
  | x :: l, r + 1 => by simp [eraseIdx_map' (l := l) (r := r)]
theorem miR1_nat {m : M D} {σ : Sg} {h h1 : Hh} {n : Nat} (e : m σ h = .ok (.int n) h1) (hn : n < 1073741824) : miR1 m σ h = .ok (srcR 0 n) h1 := by
  unfold miR1
  rw [e, R.bind_ok]
  show (if _ then _ else _) = _
  rw [if_pos ⟨by omega, by omega⟩, Int.toNat_natCast]
theorem tyM_ref {h : Hh} {p : Nat} {ws : List D} (e : h[p]? = some (.lst ws)) : tyM h (.ref p) = some "list" := by simp [tyM, e]
theorem mM1_l {op : Op1} {o a : M D} {σ : Sg} {h h1 : Hh} {p : Nat} {ws : List D} (eo : o σ h = .ok (.ref p) h1) (e : h1[p]? = some (.lst ws)) : mM1 (on1 "list" op) o a σ h = (a σ h1).bind fun y h2 => op (.ref p) y h2 := by
  unfold mM1
  rw [eo, R.bind_ok, tyM_ref e]
  rfl
theorem mM0_l {op : Op0} {o : M D} {σ : Sg} {h h1 : Hh} {p : Nat} {ws : List D} (eo : o σ h = .ok (.ref p) h1) (e : h1[p]? = some (.lst ws)) : mM0 (on0 "list" op) o σ h = op (.ref p) h1 := by
  unfold mM0
  rw [eo, R.bind_ok, tyM_ref e]
  rfl
theorem append_ref {h : Hh} {p : Nat} {ws : List D} {y : D} (e : h[p]? = some (.lst ws)) (hl : ws.length < sizeLine) (hy : y.isTl = false) : appendW (.ref p) y h = .ok .non (h.set p (.lst (ws ++ [y]))) := by simp [appendW, lstAt, e, hl, hy]
theorem set_get {h : Hh} {p : Nat} {c : Cl} (hp : p < h.length) : (h.set p c)[p]? = some c := List.getElem?_set_self hp
theorem set_get_ne {h : Hh} {p q : Nat} {c : Cl} (hp : p ≠ q) : (h.set p c)[q]? = h[q]? := List.getElem?_set_ne hp
theorem app_last {h : Hh} {c : Cl} {r : Hh} : (h ++ c :: r)[h.length]? = some c := by simp
theorem app_next {h : Hh} {c d : Cl} {r : Hh} : (h ++ c :: d :: r)[h.length + 1]? = some d := by simp [List.getElem?_append_right]
theorem app_next2 {h : Hh} {c d e : Cl} {r : Hh} : (h ++ c :: d :: e :: r)[h.length + 2]? = some e := by simp [List.getElem?_append_right]
end PV
end
section
/-! PVP7: heaps that grow; operators as data. -/
namespace PV
open PySem PySem.Spec PyProof.Rows L2

/-- the heap changes at the cells is, and may grow -/
structure Ux (is : List Nat) (h h' : Hh) : Prop where
  len : h.length ≤ h'.length
  same : ∀ j, j < h.length → j ∉ is → h'[j]? = h[j]?
theorem Up.ux {is : List Nat} {h h' : Hh} (a : Up is h h') : Ux is h h' := ⟨Nat.le_of_eq a.len.symm, fun j _ hj => a.same j hj⟩
theorem Ux.trans {is : List Nat} {h h1 h2 : Hh} (a : Ux is h h1) (b : Ux is h1 h2) : Ux is h h2 := ⟨Nat.le_trans a.len b.len, fun j hj hi => (b.same j (Nat.lt_of_lt_of_le hj a.len) hi).trans (a.same j hj hi)⟩
theorem Ux.app {is : List Nat} {h e : Hh} : Ux is h (h ++ e) := ⟨by simp, fun j hj _ => List.getElem?_append_left hj⟩
theorem Ux.mono {is js : List Nat} {h h1 : Hh} (a : Ux is h h1) (s : ∀ i ∈ is, i < h.length → i ∈ js) : Ux js h h1 := ⟨a.len, fun j hj hm => a.same j hj fun z => hm (s j z hj)⟩
theorem Ux.get {is : List Nat} {h h1 : Hh} (a : Ux is h h1) {j : Nat} {c : Cl} (e : h[j]? = some c) (hj : j ∉ is) : h1[j]? = some c := (a.same j (lt_of_get e) hj).trans e
theorem gcR_ux {is : List Nat} {h e h' : Hh} {w : D} (a : Ux is (h ++ e) h') (lim : w.lim h.length = true) (hp : ∀ i ∈ is, i < h.length → ∃ c, h'[i]? = some c ∧ c.lim h.length = true) :
    ∃ h2, gcR h (.ok w h') = .ok w h2 ∧ Up is h h2 ∧ (∀ i, i < h.length → h2[i]? = h'[i]?) := by
  have hl := a.len
  rw [List.length_append] at hl
  refine ⟨h'.take h.length, gcR_cut lim (by omega) fun j c hj ec => ?_, ⟨by rw [List.length_take]; omega, fun j hj => ?_⟩, fun i hi => List.getElem?_take_of_lt hi⟩
  · by_cases hm : j ∈ is
    · obtain ⟨c', e1, e2⟩ := hp j hm hj
      rw [e1] at ec; cases ec; exact .inr e2
    · left
      rw [a.same j (by rw [List.length_append]; omega) hm, List.getElem?_append_left hj] at ec; exact ec
  · by_cases hlt : j < h.length
    · rw [List.getElem?_take_of_lt hlt, a.same j (by rw [List.length_append]; omega) hj, List.getElem?_append_left hlt]
    · rw [List.getElem?_eq_none (by rw [List.length_take]; omega), List.getElem?_eq_none (by omega)]
theorem gcR_sx {i c : Nat} {h e h' : Hh} {w : D} (a : Ux [i] (h ++ e) h') (s : Sr h' i c) (lim : w.lim h.length = true) (hi : i < h.length) : ∃ h2, gcR h (.ok w h') = .ok w h2 ∧ Up [i] h h2 ∧ Sr h2 i c := by
  obtain ⟨h2, e1, u, hs⟩ := gcR_ux a lim (fun j hj _ => by
    have : j = i := by simpa using hj
    subst this
    exact s.cell h.length)
  refine ⟨h2, e1, u, ?_⟩
  obtain ⟨x, y, d, e2, h0, h1⟩ := s
  exact ⟨x, y, d, (hs i hi).trans e2, h0, h1⟩
theorem gcR_sx0 {i c : Nat} {h h' : Hh} {w : D} (a : Ux [i] h h') (s : Sr h' i c) (lim : w.lim h.length = true) (hi : i < h.length) : ∃ h2, gcR h (.ok w h') = .ok w h2 ∧ Up [i] h h2 ∧ Sr h2 i c :=
  gcR_sx (e := []) (by rw [List.append_nil]; exact a) s lim hi
/-- nothing was written -/
theorem gcR_ro {h e h' : Hh} {w : D} (a : Ux [] (h ++ e) h') (lim : w.lim h.length = true) : gcR h (.ok w h') = .ok w h := by
  obtain ⟨h2, e1, u, _⟩ := gcR_ux a lim (fun i hi => by simp at hi)
  rw [e1]
  have : h2 = h := by
    apply List.ext_getElem?
    intro j
    exact u.same j (by simp)
  rw [this]
theorem gcR_ro0 {h h' : Hh} {w : D} (a : Ux [] h h') (lim : w.lim h.length = true) : gcR h (.ok w h') = .ok w h := gcR_ro (e := []) (by rw [List.append_nil]; exact a) lim
@[simp] theorem gcR_app {h e : Hh} {w : D} (lim : w.lim h.length = true) : gcR h (.ok w (h ++ e)) = .ok w h := gcR_ro0 .app lim

/-! ### operators -/
structure Opr where
  kind : Str
  words : List Str
  deriving DecidableEq, Inhabited
def Opr.enc (o : Opr) : D := .tup [.str o.kind, .tup (o.words.map .str)]
def Opr.L (o : Opr) : Bool := decide (o.kind ∈ [("infix" : Str), "postfix"])
def Opr.Rr (o : Opr) : Bool := decide (o.kind ∈ [("infix" : Str), "prefix"])
def Opr.S (o : Opr) : Bool := decide (o.kind ∈ [("prefix" : Str), "closed"])
def kinds : List Str := ["closed", "infix", "postfix", "prefix"]
theorem Opr.enc_tl {o : Opr} : o.enc.isTl = false := rfl
theorem Opr.enc_lim {o : Opr} {n : Nat} : o.enc.lim n = true := by simp [Opr.enc]
@[simp] theorem stash_enc {o : Opr} {h : Hh} : stash o.enc h = (o.enc, h) := rfl
theorem lims_enc {ops : List Opr} {n : Nat} : D.lims n (ops.map Opr.enc) = true := lims_all fun w hw => by
  obtain ⟨o, _, rfl⟩ := List.mem_map.mp hw; exact o.enc_lim
def poolA : List Str := ["!", "\u0023", "$", "&", "*", "+", ",", "-", ".", "/", ":", ";", "<", "=", ">"]
def poolB : List Str := ["?", "\u0040", "[", "]", "^", "_", "{", "|", "}", "~"]
def poolC : List Str := ["if", "then", "else", "and", "or", "not", "is", "z9"]
def poolD : List Str := ["--", "**", "lengthy8", "of", "in", "to", "by", "=>", "((", "f(", ")x"]
/-- the words that the laws draw from -/
def poolY : List Str := (poolA ++ poolB) ++ poolC ++ poolD
/-- words that some laws write -/
def poolE : List Str := ["last", "end", "op", "do", "o0x", "o1x", "o2x", "o3x", "o4x", "o5x", "o6x", "o7x", "o8x", "o9x", "o10x", "o11x", "o0y", "o1y", "o2y", "o3y", "o4y", "o5y", "o6y", "o7y", "o8y", "o9y", "o10y", "o11y"]
def pool0 : List Str := poolY ++ poolE
theorem poolY_nodup : poolY.Nodup := by decide +kernel
theorem y0 {x : Str} (h : x ∈ poolY) : x ∈ pool0 := List.mem_append_left _ h
theorem poolE_new : ∀ x ∈ poolE, x ∉ poolY := by decide +kernel
theorem pool0_ok : ∀ x ∈ pool0, PyData.strOk x = true := by decide +kernel
theorem kinds_ok : ∀ x ∈ kinds, PyData.strOk x = true := by decide +kernel
def firsts (b : Bool) (ops : List Opr) : List Str := ops.filterMap fun o => if o.S = b then o.words.head? else none
def laters (ops : List Opr) : List Str := ops.flatMap fun o => o.words.tail
/-- an operator's kind and number of words -/
structure OprOk (o : Opr) : Prop where
  kd : o.kind ∈ kinds
  l1 : 1 ≤ o.words.length
  l3 : o.words.length ≤ 3
  l2 : o.kind = "closed" → 2 ≤ o.words.length
  w0 : ∀ x ∈ o.words, x ∈ pool0
/-- a list of operators whose words do not meet where they must not -/
structure OpsOk (ops : List Opr) : Prop where
  ok : ∀ o ∈ ops, OprOk o
  nd : ∀ b, (firsts b ops).Nodup
  lt : (laters ops).Nodup
  ld : ∀ x ∈ laters ops, ∀ b, x ∉ firsts b ops
/-- while it is made: the words left, the first words of one role alone -/
structure OpI (pool : List Str) (sh : Bool → List Str) (ops : List Opr) : Prop where
  oo : OpsOk ops
  pn : pool.Nodup
  p0 : ∀ x ∈ pool, x ∈ poolY
  dp : ∀ o ∈ ops, ∀ x ∈ o.words, x ∉ pool
  sn : ∀ b, (sh b).Nodup
  si : ∀ b, ∀ x ∈ sh b, x ∈ firsts b ops
  sd : ∀ b, ∀ x ∈ sh b, x ∉ firsts (!b) ops
  wy : ∀ o ∈ ops, ∀ x ∈ o.words, x ∈ poolY
theorem firsts_mem {b : Bool} {ops : List Opr} {x : Str} (h : x ∈ firsts b ops) : ∃ o ∈ ops, o.S = b ∧ o.words.head? = some x := by
  unfold firsts at h
  obtain ⟨o, ho, e⟩ := List.mem_filterMap.mp h
  by_cases hb : o.S = b
  · rw [if_pos hb] at e; exact ⟨o, ho, hb, e⟩
  · rw [if_neg hb] at e; cases e
theorem firsts_word {b : Bool} {ops : List Opr} {x : Str} (h : x ∈ firsts b ops) : ∃ o ∈ ops, x ∈ o.words := by
  obtain ⟨o, ho, _, e⟩ := firsts_mem h
  exact ⟨o, ho, List.mem_of_mem_head? (by rw [e]; rfl)⟩
theorem laters_word {ops : List Opr} {x : Str} (h : x ∈ laters ops) : ∃ o ∈ ops, x ∈ o.words := by
  unfold laters at h
  obtain ⟨o, ho, e⟩ := List.mem_flatMap.mp h
  exact ⟨o, ho, List.mem_of_mem_tail e⟩
theorem firsts_snoc {b : Bool} {ops : List Opr} {o : Opr} {x : Str} {r : List Str} (e : o.words = x :: r) : firsts b (ops ++ [o]) = firsts b ops ++ if o.S = b then [x] else [] := by
  unfold firsts
  rw [List.filterMap_append]
  by_cases hb : o.S = b
  · simp [hb, e]
  · simp [hb]
theorem laters_snoc {ops : List Opr} {o : Opr} {x : Str} {r : List Str} (e : o.words = x :: r) : laters (ops ++ [o]) = laters ops ++ r := by
  unfold laters
  simp [e]
theorem nodup_snoc {α : Type} {l : List α} {x : α} (h : l.Nodup) (hx : x ∉ l) : (l ++ [x]).Nodup := by
  rw [List.nodup_append]
  exact ⟨h, by simp, fun a ha b hb => by
    have : b = x := by simpa using hb
    subst this; intro z; subst z; exact hx ha⟩
/-- one more operator: its first word x is new to its role, its later words r are new -/
theorem OpsOk.snoc {ops : List Opr} {o : Opr} {x : Str} {r : List Str} (I : OpsOk ops) (ho : OprOk o) (e : o.words = x :: r) (hx : x ∉ firsts o.S ops) (hxl : x ∉ laters ops) (rn : r.Nodup) (rx : x ∉ r) (rf : ∀ y ∈ r, ∀ b, y ∉ firsts b ops) (rl : ∀ y ∈ r, y ∉ laters ops) : OpsOk (ops ++ [o]) := by
  refine ⟨fun o' h' => ?_, fun b => ?_, ?_, fun y hy b hb => ?_⟩
  · rcases List.mem_append.mp h' with h' | h'
    · exact I.ok o' h'
    · have : o' = o := by simpa using h'
      subst this; exact ho
  · rw [firsts_snoc e]
    by_cases hb : o.S = b
    · subst hb
      rw [if_pos rfl]
      exact nodup_snoc (I.nd _) hx
    · rw [if_neg hb, List.append_nil]; exact I.nd b
  · rw [laters_snoc e, List.nodup_append]
    exact ⟨I.lt, rn, fun a ha b hb z => by subst z; exact rl a hb ha⟩
  · rw [laters_snoc e] at hy
    rw [firsts_snoc e] at hb
    rcases List.mem_append.mp hy with hy | hy
    · rcases List.mem_append.mp hb with hb | hb
      · exact I.ld y hy b hb
      · by_cases hs : o.S = b
        · rw [if_pos hs] at hb
          have : y = x := by simpa using hb
          subst this; exact hxl hy
        · rw [if_neg hs] at hb; simp at hb
    · rcases List.mem_append.mp hb with hb | hb
      · exact rf y hy b hb
      · by_cases hs : o.S = b
        · rw [if_pos hs] at hb
          have : y = x := by simpa using hb
          subst this; exact rx hy
        · rw [if_neg hs] at hb; simp at hb
section
variable {pool pool' ws : List Str} {sh : Bool → List Str} {ops : List Opr}
theorem OpI.split (I : OpI pool sh ops) (p : pool.Perm (ws ++ pool')) : ws.Nodup ∧ pool'.Nodup ∧ (∀ x ∈ ws, x ∉ pool') ∧ (∀ x ∈ ws, x ∈ pool) ∧ (∀ x ∈ pool', x ∈ pool) := by
  have n := p.nodup I.pn
  rw [List.nodup_append] at n
  exact ⟨n.1, n.2.1, fun x hx hp => n.2.2 x hx x hp rfl, fun x hx => p.symm.subset (List.mem_append_left _ hx), fun x hx => p.symm.subset (List.mem_append_right _ hx)⟩
theorem OpI.new (I : OpI pool sh ops) {x : Str} (hx : x ∈ pool) : (∀ b, x ∉ firsts b ops) ∧ x ∉ laters ops :=
  ⟨fun b h => by obtain ⟨o, ho, hw⟩ := firsts_word h; exact I.dp o ho x hw hx, fun h => by obtain ⟨o, ho, hw⟩ := laters_word h; exact I.dp o ho x hw hx⟩
/-- all words new -/
theorem OpI.add (I : OpI pool sh ops) {x : Str} {r : List Str} (p : pool.Perm ((x :: r) ++ pool')) {kd : Str} (ho : OprOk ⟨kd, x :: r⟩) : OpI pool' (fun b => if b = Opr.S ⟨kd, x :: r⟩ then sh b ++ [x] else sh b) (ops ++ [⟨kd, x :: r⟩]) := by
  obtain ⟨wn, pn, wp, wi, pi⟩ := I.split p
  rw [List.nodup_cons] at wn
  have nx := I.new (wi x (by simp))
  refine ⟨I.oo.snoc ho rfl (nx.1 _) nx.2 wn.2 wn.1 (fun y hy b => (I.new (wi y (by simp [hy]))).1 b) (fun y hy => (I.new (wi y (by simp [hy]))).2), pn, fun y hy => I.p0 y (pi y hy), fun o ho' y hy hp => ?_, fun b => ?_, fun b y hy => ?_, fun b y hy hf => ?_, fun o ho' y hy => ?_⟩
  · rcases List.mem_append.mp ho' with h' | h'
    · exact I.dp o h' y hy (pi y hp)
    · have : o = ⟨kd, x :: r⟩ := by simpa using h'
      subst this; exact wp y hy hp
  · show (if _ then _ else _ : List Str).Nodup
    split
    · exact nodup_snoc (I.sn b) fun h => nx.1 b (I.si b x h)
    · exact I.sn b
  · rw [firsts_snoc (x := x) (r := r) rfl]
    by_cases hb : b = Opr.S ⟨kd, x :: r⟩
    · rw [if_pos hb] at hy
      rw [if_pos hb.symm]
      rcases List.mem_append.mp hy with hy | hy
      · exact List.mem_append_left _ (I.si b y hy)
      · exact List.mem_append_right _ hy
    · rw [if_neg hb] at hy
      exact List.mem_append_left _ (I.si b y hy)
  · rw [firsts_snoc (x := x) (r := r) rfl] at hf
    by_cases hb : b = Opr.S ⟨kd, x :: r⟩
    · rw [if_pos hb] at hy
      rw [if_neg (by rw [← hb]; cases b <;> simp), List.append_nil] at hf
      rcases List.mem_append.mp hy with hy | hy
      · exact I.sd b y hy hf
      · have : y = x := by simpa using hy
        subst this; exact nx.1 _ hf
    · rw [if_neg hb] at hy
      have hb2 : Opr.S ⟨kd, x :: r⟩ = !b := by revert hb; cases b <;> cases Opr.S ⟨kd, x :: r⟩ <;> simp
      rw [if_pos hb2] at hf
      rcases List.mem_append.mp hf with hf | hf
      · exact I.sd b y hy hf
      · have : y = x := by simpa using hf
        subst this; exact nx.1 b (I.si b y hy)
  · rcases List.mem_append.mp ho' with h' | h'
    · exact I.wy o h' y hy
    · have : o = ⟨kd, x :: r⟩ := by simpa using h'
      subst this; exact I.p0 y (wi y hy)
/-- the first word x is one of the other role -/
theorem OpI.share (I : OpI pool sh ops) {x z : Str} {r rest : List Str} (p : pool.Perm ((z :: r) ++ pool')) {kd : Str} (ho : OprOk ⟨kd, x :: r⟩) (hx : (sh (!Opr.S ⟨kd, x :: r⟩)).Perm (x :: rest)) : OpI pool' (fun b => if b = (!Opr.S ⟨kd, x :: r⟩) then rest else sh b) (ops ++ [⟨kd, x :: r⟩]) := by
  obtain ⟨wn, pn, wp, wi, pi⟩ := I.split p
  rw [List.nodup_cons] at wn
  generalize hS : Opr.S ⟨kd, x :: r⟩ = S at hx ⊢
  have xm : x ∈ sh (!S) := hx.symm.subset (by simp)
  have xf := I.si _ x xm
  have xd := I.sd _ x xm
  rw [Bool.not_not] at xd
  obtain ⟨ox, hox, hwx⟩ := firsts_word xf
  have xp : x ∉ pool := I.dp ox hox x hwx
  have nd := hx.nodup (I.sn _)
  rw [List.nodup_cons] at nd
  have sub : ∀ y ∈ rest, y ∈ sh (!S) := fun y hy => hx.symm.subset (by simp [hy])
  refine ⟨I.oo.snoc ho rfl (by rw [hS]; exact xd) (fun h => I.oo.ld x h _ xf) wn.2 (fun h => xp (wi x (by simp [h]))) (fun y hy b => (I.new (wi y (by simp [hy]))).1 b) (fun y hy => (I.new (wi y (by simp [hy]))).2), pn, fun y hy => I.p0 y (pi y hy), fun o ho' y hy hp => ?_, fun b => ?_, fun b y hy => ?_, fun b y hy hf => ?_, fun o ho' y hy => ?_⟩
  · rcases List.mem_append.mp ho' with h' | h'
    · exact I.dp o h' y hy (pi y hp)
    · have : o = ⟨kd, x :: r⟩ := by simpa using h'
      subst this
      rcases List.mem_cons.mp hy with hy | hy
      · subst hy; exact xp (pi y hp)
      · exact wp y (by simp [hy]) hp
  · show (if _ then _ else _ : List Str).Nodup
    split
    · exact nd.2
    · exact I.sn b
  · rw [firsts_snoc (x := x) (r := r) rfl]
    refine List.mem_append_left _ ?_
    by_cases hb : b = !S
    · rw [if_pos hb] at hy
      rw [hb]
      exact I.si _ y (sub y hy)
    · rw [if_neg hb] at hy
      exact I.si b y hy
  · rw [firsts_snoc (x := x) (r := r) rfl, hS] at hf
    by_cases hb : b = !S
    · rw [if_pos hb] at hy
      have hb2 : S = !b := by rw [hb, Bool.not_not]
      rw [if_pos hb2] at hf
      rcases List.mem_append.mp hf with hf | hf
      · exact I.sd b y (by rw [hb]; exact sub y hy) hf
      · have : y = x := by simpa using hf
        subst this; exact nd.1 hy
    · rw [if_neg hb] at hy
      have hb2 : ¬ S = !b := fun z => hb (by rw [z, Bool.not_not])
      rw [if_neg hb2, List.append_nil] at hf
      exact I.sd b y hy hf
  · rcases List.mem_append.mp ho' with h' | h'
    · exact I.wy o h' y hy
    · have : o = ⟨kd, x :: r⟩ := by simpa using h'
      subst this
      rcases List.mem_cons.mp hy with hy | hy
      · subst hy; exact I.wy ox hox y hwx
      · exact I.p0 y (wi y (by simp [hy]))
theorem OpI.congr {sh' : Bool → List Str} (I : OpI pool sh ops) (h : ∀ b, sh b = sh' b) : OpI pool sh' ops := by
  have : sh = sh' := funext h
  rw [← this]; exact I
theorem OpI.start : OpI poolY (fun _ => []) [] := ⟨⟨by simp, by simp [firsts], by simp [laters], by simp [laters]⟩, poolY_nodup, fun _ h => h, by simp, by simp, by simp, by simp, by simp⟩
end
end PV
end
section
/-! PVP8: comparisons of lists of strs. -/
namespace PV
open PySem PySem.Spec PyProof.Rows L2
theorem sz {n : Nat} (h : n ≤ 16777216) : n ≤ sizeLine := h
theorem szl {n : Nat} (h : n < 16777216) : n < sizeLine := h
@[simp] theorem sz_1 : ((1 : Nat) ≤ sizeLine) = True := eq_true (sz (by decide))
@[simp] theorem sz_2 : ((2 : Nat) ≤ sizeLine) = True := eq_true (sz (by decide))
@[simp] theorem sz_3 : ((3 : Nat) ≤ sizeLine) = True := eq_true (sz (by decide))
@[simp] theorem sz_4 : ((4 : Nat) ≤ sizeLine) = True := eq_true (sz (by decide))
@[simp] theorem sz_5 : ((5 : Nat) ≤ sizeLine) = True := eq_true (sz (by decide))
@[simp] theorem sz_6 : ((6 : Nat) ≤ sizeLine) = True := eq_true (sz (by decide))
@[simp] theorem sz_7 : ((7 : Nat) ≤ sizeLine) = True := eq_true (sz (by decide))
@[simp] theorem sz_8 : ((8 : Nat) ≤ sizeLine) = True := eq_true (sz (by decide))
@[simp] theorem sz_9 : ((9 : Nat) ≤ sizeLine) = True := eq_true (sz (by decide))
@[simp] theorem sz_10 : ((10 : Nat) ≤ sizeLine) = True := eq_true (sz (by decide))
@[simp] theorem sz_11 : ((11 : Nat) ≤ sizeLine) = True := eq_true (sz (by decide))
@[simp] theorem sz_12 : ((12 : Nat) ≤ sizeLine) = True := eq_true (sz (by decide))
@[simp] theorem sz_13 : ((13 : Nat) ≤ sizeLine) = True := eq_true (sz (by decide))
@[simp] theorem sz_14 : ((14 : Nat) ≤ sizeLine) = True := eq_true (sz (by decide))
@[simp] theorem sz_15 : ((15 : Nat) ≤ sizeLine) = True := eq_true (sz (by decide))
@[simp] theorem sz_16 : ((16 : Nat) ≤ sizeLine) = True := eq_true (sz (by decide))
@[simp] theorem sz_17 : ((17 : Nat) ≤ sizeLine) = True := eq_true (sz (by decide))
@[simp] theorem sz_18 : ((18 : Nat) ≤ sizeLine) = True := eq_true (sz (by decide))
@[simp] theorem sz_19 : ((19 : Nat) ≤ sizeLine) = True := eq_true (sz (by decide))
@[simp] theorem sz_20 : ((20 : Nat) ≤ sizeLine) = True := eq_true (sz (by decide))
@[simp] theorem sz_21 : ((21 : Nat) ≤ sizeLine) = True := eq_true (sz (by decide))
@[simp] theorem sz_22 : ((22 : Nat) ≤ sizeLine) = True := eq_true (sz (by decide))
@[simp] theorem sz_23 : ((23 : Nat) ≤ sizeLine) = True := eq_true (sz (by decide))
@[simp] theorem sz_24 : ((24 : Nat) ≤ sizeLine) = True := eq_true (sz (by decide))
@[simp] theorem sz_25 : ((25 : Nat) ≤ sizeLine) = True := eq_true (sz (by decide))
@[simp] theorem sz_26 : ((26 : Nat) ≤ sizeLine) = True := eq_true (sz (by decide))
@[simp] theorem sz_27 : ((27 : Nat) ≤ sizeLine) = True := eq_true (sz (by decide))
@[simp] theorem sz_28 : ((28 : Nat) ≤ sizeLine) = True := eq_true (sz (by decide))
@[simp] theorem sz_29 : ((29 : Nat) ≤ sizeLine) = True := eq_true (sz (by decide))
@[simp] theorem sz_30 : ((30 : Nat) ≤ sizeLine) = True := eq_true (sz (by decide))
@[simp] theorem sz_31 : ((31 : Nat) ≤ sizeLine) = True := eq_true (sz (by decide))
@[simp] theorem sz_32 : ((32 : Nat) ≤ sizeLine) = True := eq_true (sz (by decide))
@[simp] theorem sz_33 : ((33 : Nat) ≤ sizeLine) = True := eq_true (sz (by decide))
@[simp] theorem sz_34 : ((34 : Nat) ≤ sizeLine) = True := eq_true (sz (by decide))
@[simp] theorem sz_35 : ((35 : Nat) ≤ sizeLine) = True := eq_true (sz (by decide))
@[simp] theorem sz_36 : ((36 : Nat) ≤ sizeLine) = True := eq_true (sz (by decide))
@[simp] theorem sz_37 : ((37 : Nat) ≤ sizeLine) = True := eq_true (sz (by decide))
@[simp] theorem sz_38 : ((38 : Nat) ≤ sizeLine) = True := eq_true (sz (by decide))
@[simp] theorem sz_39 : ((39 : Nat) ≤ sizeLine) = True := eq_true (sz (by decide))
@[simp] theorem sz_40 : ((40 : Nat) ≤ sizeLine) = True := eq_true (sz (by decide))
@[simp] theorem eqW_str {a b : Str} {h : Hh} : eqW (.str a) (.str b) h = .ok (.bl (decide (a = b))) h := id rfl
@[simp] theorem neW_str {a b : Str} {h : Hh} : neW (.str a) (.str b) h = .ok (.bl (!decide (a = b))) h := id rfl
theorem shaped_int {i : Int} : SeqAt.shaped (.int i) = true := by simp [SeqAt.shaped, PyData.canLay0, PyData.depth]
theorem eqW_int {i j : Int} {h : Hh} : eqW (.int i) (.int j) h = .ok (.bl (decide (i = j))) h := by
  have e1 : toP h deep (.int i) = some (.int i) := rfl
  have e2 : toP h deep (.int j) = some (.int j) := rfl
  have e3 : PyData.eqv (.int i) (.int j) = decide (i = j) := by
    rw [Bool.eq_iff_iff]
    simp [PyData.eqv]
  simp only [eqW, eqD, e1, e2, shaped_int, Bool.and_self, if_true, e3]
theorem shaped_list {ds : List PyData} {n : Nat} (hn : n < 64) (h : ∀ d ∈ ds, d.canLay0 = true) (hd : ∀ d ∈ ds, d.depth ≤ n) : SeqAt.shaped (.list ds) = true := by
  have := depth_all hd
  simp [SeqAt.shaped, PyData.canLay0, canLay_all h, PyData.depth]
  omega
theorem toP_strs {h : Hh} {n : Nat} {l : List Str} : mapO (toP h (n + 1)) (l.map .str) = some (l.map .str) := mapO_map (f := toP h (n + 1)) (g := D.str) (k := PyData.str) fun x _ => rfl
theorem toP_ints {h : Hh} {n : Nat} {l : List Int} : mapO (toP h (n + 1)) (l.map .int) = some (l.map .int) := mapO_map (f := toP h (n + 1)) (g := D.int) (k := PyData.int) fun x _ => rfl
theorem shaped_strs {l : List Str} (hs : ∀ s ∈ l, PyData.strOk s = true) : SeqAt.shaped (.list (l.map .str)) = true := shaped_list (n := 0) (by omega) (fun d hd => by
    obtain ⟨s, hs', rfl⟩ := List.mem_map.mp hd
    simp [PyData.canLay0, hs s hs']) (fun d hd => by
    obtain ⟨s, hs', rfl⟩ := List.mem_map.mp hd
    simp [PyData.depth])
theorem toP_refS {h : Hh} {q n : Nat} {l : List Str} (e : h[q]? = some (.lst (l.map .str))) : toP h (n + 2) (.ref q) = some (.list (l.map .str)) := by
  show (match h[q]? with
      | some (.lst ws) => (mapO (toP h (n + 1)) ws).map PyData.list
      | _ => none) = _
  rw [e]
  simp only [toP_strs, Option.map_some]
theorem neW_nil {h : Hh} {q : Nat} {l : List Str} (e : h[q]? = some (.lst (l.map .str))) (hs : ∀ s ∈ l, PyData.strOk s = true) : neW (.ref q) (.tl []) h = .ok (.bl (!l.isEmpty)) h := by
  have e1 : toP h deep (.ref q) = some (.list (l.map .str)) := toP_refS e
  have e2 : toP h deep (.tl []) = some (.list []) := rfl
  have s1 := shaped_strs hs
  have s2 : SeqAt.shaped (.list []) = true := by decide +kernel
  have e3 : PyData.eqv (.list (l.map .str)) (.list []) = l.isEmpty := by
    cases l <;> simp [PyData.eqv, PyData.eqvAll]
  simp only [neW, eqD, e1, e2, s1, s2, Bool.and_self, if_true, e3]
section
variable {σ : Sg} {h : Hh} {m o a b : M D} {ts : List Tg} {t : Tg} {ws : List D} {w : D} {i : Nat}
@[simp] theorem msAsgT_ap : msAsg (.tu ts) m σ h = (m σ h).then σ fun w h1 => match Tg.set (.tu ts) (stash w h1).1 σ (stash w h1).2 with
  | some σ1 => .nx σ1 (stash w h1).2
  | none => .bad := id rfl
@[simp] theorem tgset_nm : Tg.set (.nm i) w σ h = some (σ.set i (some w)) := by simp only [Tg.set]
@[simp] theorem tgset_tup : Tg.set (.tu ts) (.tup ws) σ h = Tg.sets ts ws σ h := by simp only [Tg.set, asT]
@[simp] theorem tgsets_nil : Tg.sets [] [] σ h = some σ := by simp only [Tg.sets]
@[simp] theorem tgsets_cons : Tg.sets (t :: ts) (w :: ws) σ h = (Tg.set t w σ h).bind fun σ1 => Tg.sets ts ws σ1 h := by
  simp only [Tg.sets]
  cases Tg.set t w σ h <;> rfl
@[simp] theorem mM0_ap {f : String → Option Op0} : mM0 f o σ h = (o σ h).bind fun x h1 => match tyM h1 x with
  | some T => match f T with
    | some op => op x h1
    | none => .bad
  | none => .bad := id rfl
@[simp] theorem mM1_ap {f : String → Option Op1} : mM1 f o a σ h = (o σ h).bind fun x h1 => match tyM h1 x with
  | some T => match f T with
    | some op => (a σ h1).bind fun y h2 => op x y h2
    | none => .bad
  | none => .bad := id rfl
@[simp] theorem mM2_ap {f : String → Option Op2} : mM2 f o a b σ h = (o σ h).bind fun x h1 => match tyM h1 x with
  | some T => match f T with
    | some op => (a σ h1).bind fun y h2 => (b σ h2).bind fun z h3 => op x y z h3
    | none => .bad
  | none => .bad := id rfl
@[simp] theorem on0_same {T : String} {op : Op0} : on0 T op T = some op := by simp [on0]
@[simp] theorem on1_same {T : String} {op : Op1} : on1 T op T = some op := by simp [on1]
@[simp] theorem on2_same {T : String} {op : Op2} : on2 T op T = some op := by simp [on2]
@[simp] theorem tyM_str {x : Str} : tyM h (.str x) = some "str" := rfl
end
/-! ### slices and sums of tuples -/
theorem slT_1 {h : Hh} {w : D} {ws : List D} : slW (.tup (w :: ws)) (some 1) none h = .ok (.tup ws) h := by
  have e1 : HT.sIx (w :: ws).length 0 (some 1) = 1 := by simp [HT.sIx]
  have e2 : HT.sIx (w :: ws).length (w :: ws).length none = (w :: ws).length := rfl
  simp only [slW, asL, asT, e1, e2]
  rw [if_neg (by omega)]
  simp only [cutD, e1, e2]
  simp
theorem addT {h : Hh} {xs ys : List D} (hl : xs.length + ys.length ≤ 16777216) : addW (.tup xs) (.tup ys) h = .ok (.tup (xs ++ ys)) h := by
  have hl' : xs.length + ys.length ≤ sizeLine := hl
  simp only [addW, asT, hl', if_true]
  by_cases h1 : xs = []
  · simp [h1]
  · by_cases h2 : ys = []
    · simp [h1, h2]
    · simp [h1, h2]
end PV
end
section
/-! PVP9: a law's last def. -/
namespace PV
open PySem PySem.Spec PyProof.Rows L2
theorem gcR_last {h h' : Hh} {c : Cl} {w : D} (a : Ux [h.length] (h ++ [c]) h') (lim : w.lim h.length = true) : gcR h (.ok w h') = .ok w h := by
  obtain ⟨h2, e1, u, _⟩ := gcR_ux a lim (fun i hi hl => by
    have : i = h.length := by simpa using hi
    omega)
  rw [e1]
  have : h2 = h := by
    apply List.ext_getElem?
    intro j
    by_cases hj : j = h.length
    · subst hj
      rw [List.getElem?_eq_none (by rw [u.len]; omega), List.getElem?_eq_none (by omega)]
    · exact u.same j (by simpa using hj)
  rw [this]
theorem pow18 {h : Hh} : powW (.int 10) (.int 18) h = .ok (.int 1000000000000000000) h := by rfl
theorem pow60 {h : Hh} : ∃ z : Int, 0 < z ∧ powW (.int 10) (.int 60) h = .ok (.int z) h ∧ ∃ y : Int, 0 < y ∧ powW (.int z) (.int 4) h = .ok (.int y) h :=
  ⟨10 ^ 60, by decide, by rfl, (10 ^ 60) ^ 4, by decide, by rfl⟩
theorem mapO_trues {α : Type} : ∀ {l : List α}, mapO toB (l.map fun _ => D.bl true) = some (l.map fun _ => true)
  | [] => rfl
  | _ :: l => by
    have := mapO_trues (l := l)
    simp only [List.map_cons, mapO, toB, this]
theorem allW_trues {α : Type} {h : Hh} {l : List α} : allW (.tl (l.map fun _ => D.bl true)) h = .ok (.bl true) h := by
  simp only [allW, asL, mapO_trues]
  congr 2
  induction l with
  | nil => rfl
  | cons a l ih => simp
end PV
end
section
/-! PVP10: repr of small data. -/
namespace PV
open PySem PySem.Spec PyProof.Rows L2
/-- data that can be shown: its depth, the length of its text -/
structure PN (n l : Nat) (d : PyData) : Prop where
  lay : d.canLay0 = true
  sh : d.showable = true
  dp : d.depth ≤ n
  ln : d.shown.length ≤ l
theorem PN.mono {n l n' l' : Nat} {d : PyData} (p : PN n l d) (hn : n ≤ n') (hl : l ≤ l') : PN n' l' d := ⟨p.lay, p.sh, Nat.le_trans p.dp hn, Nat.le_trans p.ln hl⟩
theorem PN.shaped {n l : Nat} {d : PyData} (p : PN n l d) (hn : n ≤ 64) : SeqAt.shaped d = true := by
  have := p.dp
  simp [SeqAt.shaped, p.lay]
  omega
theorem pn_bool {b : Bool} : PN 0 5 (.bool b) := ⟨rfl, rfl, by simp [PyData.depth], by cases b <;> decide⟩
theorem pn_none : PN 0 4 .none := ⟨rfl, rfl, by simp [PyData.depth], by decide⟩
theorem log2_lt {n k : Nat} (h : n < 2 ^ k) (hk : 0 < k) : n.log2 < k := by
  by_cases h0 : n = 0
  · subst h0; simpa using hk
  · exact (Nat.log2_lt h0).mpr h
theorem pn_nat {i : Nat} (h : i < 1000000000000) : PN 0 12 (.int i) := by
  refine ⟨rfl, ?_, by simp [PyData.depth], ?_⟩
  · simp only [PyData.showable, Int.natAbs_natCast, decide_eq_true_eq]
    exact Nat.lt_trans (log2_lt (k := 40) (Nat.lt_trans h (by decide)) (by decide)) (by decide)
  · show (Str.ofString (toString (i : Int))).length ≤ 12
    exact toString_length_le (by omega) (by decide) (by omega)
theorem shownAll_len {l : Nat} : ∀ {ds : List PyData}, (∀ d ∈ ds, d.shown.length ≤ l) → ((PyData.shownAll ds).map (·.length)).sum + 2 * ds.length ≤ ds.length * (l + 2)
  | [], _ => by simp [PyData.shownAll]
  | d :: ds, h => by
    have h1 := h d (by simp)
    have h2 := shownAll_len fun x hx => h x (List.mem_cons_of_mem _ hx)
    simp only [PyData.shownAll, List.map_cons, List.sum_cons, List.length_cons, Nat.add_mul]
    omega
theorem showable_all : ∀ {ds : List PyData}, (∀ d ∈ ds, d.showable = true) → PyData.showableAll ds = true
  | [], _ => by simp [PyData.showableAll]
  | d :: ds, h => by
    simp only [PyData.showableAll, Bool.and_eq_true]
    exact ⟨h d (by simp), showable_all fun x hx => h x (by simp [hx])⟩
theorem pn_tuple {n l : Nat} {ds : List PyData} (h : ∀ d ∈ ds, PN n l d) : PN (n + 1) (ds.length * (l + 2) + 3) (.tuple ds) := by
  have h1 := shownAll_len fun d hd => (h d hd).ln
  have h2 := tupleText_len_le (PyData.shownAll ds)
  have h3 := PyData.shownAll_length ds
  have h4 := depth_all fun d hd => (h d hd).dp
  refine ⟨by simp only [PyData.canLay0]; exact canLay_all fun d hd => (h d hd).lay, by simp only [PyData.showable]; exact showable_all fun d hd => (h d hd).sh, by simp only [PyData.depth]; omega, ?_⟩
  simp only [PyData.shown]
  omega
theorem pn_list {n l : Nat} {ds : List PyData} (h : ∀ d ∈ ds, PN n l d) : PN (n + 1) (ds.length * (l + 2) + 3) (.list ds) := by
  have h1 := shownAll_len fun d hd => (h d hd).ln
  have h2 := listText_len_le (PyData.shownAll ds)
  have h3 := PyData.shownAll_length ds
  have h4 := depth_all fun d hd => (h d hd).dp
  refine ⟨by simp only [PyData.canLay0]; exact canLay_all fun d hd => (h d hd).lay, by simp only [PyData.showable]; exact showable_all fun d hd => (h d hd).sh, by simp only [PyData.depth]; omega, ?_⟩
  simp only [PyData.shown]
  omega
/-- repr of what can be shown -/
theorem reprW_ok {x : D} {h : Hh} {d : PyData} {n l : Nat} (e : toP h deep x = some d) (p : PN n l d) (hn : n ≤ 64) (hl : l ≤ 16777216) : reprW x h = .ok (.str d.shown) h := by
  have h1 : d.shown.length ≤ sizeLine := sz (Nat.le_trans p.ln hl)
  simp [reprW, e, p.sh, h1, p.shaped hn]
theorem neW_same {x y : D} {h : Hh} {d : PyData} {n l : Nat} (e1 : toP h deep x = some d) (e2 : toP h deep y = some d) (p : PN n l d) (hn : n ≤ 64) (hx : ∀ a, x ≠ .str a) : neW x y h = .ok (.bl false) h := by
  have s := p.shaped hn
  have r : PyData.eqv d d = true := SeqAt.eqv_refl d p.lay
  cases x <;> first
    | exact absurd rfl (hx _)
    | simp only [neW, eqD, e1, e2, s, Bool.and_self, if_true, r, Bool.not_true]
end PV
end
section
/-! PVP11: the pairs of an operator list. -/
namespace PV
open PySem PySem.Spec PyProof.Rows L2
/-- the places of those that p takes -/
def idxs (p : Opr → Bool) (ops : List Opr) : List Int := ops.zipIdx.filterMap fun q => if p q.1 = true then some (q.2 : Int) else none
def pairL (ops : List Opr) : List (Int × Int) := (idxs Opr.Rr ops).flatMap fun s => (idxs Opr.L ops).map fun o => (s, o)
def encP (q : Int × Int) : D := .tup [.int q.1, .int q.2]
def gI (b : D → Bool) (w : D) : Option D := match w with
  | .tup [i, o] => if b o = true then some i else none
  | _ => none
def dL (w : D) : Bool := match w with
  | .tup [.str k, _] => decide (k ∈ [("infix" : Str), "postfix"])
  | _ => false
def dR (w : D) : Bool := match w with
  | .tup [.str k, _] => decide (k ∈ [("infix" : Str), "prefix"])
  | _ => false
theorem gI_idxs (b : D → Bool) (p : Opr → Bool) (hb : ∀ o : Opr, b o.enc = p o) (ops : List Opr) : (enumD (ops.map Opr.enc)).filterMap (gI b) = (idxs p ops).map D.int := by
  unfold enumD idxs
  rw [List.mapIdx_eq_zipIdx_map, List.zipIdx_map, List.map_map, List.filterMap_map, List.map_filterMap]
  congr 1
  funext q
  obtain ⟨o, i⟩ := q
  simp only [Function.comp, Prod.map, gI, hb, id]
  cases p o <;> simp
theorem idxs_len (p : Opr → Bool) (ops : List Opr) : (idxs p ops).length ≤ ops.length := by
  have := List.length_filterMap_le (fun q : Opr × Nat => if p q.1 = true then some (q.2 : Int) else none) ops.zipIdx
  simpa [idxs] using this
theorem idxs_nil {p : Opr → Bool} : idxs p [] = [] := rfl
theorem idxs_snoc {p : Opr → Bool} {ops : List Opr} {o : Opr} : idxs p (ops ++ [o]) = idxs p ops ++ if p o = true then [(ops.length : Int)] else [] := by
  unfold idxs
  rw [List.zipIdx_append, List.filterMap_append]
  by_cases h : p o = true
  · simp [h]
  · simp [h]
theorem idxs_mem {p : Opr → Bool} {ops : List Opr} {i : Int} (h : i ∈ idxs p ops) : ∃ n : Nat, i = n ∧ ∃ o, ops[n]? = some o ∧ p o = true := by
  unfold idxs at h
  obtain ⟨⟨o, n⟩, hm, e⟩ := List.mem_filterMap.mp h
  rw [List.mem_zipIdx_iff_getElem?] at hm
  by_cases hp : p o = true
  · rw [if_pos hp] at e
    exact ⟨n, (Option.some.inj e).symm, o, hm, hp⟩
  · rw [if_neg hp] at e; cases e
theorem lims_pairs {n : Nat} {ps : List (Int × Int)} : D.lims n (ps.map encP) = true := lims_all fun w hw => by
  obtain ⟨q, _, rfl⟩ := List.mem_map.mp hw; simp [encP]
end PV
end
section
/-! PVP12: trees as data. -/
namespace PV
open PySem PySem.Spec PyProof.Rows L2
inductive Tr where
  | leaf (s : Str) | grp (t : Tr) | nd (n : Nat) (ts : List Tr)
  deriving Inhabited
mutual
def Tr.enc : Tr → D
  | .leaf s => .str s
  | .grp t => .tup [.str "(", t.enc]
  | .nd n ts => .tup (.int n :: Tr.encs ts)
def Tr.encs : List Tr → List D
  | [] => []
  | t :: ts => t.enc :: Tr.encs ts
end
theorem encs_map : ∀ ts : List Tr, Tr.encs ts = ts.map Tr.enc
  | [] => rfl
  | t :: ts => by simp only [Tr.encs, List.map_cons, encs_map ts]
theorem encs_snoc {ts : List Tr} {t : Tr} : Tr.encs (ts ++ [t]) = Tr.encs ts ++ [t.enc] := by simp [encs_map]
theorem encs_len {ts : List Tr} : (Tr.encs ts).length = ts.length := by simp [encs_map]
@[simp] theorem enc_isTl {t : Tr} : t.enc.isTl = false := by cases t <;> simp only [Tr.enc] <;> rfl
@[simp] theorem stash_tree {t : Tr} {h : Hh} : stash t.enc h = (t.enc, h) := stash_of enc_isTl
mutual
theorem Tr.lim {n : Nat} : ∀ t : Tr, t.enc.lim n = true
  | .leaf s => by simp only [Tr.enc, lim_str]
  | .grp t => by simp only [Tr.enc, lim_tup, lims_cons, lim_str, Tr.lim t, lims_nil, Bool.and_self]
  | .nd m ts => by simp only [Tr.enc, lim_tup, lims_cons, lim_int, Tr.lims ts, Bool.and_self]
theorem Tr.lims {n : Nat} : ∀ ts : List Tr, D.lims n (Tr.encs ts) = true
  | [] => by simp only [Tr.encs, lims_nil]
  | t :: ts => by simp only [Tr.encs, lims_cons, Tr.lim t, Tr.lims ts, Bool.and_self]
end
def Opr.holes (o : Opr) : Nat := o.words.length - 1 + (if o.L then 1 else 0) + (if o.Rr then 1 else 0)
theorem holes_le {o : Opr} (h : OprOk o) : o.holes ≤ 4 := by
  have := h.l3
  unfold Opr.holes
  split <;> split <;> omega
mutual
/-- a tree of these operators, its identifiers of p -/
def Tr.ok (ops : List Opr) (p : Str → Prop) : Tr → Prop
  | .leaf s => p s
  | .grp t => t.ok ops p
  | .nd n ts => (∃ o, ops[n]? = some o ∧ ts.length = o.holes) ∧ Tr.oks ops p ts
def Tr.oks (ops : List Opr) (p : Str → Prop) : List Tr → Prop
  | [] => True
  | t :: ts => t.ok ops p ∧ Tr.oks ops p ts
end
theorem oks_mem {ops : List Opr} {p : Str → Prop} : ∀ {ts : List Tr}, Tr.oks ops p ts ↔ ∀ t ∈ ts, t.ok ops p
  | [] => by simp [Tr.oks]
  | t :: ts => by simp [Tr.oks, oks_mem (ts := ts)]
theorem oks_snoc {ops : List Opr} {p : Str → Prop} {ts : List Tr} {t : Tr} (h : Tr.oks ops p ts) (ht : t.ok ops p) : Tr.oks ops p (ts ++ [t]) := by
  rw [oks_mem] at h ⊢
  intro x hx
  rcases List.mem_append.mp hx with hx | hx
  · exact h x hx
  · have : x = t := by simpa using hx
    subst this; exact ht
mutual
def Tr.depth : Tr → Nat
  | .leaf _ => 0
  | .grp t => t.depth + 1
  | .nd _ ts => Tr.depths ts + 1
def Tr.depths : List Tr → Nat
  | [] => 0
  | t :: ts => max t.depth (Tr.depths ts)
end
theorem depths_le {n : Nat} : ∀ {ts : List Tr}, Tr.depths ts ≤ n ↔ ∀ t ∈ ts, t.depth ≤ n
  | [] => by simp [Tr.depths]
  | t :: ts => by
    have := depths_le (n := n) (ts := ts)
    simp only [Tr.depths, List.mem_cons, forall_eq_or_imp, ← this]
    omega
def idents : List Str := ["a", "b", "x1", "7", "abcdefgh"]
theorem gcR_2 {i q c : Nat} {h e h' : Hh} {w : D} {ws : List D} (a : Ux [i, q] (h ++ e) h') (s : Sr h' i c) (eq : h'[q]? = some (.lst ws)) (lw : D.lims h.length ws = true) (lim : w.lim h.length = true) (hi : i < h.length) (hq : q < h.length) :
    ∃ h2, gcR h (.ok w h') = .ok w h2 ∧ Up [i, q] h h2 ∧ Sr h2 i c ∧ h2[q]? = some (.lst ws) := by
  obtain ⟨h2, e1, u, hs⟩ := gcR_ux a lim (fun j hj _ => by
    simp at hj
    rcases hj with rfl | rfl
    · exact s.cell h.length
    · exact ⟨_, eq, by simpa using lw⟩)
  refine ⟨h2, e1, u, ?_, (hs q hq).trans eq⟩
  obtain ⟨x, y, d, e2, h0, h1⟩ := s
  exact ⟨x, y, d, (hs i hi).trans e2, h0, h1⟩
/-- the data of operators -/
def Opr.py (o : Opr) : PyData := .tuple [.str o.kind, .tuple (o.words.map .str)]
theorem toP_opr {h : Hh} {n : Nat} {o : Opr} : toP h (n + 3) o.enc = some o.py := by
  show (mapO (toP h (n + 2)) [D.str o.kind, .tup (o.words.map .str)]).map PyData.tuple = _
  have : toP h (n + 2) (.tup (o.words.map .str)) = some (.tuple (o.words.map .str)) := by
    show (mapO (toP h (n + 1)) (o.words.map .str)).map PyData.tuple = _
    rw [toP_strs]; rfl
  have e2 : mapO (toP h (n + 2)) [D.str o.kind, .tup (o.words.map .str)] = some [.str o.kind, .tuple (o.words.map .str)] := mapO_cons (f := toP h (n + 2)) rfl (mapO_cons (f := toP h (n + 2)) this rfl)
  rw [e2]
  rfl
theorem toP_ops {h : Hh} {n : Nat} {ops : List Opr} : toP h (n + 4) (.tup (ops.map Opr.enc)) = some (.tuple (ops.map Opr.py)) := by
  show (mapO (toP h (n + 3)) (ops.map Opr.enc)).map PyData.tuple = _
  rw [mapO_map (f := toP h (n + 3)) (g := Opr.enc) (k := Opr.py) fun o _ => toP_opr]
  rfl
theorem shaped_ops {ops : List Opr} (hk : ∀ o ∈ ops, PyData.strOk o.kind = true ∧ ∀ x ∈ o.words, PyData.strOk x = true) : SeqAt.shaped (.tuple (ops.map Opr.py)) = true := by
  refine shaped_tup (n := 2) (by omega) (fun d hd => ?_) fun d hd => ?_
  · obtain ⟨o, ho, rfl⟩ := List.mem_map.mp hd
    obtain ⟨h1, h2⟩ := hk o ho
    simp only [Opr.py, PyData.canLay0, PyData.canLayAll0, h1, Bool.and_true, Bool.true_and]
    exact canLay_all fun d hd => by
      obtain ⟨x, hx, rfl⟩ := List.mem_map.mp hd
      simp [PyData.canLay0, h2 x hx]
  · obtain ⟨o, ho, rfl⟩ := List.mem_map.mp hd
    have : PyData.depthAll (o.words.map PyData.str) ≤ 0 := depth_all fun d hd => by
      obtain ⟨x, hx, rfl⟩ := List.mem_map.mp hd
      simp [PyData.depth]
    simp only [Opr.py, PyData.depth, PyData.depthAll]
    omega
theorem OpsOk.strs {ops : List Opr} (O : OpsOk ops) : ∀ o ∈ ops, PyData.strOk o.kind = true ∧ ∀ x ∈ o.words, PyData.strOk x = true := fun o ho => ⟨kinds_ok _ (O.ok o ho).kd, fun x hx => pool0_ok x ((O.ok o ho).w0 x hx)⟩
theorem eqW_ops0 {h : Hh} {ops : List Opr} (O : OpsOk ops) : eqW (.tup (ops.map Opr.enc)) (.tup []) h = .ok (.bl ops.isEmpty) h := by
  have e1 : toP h deep (.tup (ops.map Opr.enc)) = some (.tuple (ops.map Opr.py)) := toP_ops
  have e2 : toP h deep (.tup []) = some (.tuple []) := rfl
  have s2 : SeqAt.shaped (.tuple []) = true := by decide +kernel
  have e3 : PyData.eqv (.tuple (ops.map Opr.py)) (.tuple []) = ops.isEmpty := by cases ops <;> simp [PyData.eqv, PyData.eqvAll]
  simp only [eqW, eqD, e1, e2, shaped_ops O.strs, s2, Bool.and_self, if_true, e3]
end PV
end
section
/-! PVP13: spines as data. -/
namespace PV
open PySem PySem.Spec PyProof.Rows L2
/-- the next tree on a side (true: left), by its child's number -/
def nxt (ops : List Opr) (side : Bool) : Tr → Option (Nat × Tr)
  | .nd n ts => match ops[n]? with
    | some o => if (if side then o.L else o.Rr) = true then (ts[if side then 0 else ts.length - 1]?).map fun t => (if side then 0 else ts.length - 1, t) else none
    | none => none
  | _ => none
theorem mem_depth {ts : List Tr} {t : Tr} {c : Nat} (h : ts[c]? = some t) : t.depth ≤ Tr.depths ts := (depths_le.mp (Nat.le_refl _)) t (List.mem_of_getElem? h)
theorem nxt_some {ops : List Opr} {side : Bool} {t t' : Tr} {c : Nat} (h : nxt ops side t = some (c, t')) : ∃ n ts o, t = .nd n ts ∧ ops[n]? = some o ∧ (if side then o.L else o.Rr) = true ∧ c = (if side then 0 else ts.length - 1) ∧ ts[c]? = some t' := by
  cases t with
  | leaf s => cases h
  | grp t => cases h
  | nd n ts =>
    simp only [nxt] at h
    cases eo : ops[n]? with
    | none => rw [eo] at h; cases h
    | some o =>
      rw [eo] at h
      simp only at h
      by_cases hs : (if side then o.L else o.Rr) = true
      · rw [if_pos hs] at h
        obtain ⟨x, hx, hp⟩ := Option.map_eq_some_iff.mp h
        cases hp
        exact ⟨n, ts, o, rfl, eo, hs, rfl, hx⟩
      · rw [if_neg hs] at h; cases h
theorem nxt_depth {ops : List Opr} {side : Bool} {t t' : Tr} {c : Nat} (h : nxt ops side t = some (c, t')) : t'.depth < t.depth := by
  obtain ⟨n, ts, o, rfl, _, _, _, hc⟩ := nxt_some h
  have := mem_depth hc
  simp only [Tr.depth]
  omega
theorem nxt_ok {ops : List Opr} {p : Str → Prop} {side : Bool} {t t' : Tr} {c : Nat} (h : nxt ops side t = some (c, t')) (ok : t.ok ops p) : t'.ok ops p := by
  obtain ⟨n, ts, o, rfl, _, _, _, hc⟩ := nxt_some h
  exact oks_mem.mp ok.2 t' (List.mem_of_getElem? hc)
/-- whether a node with an open hole -/
theorem nxt_isSome {ops : List Opr} {p : Str → Prop} {side : Bool} {n : Nat} {ts : List Tr} {o : Opr} (eo : ops[n]? = some o) (ok : (Tr.nd n ts).ok ops p) : (nxt ops side (.nd n ts)).isSome = (if side then o.L else o.Rr) := by
  obtain ⟨⟨o', eo', hl⟩, _⟩ := ok
  rw [eo] at eo'; cases eo'
  simp only [nxt]
  rw [eo]
  simp only
  by_cases hs : (if side then o.L else o.Rr) = true
  · rw [if_pos hs, hs]
    have hpos : 0 < ts.length := by
      rw [hl]
      unfold Opr.holes
      cases side
      · simp only [Bool.false_eq_true, if_false] at hs
        simp [hs]
      · simp only [if_true] at hs
        simp [hs]
        omega
    cases side
    · have : ts.length - 1 < ts.length := by omega
      simp [List.getElem?_eq_getElem this]
    · simp [List.getElem?_eq_getElem hpos]
  · rw [if_neg hs]
    simp only [Bool.not_eq_true] at hs
    rw [hs]
    rfl
/-- the places on a side -/
def spine (ops : List Opr) (side : Bool) : Nat → Tr → List Int → List (List Int)
  | 0, _, _ => []
  | f + 1, t, pl => match nxt ops side t with
    | some (c, t') => pl :: spine ops side f t' (pl ++ [(c : Int)])
    | none => []
theorem spine_none {ops : List Opr} {side : Bool} {f : Nat} {t : Tr} {pl : List Int} (h : nxt ops side t = none) : spine ops side f t pl = [] := by
  cases f with
  | zero => rfl
  | succ f => simp only [spine, h]
theorem spine_some {ops : List Opr} {side : Bool} {f c : Nat} {t t' : Tr} {pl : List Int} (h : nxt ops side t = some (c, t')) : spine ops side (f + 1) t pl = pl :: spine ops side f t' (pl ++ [(c : Int)]) := by simp only [spine, h]
/-- more fuel changes nothing -/
theorem spine_fuel {ops : List Opr} {side : Bool} : ∀ {f g : Nat} {t : Tr} {pl : List Int}, t.depth ≤ f → t.depth ≤ g → spine ops side f t pl = spine ops side g t pl := by
  intro f
  induction f with
  | zero =>
    intro g t pl hf hg
    cases e : nxt ops side t with
    | none => rw [spine_none e, spine_none e]
    | some q => obtain ⟨c, t'⟩ := q; have := nxt_depth e; omega
  | succ f ih =>
    intro g t pl hf hg
    cases e : nxt ops side t with
    | none => rw [spine_none e, spine_none e]
    | some q =>
      obtain ⟨c, t'⟩ := q
      have := nxt_depth e
      cases g with
      | zero => omega
      | succ g => rw [spine_some e, spine_some e, ih (g := g) (by omega) (by omega)]
def encPl (pl : List Int) : D := .tup (pl.map .int)
@[simp] theorem encPl_tl {pl : List Int} : (encPl pl).isTl = false := by unfold encPl; rfl
@[simp] theorem stash_pl {pl : List Int} {h : Hh} : stash (encPl pl) h = (encPl pl, h) := stash_of encPl_tl
theorem addPl {h : Hh} {pl : List Int} {c : Int} (hl : pl.length < 1000000) : addW (encPl pl) (.tup [.int c]) h = .ok (encPl (pl ++ [c])) h := by
  unfold encPl
  rw [addT (by simp; omega)]
  simp
theorem spine_len {ops : List Opr} {side : Bool} : ∀ {f : Nat} {t : Tr} {pl : List Int}, (spine ops side f t pl).length ≤ f
  | 0, t, pl => by simp [spine]
  | f + 1, t, pl => by
    cases e : nxt ops side t with
    | none => rw [spine_none e]; simp
    | some q =>
      obtain ⟨c, t'⟩ := q
      rw [spine_some e]
      have := spine_len (ops := ops) (side := side) (f := f) (t := t') (pl := pl ++ [(c : Int)])
      simp; omega
theorem isi_ss {h : Hh} {s : Str} : isiW (.str s) (.ty "str") h = .ok (.bl true) h := by simp only [isiW, isiTy, tyD]; rfl
theorem isi_st {h : Hh} {s : Str} : isiW (.str s) (.ty "tuple") h = .ok (.bl false) h := by simp only [isiW, isiTy, tyD]; rfl
theorem isi_ts {h : Hh} {ws : List D} : isiW (.tup ws) (.ty "str") h = .ok (.bl false) h := by simp only [isiW, isiTy, tyD]; rfl
theorem isi_tt {h : Hh} {ws : List D} : isiW (.tup ws) (.ty "tuple") h = .ok (.bl true) h := by simp only [isiW, isiTy, tyD]; rfl
theorem isi_is {h : Hh} {i : Int} : isiW (.int i) (.ty "str") h = .ok (.bl false) h := by simp only [isiW, isiTy, tyD]; rfl
theorem eqW_is {h : Hh} {i : Int} {s : Str} (hs : PyData.strOk s = true) : eqW (.int i) (.str s) h = .ok (.bl false) h := by
  have e1 : toP h deep (.int i) = some (.int i) := rfl
  have e2 : toP h deep (.str s) = some (.str s) := rfl
  have e3 : PyData.eqv (.int i) (.str s) = false := by simp [PyData.eqv]
  simp only [eqW, eqD, e1, e2, shaped_int, shaped_str hs, Bool.and_self, if_true, e3]
def Tr.isLeaf : Tr → Bool
  | .leaf _ => true
  | _ => false
def Tr.isGrp : Tr → Bool
  | .grp _ => true
  | _ => false
def Tr.isNode : Tr → Bool
  | .nd _ _ => true
  | _ => false
theorem whileL_step {c : M Bool} {b : MS} {n : Nat} {σ σ2 : Sg} {h h1 h2 : Hh} (hc : c σ h = .ok true h1) (hb : b σ h1 = .nx σ2 h2) : whileL c b (n + 1) σ h = whileL c b n σ2 h2 := by
  simp only [whileL, hc, R.then_ok, if_true, hb]
theorem whileL_stop {c : M Bool} {b : MS} {n : Nat} {σ : Sg} {h h1 : Hh} (hc : c σ h = .ok false h1) : whileL c b (n + 1) σ h = .nx σ h1 := by
  simp only [whileL, hc, R.then_ok, Bool.false_eq_true, if_false]
/-- what a call leaves of the caller's cells, its own apart -/
theorem Up.loc {is js : List Nat} {h e h' : Hh} (u : Up is (h ++ e) h') (hi : ∀ i ∈ is, i < h.length → i ∈ js) : Ux js h h' := by
  have hl := u.len
  rw [List.length_append] at hl
  refine ⟨by omega, fun j hj hm => ?_⟩
  rw [u.same j fun z => hm (hi j z hj), List.getElem?_append_left hj]
theorem Ux.loc {is js : List Nat} {h e h' : Hh} (u : Ux is (h ++ e) h') (hi : ∀ i ∈ is, i < h.length → i ∈ js) : Ux js h h' := by
  have hl := u.len
  rw [List.length_append] at hl
  refine ⟨by omega, fun j hj hm => ?_⟩
  rw [u.same j (by rw [List.length_append]; omega) fun z => hm (hi j z hj), List.getElem?_append_left hj]
end PV
end
section
/-! PVP14: places are small; lists of ints compared with nothing. -/
namespace PV
open PySem PySem.Spec PyProof.Rows L2
theorem toP_refI {h : Hh} {q n : Nat} {l : List Int} (e : h[q]? = some (.lst (l.map .int))) : toP h (n + 2) (.ref q) = some (.list (l.map .int)) := by
  show (match h[q]? with
      | some (.lst ws) => (mapO (toP h (n + 1)) ws).map PyData.list
      | _ => none) = _
  rw [e]
  simp only [toP_ints, Option.map_some]
theorem neW_nilI {h : Hh} {q : Nat} {l : List Int} (e : h[q]? = some (.lst (l.map .int))) : neW (.ref q) (.tl []) h = .ok (.bl (!l.isEmpty)) h := by
  have e1 : toP h deep (.ref q) = some (.list (l.map .int)) := toP_refI e
  have e2 : toP h deep (.tl []) = some (.list []) := rfl
  have s1 : SeqAt.shaped (.list (l.map .int)) = true := shaped_list (n := 0) (by omega) (fun d hd => by
    obtain ⟨s, hs', rfl⟩ := List.mem_map.mp hd
    simp [PyData.canLay0]) (fun d hd => by
    obtain ⟨s, hs', rfl⟩ := List.mem_map.mp hd
    simp [PyData.depth])
  have s2 : SeqAt.shaped (.list []) = true := by decide +kernel
  have e3 : PyData.eqv (.list (l.map .int)) (.list []) = l.isEmpty := by
    cases l <;> simp [PyData.eqv, PyData.eqvAll]
  simp only [neW, eqD, e1, e2, s1, s2, Bool.and_self, if_true, e3]
/-- a place whose numbers are small -/
def SmPl (b : Nat) (pl : List Int) : Prop := pl.length ≤ b ∧ ∀ x ∈ pl, ∃ n : Nat, x = (n : Int) ∧ n < 1000
theorem spine_small {ops : List Opr} {p : Str → Prop} {side : Bool} (O : OpsOk ops) : ∀ {f : Nat} {t : Tr} {pl : List Int} {b : Nat}, t.ok ops p → SmPl b pl → ∀ q ∈ spine ops side f t pl, SmPl (b + f) q
  | 0, t, pl, b, _, _, q, hq => by simp [spine] at hq
  | f + 1, t, pl, b, ok, hp, q, hq => by
    cases e : nxt ops side t with
    | none => rw [spine_none e] at hq; simp at hq
    | some r =>
      obtain ⟨c, t'⟩ := r
      rw [spine_some e] at hq
      rcases List.mem_cons.mp hq with hq | hq
      · subst hq; exact ⟨by have := hp.1; omega, hp.2⟩
      · have ok' := nxt_ok e ok
        obtain ⟨n, ts, o, rfl, eo, hs, hc, hts⟩ := nxt_some e
        have hlt := lt_of_get hts
        obtain ⟨⟨o', eo', hl⟩, _⟩ := ok
        have h4 := holes_le (O.ok o' (List.mem_of_getElem? eo'))
        have := spine_small O (f := f) (t := t') (pl := pl ++ [(c : Int)]) (b := b + 1) ok' ⟨by simp; exact hp.1, fun x hx => by
          rcases List.mem_append.mp hx with hx | hx
          · exact hp.2 x hx
          · have : x = (c : Int) := by simpa using hx
            subst this; exact ⟨c, rfl, by omega⟩⟩ q hq
        exact ⟨by have := this.1; omega, this.2⟩
def pyPl (pl : List Int) : PyData := .tuple (pl.map .int)
theorem toP_pl {h : Hh} {n : Nat} {pl : List Int} : toP h (n + 2) (encPl pl) = some (pyPl pl) := by
  show (mapO (toP h (n + 1)) (pl.map .int)).map PyData.tuple = _
  rw [toP_ints]; rfl
theorem pn_pl {b : Nat} {pl : List Int} (h : SmPl b pl) : PN 1 (b * 14 + 3) (pyPl pl) := by
  refine (pn_tuple (n := 0) (l := 12) fun d hd => ?_).mono (by omega) (by
    have := h.1
    simp only [List.length_map]
    have := Nat.mul_le_mul_right 14 this
    omega)
  obtain ⟨x, hx, rfl⟩ := List.mem_map.mp hd
  obtain ⟨n, rfl, hn⟩ := h.2 x hx
  exact pn_nat (by omega)
/-- a tuple of places -/
def pyPls (l : List (List Int)) : PyData := .tuple (l.map pyPl)
theorem toP_pls {h : Hh} {n : Nat} {l : List (List Int)} : toP h (n + 3) (.tup (l.map encPl)) = some (pyPls l) := by
  show (mapO (toP h (n + 2)) (l.map encPl)).map PyData.tuple = _
  rw [mapO_map (f := toP h (n + 2)) (g := encPl) (k := pyPl) fun q _ => toP_pl]
  rfl
theorem pn_pls {b m : Nat} {l : List (List Int)} (hl : l.length ≤ m) (h : ∀ q ∈ l, SmPl b q) : PN 2 (m * (b * 14 + 5) + 3) (pyPls l) := by
  refine (pn_tuple (n := 1) (l := b * 14 + 3) fun d hd => ?_).mono (by omega) (by
    simp only [List.length_map]
    have h1 := Nat.mul_le_mul_right (b * 14 + 5) hl
    have h2 : b * 14 + 3 + 2 = b * 14 + 5 := by omega
    rw [h2]
    omega)
  obtain ⟨q, hq, rfl⟩ := List.mem_map.mp hd
  exact pn_pl (h q hq)
end PV
end
section
/-! PVP15: lists returned, all / any of a comprehension, dict comprehensions, signs of strs. -/
namespace PV
open PySem PySem.Spec PyProof.Rows L2
/-- what a def that returns a list of its own leaves -/
def Ret (h : Hh) (ws : List D) (r : R D) : Prop := ∃ w h', r = .ok w h' ∧ Ux [] h h' ∧ (w = .tl ws ∨ ∃ i, w = .ref i ∧ h.length ≤ i ∧ h'[i]? = some (.lst ws))
theorem gcR_ret {hb h : Hh} {ws : List D} {r : R D} (q : Ret h ws r) (hl : hb.length = h.length) (hc : ∀ (j : Nat) (c : Cl), h[j]? = some c → hb[j]? = some c ∨ c.lim h.length = true) (lim : D.lims h.length ws = true) : gcR hb r = .ok (.tl ws) h := by
  obtain ⟨w, h', rfl, u, hw⟩ := q
  have ul := u.len
  have tk : h'.take hb.length = h := by
    apply List.ext_getElem?
    intro j
    by_cases hj : j < h.length
    · rw [List.getElem?_take_of_lt (by omega), u.same j hj (by simp)]
    · rw [List.getElem?_eq_none (by rw [List.length_take]; omega), List.getElem?_eq_none (by omega)]
  have ok : gcOk hb.length hb h' = true := gcOk_of (by omega) fun j c hj ec => by
    rw [u.same j (by omega) (by simp)] at ec
    rw [hl]
    exact hc j c ec
  show gc hb w h' = _
  unfold gc
  rw [if_pos ok]
  rcases hw with rfl | ⟨i, rfl, hi, ei⟩
  · rw [if_pos (by rw [lim_tl, hl]; exact lim), tk]
  · have : ¬ D.lim hb.length (.ref i) = true := by rw [lim_ref]; simp; omega
    rw [if_neg this]
    simp only [ei]
    rw [if_pos ⟨by rw [hl]; exact lim, by omega⟩, tk]
theorem gcR_ret0 {h : Hh} {ws : List D} {r : R D} (q : Ret h ws r) (lim : D.lims h.length ws = true) : gcR h r = .ok (.tl ws) h := gcR_ret q rfl (fun _ _ e => .inl e) lim
theorem Ret.tl {h : Hh} {ws : List D} : Ret h ws (.ok (.tl ws) h) := ⟨_, _, rfl, ⟨Nat.le_refl _, fun _ _ _ => rfl⟩, .inl rfl⟩
/-! ### all and any -/
theorem mapO_bools {α : Type} {f : D → Bool} : ∀ {ws : List D}, mapO toB (ws.map fun w => D.bl (f w)) = some (ws.map f)
  | [] => rfl
  | w :: ws => by
    have := mapO_bools (α := α) (f := f) (ws := ws)
    simp only [List.map_cons, mapO, toB, this]
section
variable {mi : M Src} {t : Tg} {me : M D} {vs : List Nat} {σ : Sg} {h h1 : Hh} {src : Src} {ws : List D}
theorem all_lc (g : D → Bool) (hi : mi σ h = .ok src h1) (hs : ∀ i, src i h1 = some ws[i]?) (hl : ws.length < sizeLine) (hb : ∀ w ∈ ws, ∃ σ1, t.set w (wipeW σ vs) h1 = some σ1 ∧ me σ1 h1 = .ok (.bl (g w)) h1) :
    mF1 allW (mLc mi t (fun _ h => .ok true h) me vs) σ h = .ok (.bl (ws.all g)) h1 := by
  have := lc_map (mi := mi) (t := t) (me := me) (vs := vs) (σ := σ) (fun w => .bl (g w)) hi hs hl fun w hw => by
    obtain ⟨σ1, e1, e2⟩ := hb w hw
    exact ⟨σ1, e1, e2, rfl⟩
  rw [mF1_ap, this, R.bind_ok]
  simp only [allW, asL, mapO_bools (α := D)]
  congr 2
  simp [List.all_map, Function.comp_def]
theorem any_lc (g : D → Bool) (hi : mi σ h = .ok src h1) (hs : ∀ i, src i h1 = some ws[i]?) (hl : ws.length < sizeLine) (hb : ∀ w ∈ ws, ∃ σ1, t.set w (wipeW σ vs) h1 = some σ1 ∧ me σ1 h1 = .ok (.bl (g w)) h1) :
    mF1 anyW (mLc mi t (fun _ h => .ok true h) me vs) σ h = .ok (.bl (ws.any g)) h1 := by
  have := lc_map (mi := mi) (t := t) (me := me) (vs := vs) (σ := σ) (fun w => .bl (g w)) hi hs hl fun w hw => by
    obtain ⟨σ1, e1, e2⟩ := hb w hw
    exact ⟨σ1, e1, e2, rfl⟩
  rw [mF1_ap, this, R.bind_ok]
  simp only [anyW, asL, mapO_bools (α := D)]
  congr 2
  simp [List.any_map, Function.comp_def]
end
/-! ### dict comprehensions -/
section
variable {κ : Type} [DecidableEq κ] {K : KKind κ} {mi mi1 : M Src} {t t1 : Tg} {mk mv : M D} {vs vs1 : List Nat} {σ : Sg} {h h1 : Hh} {src : Src} {ws : List D}
def putAll (acc : List (κ × D)) (ps : List (κ × D)) : List (κ × D) := ps.foldl (fun acc p => putD acc p.1 p.2) acc
theorem putD_len {kvs : List (κ × D)} {k : κ} {w : D} : (putD kvs k w).length ≤ kvs.length + 1 := by
  unfold putD
  split <;> simp
theorem putAll_len : ∀ {ps acc : List (κ × D)}, (putAll acc ps).length ≤ acc.length + ps.length
  | [], acc => by simp [putAll]
  | p :: ps, acc => by
    have h1 := putAll_len (ps := ps) (acc := putD acc p.1 p.2)
    have h2 := putD_len (kvs := acc) (k := p.1) (w := p.2)
    simp only [putAll, List.foldl_cons, List.length_cons] at h1 ⊢
    omega
theorem putAll_app {acc ps qs : List (κ × D)} : putAll acc (ps ++ qs) = putAll (putAll acc ps) qs := by simp [putAll]
/-- {k: v for t in ws}, where nothing is written -/
theorem dc_pure (g : D → κ × D) (hi : mi σ h = .ok src h1) (hs : ∀ i, src i h1 = some ws[i]?) (hl : ws.length < sizeLine)
    (hb : ∀ w ∈ ws, ∃ σ1 y, t.set w (wipeW σ vs) h1 = some σ1 ∧ mk σ1 h1 = .ok y h1 ∧ K.key y = some (g w).1 ∧ mv σ1 h1 = .ok (g w).2 h1 ∧ (g w).2.isTl = false) :
    mDc K mi t (fun _ h => .ok true h) mk mv vs σ h = .ok (.ref h1.length) (h1 ++ [K.cell (putAll [] (ws.map g))]) := by
  unfold mDc
  rw [hi, R.bind_ok]
  have key := lcL_pure (src := src) (t := t) (σ0 := wipeW σ vs) (h := h1) (ws := ws) (body := bodyD K (fun _ h => .ok true h) mk mv) (fun acc w => putD acc (g w).1 (g w).2) (fun acc i => acc.length ≤ i) hs (fun i w acc e hp => by
      obtain ⟨σ1, y, e1, ek, ey, ev, nt⟩ := hb w (List.mem_of_getElem? e)
      have hi := lt_of_get e
      refine ⟨Nat.le_trans putD_len (by omega), σ1, e1, ?_⟩
      have ha : acc.length < sizeLine := by omega
      simp only [bodyD, noX, R.bind_ok, if_true, ek, ev, ey, ha, stash_of nt]) loopN 0 [] (by simp) (by omega) (by unfold loopN; have : sizeLine = 16777216 := rfl; omega)
  rw [key, R.bind_ok, List.drop_zero]
  simp [putAll, List.foldl_map]
/-- {k: v for t in ws for t1 in us(w)} -/
theorem dc2_pure (us : D → List D) (g : D → D → κ × D) (B : Nat) (hi : mi σ h = .ok src h1) (hs : ∀ i, src i h1 = some ws[i]?) (hB : ∀ w ∈ ws, (us w).length ≤ B) (hl : ws.length * B + B < sizeLine) (hl2 : ws.length < sizeLine)
    (hb : ∀ w ∈ ws, ∃ σ1 src1, t.set w (wipeW σ vs) h1 = some σ1 ∧ mi1 σ1 h1 = .ok src1 h1 ∧ (∀ j, src1 j h1 = some (us w)[j]?) ∧
      ∀ u ∈ us w, ∃ σ2 y, t1.set u (wipeW σ1 vs1) h1 = some σ2 ∧ mk σ2 h1 = .ok y h1 ∧ K.key y = some (g w u).1 ∧ mv σ2 h1 = .ok (g w u).2 h1 ∧ (g w u).2.isTl = false) :
    mDc2 K mi t (fun _ h => .ok true h) mi1 t1 (fun _ h => .ok true h) mk mv vs vs1 σ h = .ok (.ref h1.length) (h1 ++ [K.cell (putAll [] (ws.flatMap fun w => (us w).map (g w)))]) := by
  unfold mDc2
  rw [hi, R.bind_ok]
  rw [lcL_pure (src := src) (t := t) (σ0 := wipeW σ vs) (h := h1) (ws := ws) (fun acc w => putAll acc ((us w).map (g w))) (fun acc i => acc.length ≤ i * B) hs (fun i w acc e hp => by
      obtain ⟨σ1, src1, e1, em, es, hin⟩ := hb w (List.mem_of_getElem? e)
      have hi := lt_of_get e
      have hbb := hB w (List.mem_of_getElem? e)
      have hmul : i * B ≤ ws.length * B := Nat.mul_le_mul_right _ (by omega)
      refine ⟨?_, σ1, e1, ?_⟩
      · have h1 := putAll_len (acc := acc) (ps := (us w).map (g w))
        rw [List.length_map] at h1
        have : (i + 1) * B = i * B + B := by rw [Nat.add_mul]; omega
        omega
      · simp only [noX, R.bind_ok, if_true, em]
        have key := lcL_pure (src := src1) (t := t1) (σ0 := wipeW σ1 vs1) (h := h1) (ws := us w) (body := bodyD K (fun _ h => .ok true h) mk mv) (fun a u => putD a (g w u).1 (g w u).2) (fun a i => a.length ≤ acc.length + i) es (fun i u a e hp => by
            obtain ⟨σ2, y, e1, ek, ey, ev, nt⟩ := hin u (List.mem_of_getElem? e)
            have hi := lt_of_get e
            refine ⟨Nat.le_trans putD_len (by omega), σ2, e1, ?_⟩
            have ha : a.length < sizeLine := by omega
            simp only [bodyD, noX, R.bind_ok, if_true, ek, ev, ey, ha, stash_of nt]) loopN 0 acc (by simp) (by omega) (by unfold loopN; have : sizeLine = 16777216 := rfl; omega)
        rw [key, List.drop_zero]
        simp [putAll, List.foldl_map]) loopN 0 [] (by simp) (by omega) (by unfold loopN; have : sizeLine = 16777216 := rfl; omega)]
  rw [R.bind_ok, List.drop_zero]
  congr 4
  generalize ([] : List (κ × D)) = a0
  clear hi hs hB hl hl2 hb
  induction ws generalizing a0 with
  | nil => rfl
  | cons w ws ih => simp only [List.foldl_cons, List.flatMap_cons, putAll_app, ih]
end
/-! ### the words of operators as a dict -/
def addS (acc : List Str) (x : Str) : List Str := if x ∈ acc then acc else acc ++ [x]
def uniqS (xs : List Str) : List Str := xs.foldl addS []
def wordL (ops : List Opr) : List Str := ops.flatMap Opr.words
theorem addS_mem {acc : List Str} {x y : Str} : y ∈ addS acc x ↔ y ∈ acc ∨ y = x := by
  unfold addS
  split
  · rename_i h
    constructor
    · exact .inl
    · rintro (h' | rfl)
      · exact h'
      · exact h
  · simp
theorem uniqS_mem {xs : List Str} {y : Str} : y ∈ uniqS xs ↔ y ∈ xs := by
  have : ∀ (xs acc : List Str), y ∈ xs.foldl addS acc ↔ y ∈ acc ∨ y ∈ xs := by
    intro xs
    induction xs with
    | nil => simp
    | cons x xs ih =>
      intro acc
      rw [List.foldl_cons, ih, addS_mem]
      simp [or_assoc]
  show y ∈ xs.foldl addS [] ↔ _
  simpa using this xs []
def wcell (xs : List Str) : List (Key × D) := (uniqS xs).map fun x => (.inr x, .bl true)
theorem put_add {acc : List Str} {x : Str} : putD (acc.map fun x => ((.inr x : Key), D.bl true)) (.inr x) (.bl true) = (addS acc x).map fun x => ((.inr x : Key), D.bl true) := by
  unfold putD addS
  by_cases h : x ∈ acc
  · have e : (acc.map fun x => ((.inr x : Key), D.bl true)).any (fun kv => decide (kv.1 = .inr x)) = true := by
      rw [List.any_eq_true]
      exact ⟨(.inr x, .bl true), List.mem_map.mpr ⟨x, h, rfl⟩, by simp⟩
    rw [if_pos e, if_pos h, List.map_map]
    congr 1
    funext y
    by_cases hy : y = x
    · simp [hy]
    · simp [hy]
  · have e : (acc.map fun x => ((.inr x : Key), D.bl true)).any (fun kv => decide (kv.1 = .inr x)) = false := by
      rw [List.any_eq_false]
      rintro p hp
      obtain ⟨y, hy, rfl⟩ := List.mem_map.mp hp
      have : y ≠ x := fun z => h (z ▸ hy)
      simpa using this
    rw [if_neg (by simp [e]), if_neg h]
    simp
theorem putAll_words (xs : List Str) : putAll [] (xs.map fun x => ((.inr x : Key), D.bl true)) = wcell xs := by
  unfold putAll wcell uniqS
  rw [List.foldl_map]
  have : ∀ (xs acc : List Str), xs.foldl (fun acc p => putD acc (.inr p) (.bl true)) (acc.map fun x => ((.inr x : Key), D.bl true)) = (xs.foldl addS acc).map fun x => ((.inr x : Key), D.bl true) := by
    intro xs
    induction xs with
    | nil => simp
    | cons x xs ih =>
      intro acc
      rw [List.foldl_cons, put_add, ih]
      rfl
  exact this xs []
theorem getK_words {xs : List Str} {x : Str} : (getK (wcell xs) (.inr x)).isSome = decide (x ∈ xs) := by
  unfold getK wcell
  rw [Option.isSome_map]
  by_cases h : x ∈ xs
  · rw [decide_eq_true h, List.find?_isSome]
    exact ⟨(.inr x, .bl true), List.mem_map.mpr ⟨x, uniqS_mem.mpr h, rfl⟩, by simp⟩
  · rw [decide_eq_false h, Bool.eq_false_iff]
    intro z
    rw [List.find?_isSome] at z
    obtain ⟨p, hp, e⟩ := z
    obtain ⟨y, hy, rfl⟩ := List.mem_map.mp hp
    simp at e
    subst e
    exact h (uniqS_mem.mp hy)
theorem niW_dict {h : Hh} {i : Nat} {xs : List Str} {x : Str} (e : h[i]? = some (.dK (wcell xs))) : niW (.str x) (.ref i) h = .ok (.bl (!decide (x ∈ xs))) h := by
  have : dget h (.ref i) (.str x) = some (getK (wcell xs) (.inr x)) := by simp [dget, e, toK]
  simp only [niW, inO, this, getK_words]
theorem inW_dict {h : Hh} {i : Nat} {xs : List Str} {x : Str} (e : h[i]? = some (.dK (wcell xs))) : inW (.str x) (.ref i) h = .ok (.bl (decide (x ∈ xs))) h := by
  have : dget h (.ref i) (.str x) = some (getK (wcell xs) (.inr x)) := by simp [dget, e, toK]
  simp only [inW, inO, this, getK_words]
/-! ### signs -/
theorem srcS_at {h : Hh} {z : Str} (j : Nat) : srcS z j h = some (z.cps.toList.map fun c => D.str ⟨#[c]⟩)[j]? := by
  simp [srcS, List.getElem?_map]
def okC (c : Nat) : Bool := decide (32 < c) && decide (c ≤ 126)
/-- a token -/
def isTok (z : Str) : Bool := decide (1 ≤ z.length) && decide (z.length ≤ 8) && z.cps.toList.all okC
theorem lt1 {a b : Nat} : decide ([a] < [b]) = decide (a < b) := by
  rw [decide_eq_decide, List.cons_lt_cons_iff]
  simp
def signs (z : Str) : List D := z.cps.toList.map fun c => D.str ⟨#[c]⟩
theorem signs_len {z : Str} : (signs z).length = z.length := by simp [signs, Str.length]
theorem lenW_str {h : Hh} {z : Str} (hl : z.length ≤ 16777216) : lenW (.str z) h = .ok (.int z.length) h := by
  have : z.length ≤ sizeLine := hl
  simp [lenW, asL, asT, this]
end PV
end
section
/-! PVP16: sizes of trees, their tokens, their data. -/
namespace PV
open PySem PySem.Spec PyProof.Rows L2
mutual
def Tr.nds : Tr → Nat
  | .leaf _ => 0
  | .grp t => t.nds
  | .nd _ ts => Tr.ndss ts + 1
def Tr.ndss : List Tr → Nat
  | [] => 0
  | t :: ts => t.nds + Tr.ndss ts
end
mutual
def Tr.grs : Tr → Nat
  | .leaf _ => 0
  | .grp t => t.grs + 1
  | .nd _ ts => Tr.grss ts
def Tr.grss : List Tr → Nat
  | [] => 0
  | t :: ts => t.grs + Tr.grss ts
end
theorem ndss_snoc : ∀ {ts : List Tr} {t : Tr}, Tr.ndss (ts ++ [t]) = Tr.ndss ts + t.nds
  | [], t => by simp [Tr.ndss]
  | u :: ts, t => by simp only [List.cons_append, Tr.ndss, ndss_snoc (ts := ts)]; omega
theorem grss_snoc : ∀ {ts : List Tr} {t : Tr}, Tr.grss (ts ++ [t]) = Tr.grss ts + t.grs
  | [], t => by simp [Tr.grss]
  | u :: ts, t => by simp only [List.cons_append, Tr.grss, grss_snoc (ts := ts)]; omega
theorem nds_mem : ∀ {ts : List Tr} {t : Tr}, t ∈ ts → t.nds ≤ Tr.ndss ts
  | u :: ts, t, h => by
    simp only [Tr.ndss]
    rcases List.mem_cons.mp h with rfl | h
    · omega
    · have := nds_mem h; omega
theorem grs_mem : ∀ {ts : List Tr} {t : Tr}, t ∈ ts → t.grs ≤ Tr.grss ts
  | u :: ts, t, h => by
    simp only [Tr.grss]
    rcases List.mem_cons.mp h with rfl | h
    · omega
    · have := grs_mem h; omega
/-- a tree drawn: at most a nodes, b groups -/
def Tr.okG (ops : List Opr) (a b : Nat) (t : Tr) : Prop := t.ok ops (fun s => s ∈ idents) ∧ t.nds ≤ a ∧ t.grs ≤ b
def Tr.sm (t : Tr) : Prop := t.nds ≤ 1000 ∧ t.grs ≤ 1000
theorem Tr.sm.mem {n : Nat} {ts : List Tr} {t : Tr} (h : (Tr.nd n ts).sm) (ht : t ∈ ts) : t.sm := by
  have h1 := nds_mem ht
  have h2 := grs_mem ht
  unfold Tr.sm at h ⊢
  simp only [Tr.nds, Tr.grs] at h
  omega
theorem Tr.sm.grp {t : Tr} (h : (Tr.grp t).sm) : t.sm := by
  unfold Tr.sm at h ⊢
  simp only [Tr.nds, Tr.grs] at h
  omega
theorem Tr.sm_nd {n : Nat} {ts : List Tr} (h : ∀ t ∈ ts, t.sm) : True := trivial
/-! ### tokens -/
def inter : List Str → List (List Str) → List Str
  | [], _ => []
  | w :: ws, [] => w :: inter ws []
  | w :: ws, p :: ps => w :: (p ++ inter ws ps)
def nodeT (o : Option Opr) (ps : List (List Str)) : List Str := match o with
  | some o => if o.L = true then ps.headD [] ++ inter o.words ps.tail else inter o.words ps
  | none => []
mutual
def Tr.toks (ops : List Opr) : Tr → List Str
  | .leaf s => [s]
  | .grp t => ("(" : Str) :: (t.toks ops ++ [(")" : Str)])
  | .nd n ts => nodeT ops[n]? (Tr.toksL ops ts)
def Tr.toksL (ops : List Opr) : List Tr → List (List Str)
  | [] => []
  | t :: ts => t.toks ops :: Tr.toksL ops ts
end
theorem toksL_map {ops : List Opr} : ∀ ts : List Tr, Tr.toksL ops ts = ts.map (Tr.toks ops)
  | [] => rfl
  | t :: ts => by simp only [Tr.toksL, List.map_cons, toksL_map ts]
def lenL (ps : List (List Str)) : Nat := (ps.map List.length).sum
theorem inter_len : ∀ {ws : List Str} {ps : List (List Str)}, (inter ws ps).length ≤ ws.length + lenL ps
  | [], ps => by simp [inter]
  | w :: ws, [] => by
    have := inter_len (ws := ws) (ps := [])
    simp only [inter, List.length_cons]
    omega
  | w :: ws, p :: ps => by
    have := inter_len (ws := ws) (ps := ps)
    simp only [inter, List.length_cons, List.length_append, lenL, List.map_cons, List.sum_cons] at this ⊢
    omega
theorem nodeT_len {o : Opr} {ps : List (List Str)} : (nodeT (some o) ps).length ≤ o.words.length + lenL ps := by
  unfold nodeT
  simp only
  split
  · cases ps with
    | nil =>
      have := inter_len (ws := o.words) (ps := [])
      simpa using this
    | cons p ps =>
      have := inter_len (ws := o.words) (ps := ps)
      simp only [List.headD_cons, List.tail_cons, List.length_append, lenL, List.map_cons, List.sum_cons] at this ⊢
      omega
  · exact inter_len
mutual
theorem toks_len {ops : List Opr} {p : Str → Prop} (O : OpsOk ops) : ∀ t : Tr, t.ok ops p → (t.toks ops).length ≤ 1 + 6 * t.nds + 2 * t.grs
  | .leaf s, _ => by simp [Tr.toks, Tr.nds, Tr.grs]
  | .grp t, h => by
    have := toks_len O t h
    simp only [Tr.toks, Tr.nds, Tr.grs, List.length_cons, List.length_append, List.length_nil]
    omega
  | .nd n ts, h => by
    obtain ⟨⟨o, eo, hl⟩, hs⟩ := h
    have h1 := toksL_len O ts hs
    have h2 := nodeT_len (o := o) (ps := Tr.toksL ops ts)
    have h3 := (O.ok o (List.mem_of_getElem? eo)).l3
    have h4 := holes_le (O.ok o (List.mem_of_getElem? eo))
    simp only [Tr.toks, eo, Tr.nds, Tr.grs]
    omega
theorem toksL_len {ops : List Opr} {p : Str → Prop} (O : OpsOk ops) : ∀ ts : List Tr, Tr.oks ops p ts → lenL (Tr.toksL ops ts) ≤ ts.length + 6 * Tr.ndss ts + 2 * Tr.grss ts
  | [], _ => by simp [Tr.toksL, lenL]
  | t :: ts, h => by
    have h1 := toks_len O t h.1
    have h2 := toksL_len O ts h.2
    simp only [Tr.toksL, lenL, List.map_cons, List.sum_cons, Tr.ndss, Tr.grss, List.length_cons] at h2 ⊢
    omega
end
theorem inter_mem {x : Str} : ∀ {ws : List Str} {ps : List (List Str)}, x ∈ inter ws ps → x ∈ ws ∨ ∃ p ∈ ps, x ∈ p
  | [], ps, h => by simp [inter] at h
  | w :: ws, [], h => by
    simp only [inter, List.mem_cons] at h
    rcases h with rfl | h
    · exact .inl (by simp)
    · rcases inter_mem h with h | ⟨p, hp, _⟩
      · exact .inl (by simp [h])
      · cases hp
  | w :: ws, p :: ps, h => by
    simp only [inter, List.mem_cons, List.mem_append] at h
    rcases h with rfl | h | h
    · exact .inl (by simp)
    · exact .inr ⟨p, by simp, h⟩
    · rcases inter_mem h with h | ⟨q, hq, hx⟩
      · exact .inl (by simp [h])
      · exact .inr ⟨q, by simp [hq], hx⟩
theorem nodeT_mem {x : Str} {o : Opr} {ps : List (List Str)} (h : x ∈ nodeT (some o) ps) : x ∈ o.words ∨ ∃ p ∈ ps, x ∈ p := by
  unfold nodeT at h
  simp only at h
  split at h
  · rcases List.mem_append.mp h with h | h
    · cases ps with
      | nil => simp at h
      | cons p ps => exact .inr ⟨p, by simp, h⟩
    · rcases inter_mem h with h | ⟨p, hp, hx⟩
      · exact .inl h
      · exact .inr ⟨p, List.mem_of_mem_tail hp, hx⟩
  · exact inter_mem h
mutual
/-- each token is an identifier, a parenthesis or a word -/
theorem toks_mem {ops : List Opr} {p : Str → Prop} {x : Str} : ∀ t : Tr, t.ok ops p → x ∈ t.toks ops → p x ∨ x = "(" ∨ x = ")" ∨ x ∈ wordL ops
  | .leaf s, h, hx => by
    have : x = s := by simpa [Tr.toks] using hx
    subst this; exact .inl h
  | .grp t, h, hx => by
    simp only [Tr.toks, List.mem_cons, List.mem_append, List.not_mem_nil, or_false] at hx
    rcases hx with rfl | hx | rfl
    · exact .inr (.inl rfl)
    · exact toks_mem t h hx
    · exact .inr (.inr (.inl rfl))
  | .nd n ts, h, hx => by
    obtain ⟨⟨o, eo, hl⟩, hs⟩ := h
    simp only [Tr.toks, eo] at hx
    rcases nodeT_mem hx with hx | ⟨q, hq, hx⟩
    · exact .inr (.inr (.inr (List.mem_flatMap.mpr ⟨o, List.mem_of_getElem? eo, hx⟩)))
    · exact toksL_mem ts hs hq hx
theorem toksL_mem {ops : List Opr} {p : Str → Prop} {x : Str} {q : List Str} : ∀ ts : List Tr, Tr.oks ops p ts → q ∈ Tr.toksL ops ts → x ∈ q → p x ∨ x = "(" ∨ x = ")" ∨ x ∈ wordL ops
  | [], _, hq, _ => by simp [Tr.toksL] at hq
  | t :: ts, h, hq, hx => by
    simp only [Tr.toksL, List.mem_cons] at hq
    rcases hq with rfl | hq
    · exact toks_mem t h.1 hx
    · exact toksL_mem ts h.2 hq hx
end
theorem toks_ne {ops : List Opr} {p : Str → Prop} (O : OpsOk ops) : ∀ t : Tr, t.ok ops p → t.toks ops ≠ []
  | .leaf s, _ => by simp [Tr.toks]
  | .grp t, _ => by simp [Tr.toks]
  | .nd n ts, h => by
    obtain ⟨⟨o, eo, hl⟩, hs⟩ := h
    have h1 := (O.ok o (List.mem_of_getElem? eo)).l1
    have key : ∀ ps, inter o.words ps ≠ [] := fun ps => by
      cases e : o.words with
      | nil => rw [e] at h1; simp at h1
      | cons w ws => cases ps <;> simp [inter]
    simp only [Tr.toks, eo, nodeT]
    split
    · simp [key]
    · exact key _
/-! ### trees as data -/
mutual
def Tr.py : Tr → PyData
  | .leaf s => .str s
  | .grp t => .tuple [.str "(", t.py]
  | .nd n ts => .tuple (.int n :: Tr.pys ts)
def Tr.pys : List Tr → List PyData
  | [] => []
  | t :: ts => t.py :: Tr.pys ts
end
theorem pys_map : ∀ ts : List Tr, Tr.pys ts = ts.map Tr.py
  | [] => rfl
  | t :: ts => by simp only [Tr.pys, List.map_cons, pys_map ts]
mutual
theorem toP_tr {h : Hh} : ∀ (t : Tr) (n : Nat), t.depth + 1 < n → toP h n t.enc = some t.py
  | .leaf s, n + 1, _ => rfl
  | .grp t, n + 1, hn => by
    simp only [Tr.depth] at hn
    simp only [Tr.enc, toP_tup, Tr.py]
    obtain ⟨m, rfl⟩ : ∃ m, n = m + 1 := ⟨n - 1, by omega⟩
    rw [mapO_cons (f := toP h (m + 1)) (toP_str (h := h)) (mapO_cons (f := toP h (m + 1)) (toP_tr t (m + 1) (by omega)) (mapO_nil))]
    rfl
  | .nd k ts, n + 1, hn => by
    simp only [Tr.depth] at hn
    obtain ⟨m, rfl⟩ : ∃ m, n = m + 1 := ⟨n - 1, by omega⟩
    simp only [Tr.enc, toP_tup, Tr.py]
    rw [mapO_cons (f := toP h (m + 1)) (toP_int (h := h)) (toP_trs ts (m + 1) (by omega))]
    rfl
theorem toP_trs {h : Hh} : ∀ (ts : List Tr) (n : Nat), Tr.depths ts + 1 < n → mapO (toP h n) (Tr.encs ts) = some (Tr.pys ts)
  | [], n, _ => rfl
  | t :: ts, n, hn => by
    simp only [Tr.depths] at hn
    simp only [Tr.encs, Tr.pys]
    exact mapO_cons (toP_tr t n (by omega)) (toP_trs ts n (by omega))
end
theorem ident_ok : ∀ x ∈ idents, PyData.strOk x = true := by decide +kernel
theorem ident_len : ∀ x ∈ idents, x.length ≤ 8 := by decide +kernel
/-- plain data: its depth, its weight -/
structure PS (n w : Nat) (d : PyData) : Prop where
  lay : d.canLay0 = true
  sh : d.showable = true
  lv : d.leavesShort 24 = true
  dp : d.depth ≤ n
  wt : d.weight ≤ w
theorem PS.mono {n w n' w' : Nat} {d : PyData} (p : PS n w d) (hn : n ≤ n') (hw : w ≤ w') : PS n' w' d := ⟨p.lay, p.sh, p.lv, Nat.le_trans p.dp hn, Nat.le_trans p.wt hw⟩
theorem PS.pn {n w : Nat} {d : PyData} (p : PS n w d) : PN n (26 * w + 24) d := by
  refine ⟨p.lay, p.sh, p.dp, ?_⟩
  have h1 := PyData.shown_le 24 (by decide) d p.lv
  have h2 := Nat.mul_le_mul_left 26 p.wt
  omega
theorem ps_none : PS 0 0 .none := ⟨rfl, rfl, rfl, by simp [PyData.depth], by simp [PyData.weight]⟩
theorem ps_bool {b : Bool} : PS 0 0 (.bool b) := ⟨rfl, rfl, rfl, by simp [PyData.depth], by simp [PyData.weight]⟩
theorem ps_str {x : Str} {w : Nat} (h : PyData.strOk x = true) (hw : x.length ≤ w) : PS 0 w (.str x) := by
  refine ⟨by simp [PyData.canLay0, h], rfl, ?_, by simp [PyData.depth], by simpa [PyData.weight, Str.length] using hw⟩
  simp only [PyData.leavesShort, List.all_eq_true, decide_eq_true_eq]
  intro c hc
  simp only [PyData.strOk, Array.all_eq_true'] at h
  have := h c (by simpa using hc)
  simp at this
  omega
theorem ps_nat {i : Nat} (h : i < 1000000) : PS 0 20 (.int i) := by
  have p := pn_nat (i := i) (by omega)
  refine ⟨rfl, p.sh, ?_, by simp [PyData.depth], ?_⟩
  · simp only [PyData.leavesShort, decide_eq_true_eq]
    have := p.ln
    omega
  · simp only [PyData.weight]
    split
    · omega
    · rw [Int.natAbs_natCast]
      have := log2_lt (n := i) (k := 20) (by omega) (by decide)
      omega
theorem lv_all {B : Nat} : ∀ {ds : List PyData}, (∀ d ∈ ds, d.leavesShort B = true) → PyData.leavesShortAll B ds = true
  | [], _ => by simp [PyData.leavesShortAll]
  | d :: ds, h => by
    simp only [PyData.leavesShortAll, Bool.and_eq_true]
    exact ⟨h d (by simp), lv_all fun x hx => h x (by simp [hx])⟩
theorem wt_all {w : Nat} : ∀ {ds : List PyData}, (∀ d ∈ ds, d.weight ≤ w) → PyData.weightAll ds ≤ ds.length * (w + 1)
  | [], _ => by simp [PyData.weightAll]
  | d :: ds, h => by
    have h1 := h d (by simp)
    have h2 := wt_all fun x hx => h x (List.mem_cons_of_mem _ hx)
    simp only [PyData.weightAll, List.length_cons, Nat.add_mul]
    omega
theorem ps_tuple {n w : Nat} {ds : List PyData} (h : ∀ d ∈ ds, PS n w d) : PS (n + 1) (ds.length * (w + 1)) (.tuple ds) := by
  have h4 := depth_all fun d hd => (h d hd).dp
  exact ⟨by simp only [PyData.canLay0]; exact canLay_all fun d hd => (h d hd).lay, by simp only [PyData.showable]; exact showable_all fun d hd => (h d hd).sh, by simp only [PyData.leavesShort]; exact lv_all fun d hd => (h d hd).lv, by simp only [PyData.depth]; omega, by simp only [PyData.weight]; exact wt_all fun d hd => (h d hd).wt⟩
theorem ps_list {n w : Nat} {ds : List PyData} (h : ∀ d ∈ ds, PS n w d) : PS (n + 1) (ds.length * (w + 1)) (.list ds) := by
  have h4 := depth_all fun d hd => (h d hd).dp
  exact ⟨by simp only [PyData.canLay0]; exact canLay_all fun d hd => (h d hd).lay, by simp only [PyData.showable]; exact showable_all fun d hd => (h d hd).sh, by simp only [PyData.leavesShort]; exact lv_all fun d hd => (h d hd).lv, by simp only [PyData.depth]; omega, by simp only [PyData.weight]; exact wt_all fun d hd => (h d hd).wt⟩
/-- a tuple by its parts -/
theorem ps_cons {n w1 w2 : Nat} {d : PyData} {ds : List PyData} (h1 : PS n w1 d) (h2 : PS (n + 1) w2 (.tuple ds)) : PS (n + 1) (w1 + 1 + w2) (.tuple (d :: ds)) := by
  have a1 := h1.dp
  have a2 := h2.dp
  have b1 := h1.wt
  have b2 := h2.wt
  have c1 := h2.lay
  have c2 := h2.sh
  have c3 := h2.lv
  simp only [PyData.depth, PyData.weight, PyData.canLay0, PyData.showable, PyData.leavesShort] at a2 b2 c1 c2 c3
  refine ⟨?_, ?_, ?_, ?_, ?_⟩
  · simp [PyData.canLay0, PyData.canLayAll0, h1.lay, c1]
  · simp [PyData.showable, PyData.showableAll, h1.sh, c2]
  · simp [PyData.leavesShort, PyData.leavesShortAll, h1.lv, c3]
  · simp only [PyData.depth, PyData.depthAll]; omega
  · simp only [PyData.weight, PyData.weightAll]; omega
theorem ps_nil {n : Nat} : PS (n + 1) 0 (.tuple []) := ⟨rfl, rfl, rfl, by simp [PyData.depth, PyData.depthAll], by simp [PyData.weight, PyData.weightAll]⟩
mutual
theorem ps_tr {ops : List Opr} (O : OpsOk ops) (hol : ops.length ≤ 1000) : ∀ (t : Tr) (n : Nat), t.ok ops (fun s => s ∈ idents) → t.depth ≤ n → PS n (9 + 60 * t.nds + 3 * t.grs) t.py
  | .leaf s, n, h, _ => (ps_str (ident_ok s h) (Nat.le_trans (ident_len s h) (by omega : 8 ≤ 9 + 60 * (Tr.leaf s).nds + 3 * (Tr.leaf s).grs))).mono (by omega) (by omega)
  | .grp t, 0, h, hd => by simp only [Tr.depth] at hd; omega
  | .grp t, n + 1, h, hd => by
    simp only [Tr.depth] at hd
    have h1 := ps_tr O hol t n h (by omega)
    have h2 : PS n 1 (.str "(") := (ps_str (w := 1) (by decide +kernel) (by decide +kernel)).mono (by omega) (by omega)
    exact (ps_cons h2 (ps_cons h1 ps_nil)).mono (by omega) (by simp only [Tr.nds, Tr.grs]; omega)
  | .nd k ts, 0, h, hd => by simp only [Tr.depth] at hd; omega
  | .nd k ts, n + 1, h, hd => by
    simp only [Tr.depth] at hd
    obtain ⟨⟨o, eo, hl⟩, hs⟩ := h
    have h1 := ps_trs O hol ts n hs (by omega)
    have hk := lt_of_get eo
    have h2 : PS n 20 (.int k) := (ps_nat (by omega)).mono (by omega) (by omega)
    have h4 := holes_le (O.ok o (List.mem_of_getElem? eo))
    exact (ps_cons h2 h1).mono (by omega) (by simp only [Tr.nds, Tr.grs]; omega)
theorem ps_trs {ops : List Opr} (O : OpsOk ops) (hol : ops.length ≤ 1000) : ∀ (ts : List Tr) (n : Nat), Tr.oks ops (fun s => s ∈ idents) ts → Tr.depths ts ≤ n → PS (n + 1) (10 * ts.length + 60 * Tr.ndss ts + 3 * Tr.grss ts) (.tuple (Tr.pys ts))
  | [], n, _, _ => (ps_nil (n := n)).mono (by omega) (by omega)
  | t :: ts, n, h, hd => by
    simp only [Tr.depths] at hd
    exact (ps_cons (ps_tr O hol t n h.1 (by omega)) (ps_trs O hol ts n h.2 (by omega))).mono (by omega) (by simp only [Tr.ndss, Tr.grss, List.length_cons]; omega)
end
theorem pool0_len : ∀ x ∈ pool0, x.length ≤ 8 := by decide +kernel
theorem kinds_len : ∀ x ∈ kinds, x.length ≤ 8 := by decide +kernel
theorem ps_opr {o : Opr} (h : OprOk o) : PS 2 60 o.py := by
  have h1 : PS 1 8 (.str o.kind) := (ps_str (kinds_ok _ h.kd) (kinds_len _ h.kd)).mono (by omega) (by omega)
  have h2 : PS 1 27 (.tuple (o.words.map .str)) := (ps_tuple (n := 0) (w := 8) fun d hd => by
    obtain ⟨x, hx, rfl⟩ := List.mem_map.mp hd
    exact ps_str (pool0_ok x (h.w0 x hx)) (pool0_len x (h.w0 x hx))).mono (by omega) (by have := h.l3; simp only [List.length_map]; omega)
  exact (ps_cons h1 (ps_cons h2 ps_nil)).mono (by omega) (by omega)
theorem ps_ops {ops : List Opr} (O : OpsOk ops) : PS 3 (ops.length * 61) (.tuple (ops.map Opr.py)) := by
  refine (ps_tuple (n := 2) (w := 60) fun d hd => ?_).mono (by omega) (by simp)
  obtain ⟨o, ho, rfl⟩ := List.mem_map.mp hd
  exact ps_opr (O.ok o ho)
theorem reprX_ok {x : D} {h : Hh} {d : PyData} {n l : Nat} (e : toP h deep x = some d) (p : PN n l d) (hn : n ≤ 64) (hl : l ≤ 16777216) : reprX x h = .ok (.str d.shown) h := by
  unfold reprX
  rw [e]
  exact reprW_ok e p hn hl
end PV
end
section
/-! PVP17: identifiers; dicts returned; membership. -/
namespace PV
open PySem PySem.Spec PyProof.Rows L2
def gC (f : Nat → Bool) (w : D) : Bool := match w with
  | .str y => match y.cps.toList with
    | [c] => f c
    | _ => false
  | _ => false
theorem signs_all {z : Str} {f : Nat → Bool} : (signs z).all (gC f) = z.cps.toList.all f := by
  unfold signs
  rw [List.all_map]
  rfl
theorem signs_mem {z : Str} {w : D} (h : w ∈ signs z) : ∃ c, c ∈ z.cps.toList ∧ w = .str ⟨#[c]⟩ := by
  obtain ⟨c, hc, rfl⟩ := List.mem_map.mp h
  exact ⟨c, hc, rfl⟩
theorem miE_str {m : M D} {σ : Sg} {h h1 : Hh} {z : Str} (e : m σ h = .ok (.str z) h1) : miE m σ h = .ok (srcS z) h1 := by simp [miE, e, srcOf, asT, asL]
def idC : Str := "abcdefghijklmnopqrstuvwxyz0123456789"
def isIdC (c : Nat) : Bool := decide (c ∈ idC.cps.toList)
def isIdent (ops : List Opr) (z : Str) : Bool := isTok z && z.cps.toList.all isIdC && !decide (z ∈ wordL ops)
theorem gcR_dict {h : Hh} {c : Cl} (lim : c.lim h.length = true) (nl : ∀ ws, c ≠ .lst ws) : gcR h (.ok (.ref h.length) (h ++ [c])) = .ok (.ref h.length) (h ++ [c]) := by
  show gc h _ _ = _
  unfold gc
  have ok : gcOk h.length h (h ++ [c]) = true := gcOk_of (by simp) fun j d hj e => .inl (by rw [List.getElem?_append_left hj] at e; exact e)
  rw [if_pos ok, if_neg (by simp)]
  have e : (h ++ [c])[h.length]? = some c := by simp
  simp only [e]
  cases c with
  | lst ws => exact absurd rfl (nl ws)
  | dK kvs => simp only [lim, Nat.le_refl, and_self, if_true]; simp
  | dT kvs => simp only [lim, Nat.le_refl, and_self, if_true]; simp
  | ins c fs => simp only [lim, Nat.le_refl, and_self, if_true]; simp
theorem lim_wcell {n : Nat} {xs : List Str} : Cl.lim n (.dK (wcell xs)) = true := by
  unfold wcell
  simp only [Cl.lim]
  induction uniqS xs with
  | nil => rfl
  | cons x xs ih => simp only [List.map_cons, limK, lim_bl, ih, Bool.and_self]
theorem wcell_keys {xs : List Str} : (wcell xs).map (fun kv => kD kv.1) = (uniqS xs).map .str := by
  unfold wcell
  rw [List.map_map]
  rfl
theorem tupleK_words {h : Hh} {i : Nat} {xs : List Str} (e : h[i]? = some (.dK (wcell xs))) : tupleK (.ref i) h = .ok (.tup ((uniqS xs).map .str)) h := by
  simp only [tupleK, e, wcell_keys]
theorem niW_strs {h : Hh} {x : Str} {ss : List Str} (hx : PyData.strOk x = true) (hs : ∀ s ∈ ss, PyData.strOk s = true) : niW (.str x) (.tup (ss.map .str)) h = .ok (.bl (!decide (x ∈ ss))) h := by
  have := inW_strs (h := h) hx hs
  unfold inW at this
  unfold niW
  split at this
  · rename_i b e
    have e2 : b = decide (x ∈ ss) := by
      injection this with h1
      injection h1
    rw [e2]
  · cases this
def usW (w : D) : List D := match w with
  | .tup [_, .tup ws] => ws
  | _ => []
def gW (_ u : D) : Key × D := match u with
  | .str x => (.inr x, .bl true)
  | _ => (.inl 0, .non)
theorem usW_enc {o : Opr} : usW o.enc = o.words.map .str := rfl
theorem uniqS_le {xs : List Str} : (uniqS xs).length ≤ xs.length := by
  unfold uniqS
  have : ∀ (xs acc : List Str), (xs.foldl addS acc).length ≤ acc.length + xs.length := by
    intro xs
    induction xs with
    | nil => simp
    | cons x xs ih =>
      intro acc
      have h1 := ih (addS acc x)
      have h2 : (addS acc x).length ≤ acc.length + 1 := by unfold addS; split <;> simp
      simp only [List.foldl_cons, List.length_cons]
      omega
  simpa using this xs []
theorem wordL_len {ops : List Opr} (O : OpsOk ops) : (wordL ops).length ≤ 3 * ops.length := by
  have : ∀ l : List Opr, (∀ o ∈ l, OprOk o) → (wordL l).length ≤ 3 * l.length := by
    intro l
    induction l with
    | nil => simp [wordL]
    | cons o l ih =>
      intro h
      have h1 := ih fun x hx => h x (by simp [hx])
      have h2 := (h o (by simp)).l3
      unfold wordL at h1 ⊢
      simp only [List.flatMap_cons, List.length_append, List.length_cons]
      omega
  exact this ops O.ok
theorem wordL_pool {ops : List Opr} (O : OpsOk ops) {x : Str} (h : x ∈ wordL ops) : x ∈ pool0 := by
  obtain ⟨o, ho, hx⟩ := List.mem_flatMap.mp h
  exact (O.ok o ho).w0 x hx
theorem ident_pool : ∀ x ∈ idents, x ∉ pool0 := by decide +kernel
theorem ident_tok : ∀ x ∈ idents, (isTok x && x.cps.toList.all isIdC) = true := by decide +kernel
theorem isIdent_of {ops : List Opr} (O : OpsOk ops) {x : Str} (h : x ∈ idents) : isIdent ops x = true := by
  unfold isIdent
  rw [ident_tok x h, decide_eq_false fun z => ident_pool x h (wordL_pool O z)]
  rfl
theorem nosp : ∀ x ∈ pool0 ++ idents ++ [("(" : Str), ")"], (32 : Nat) ∉ x.cps.toList := by decide +kernel
theorem sum_le {xs : List Str} (h : ∀ x ∈ xs, x.length ≤ 8) : (xs.map (·.length)).sum ≤ 8 * xs.length := by
  induction xs with
  | nil => simp
  | cons x xs ih =>
    have h1 := h x (by simp)
    have h2 := ih fun y hy => h y (by simp [hy])
    simp only [List.map_cons, List.sum_cons, List.length_cons]
    omega
theorem mapO_toS {xs : List Str} : mapO toS (xs.map .str) = some xs := by
  have := mapO_map (f := toS) (g := D.str) (k := id) (xs := xs) fun x _ => rfl
  simpa using this
theorem joinW_tl {h : Hh} {xs : List Str} (hx : ∀ x ∈ xs, x.length ≤ 8) (hl : xs.length ≤ 100000) : joinW (.str " ") (.tl (xs.map .str)) h = .ok (.str (Txt.join " " xs)) h := by
  have h1 := sum_le hx
  have e : (Str.ofString " ").length = 1 := by decide +kernel
  have h2 : (xs.map (·.length)).sum + xs.length * (Str.ofString " ").length ≤ 16777216 := by rw [e]; omega
  simp only [joinW, asL, mapO_toS, h2, if_true]
theorem joinW_ref {h : Hh} {q : Nat} {xs : List Str} (eq : h[q]? = some (.lst (xs.map .str))) (hx : ∀ x ∈ xs, x.length ≤ 8) (hl : xs.length ≤ 100000) : joinW (.str " ") (.ref q) h = .ok (.str (Txt.join " " xs)) h := by
  have h1 := sum_le hx
  have e : (Str.ofString " ").length = 1 := by decide +kernel
  have h2 : (xs.map (·.length)).sum + xs.length * (Str.ofString " ").length ≤ 16777216 := by rw [e]; omega
  simp only [joinW, asL, eq, mapO_toS, h2, if_true]
theorem join_len {xs : List Str} (hx : ∀ x ∈ xs, x.length ≤ 8) : (Txt.join " " xs).length ≤ 9 * xs.length := by
  have h1 := sum_le hx
  have h2 := StrLaws.join_length_le " " xs
  have e : (Str.ofString " ").length = 1 := by decide +kernel
  rw [TL.join_eq]
  rw [e] at h2
  omega
theorem split_join1 {xs : List Str} (hne : xs ≠ []) (hx : ∀ x ∈ xs, (32 : Nat) ∉ x.cps.toList) : Txt.split (Txt.join " " xs) " " = xs :=
  TL.split_join (s := 32) (S := []) (by decide +kernel) (by decide +kernel) hne hx
theorem splitW_join {h : Hh} {xs : List Str} (hne : xs ≠ []) (h8 : ∀ x ∈ xs, x.length ≤ 8) (hl : xs.length ≤ 100000) (hx : ∀ x ∈ xs, (32 : Nat) ∉ x.cps.toList) : splitW (.str (Txt.join " " xs)) (.str " ") h = .ok (.tl (xs.map .str)) h := by
  have e := split_join1 hne hx
  have h2 := join_len h8
  have h3 : (Txt.join " " xs).length + 2 ≤ sizeLine := sz (by omega)
  have h4 : xs.length ≤ sizeLine := sz (by omega)
  have h5 : ((Str.ofString " ").length == 0) = false := by decide +kernel
  simp only [splitW, e, h3, h4, h5, and_self, if_true]
end PV
end
section
/-! PVP18: values of any kind. -/
namespace PV
open PySem PySem.Spec PyProof.Rows L2
/-- a value whose type is known -/
def Ty (h : Hh) : D → Prop
  | .non => True
  | .bl _ => True
  | .int _ => True
  | .tup _ => True
  | .str x => x.length ≤ 1000 ∧ PyData.strOk x = true
  | .ref j => (∃ ws, h[j]? = some (.lst ws)) ∨ ∃ kvs, h[j]? = some (.dK kvs)
  | _ => False
def D.isTup : D → Bool
  | .tup _ => true
  | _ => false
def D.isStr : D → Bool
  | .str _ => true
  | _ => false
def D.isBl : D → Bool
  | .bl _ => true
  | _ => false
def D.isInt : D → Bool
  | .int _ => true
  | .bl _ => true
  | _ => false
theorem isi_tuple {h : Hh} {w : D} (t : Ty h w) : isiW w (.ty "tuple") h = .ok (.bl w.isTup) h := by
  cases w <;> first
    | (simp only [isiW, isiTy, tyD]; rfl)
    | exact t.elim
    | (rcases t with ⟨ws, e⟩ | ⟨kvs, e⟩
       · simp only [isiW, isiTy, tyD, e]; rfl
       · simp only [isiW, isiTy, tyD, e]; rfl)
theorem isi_str {h : Hh} {w : D} (t : Ty h w) : isiW w (.ty "str") h = .ok (.bl w.isStr) h := by
  cases w <;> first
    | (simp only [isiW, isiTy, tyD]; rfl)
    | exact t.elim
    | (rcases t with ⟨ws, e⟩ | ⟨kvs, e⟩
       · simp only [isiW, isiTy, tyD, e]; rfl
       · simp only [isiW, isiTy, tyD, e]; rfl)
theorem isi_int {h : Hh} {w : D} (t : Ty h w) : isiW w (.ty "int") h = .ok (.bl w.isInt) h := by
  cases w <;> first
    | (simp only [isiW, isiTy, tyD]; rfl)
    | exact t.elim
    | (rcases t with ⟨ws, e⟩ | ⟨kvs, e⟩
       · simp only [isiW, isiTy, tyD, e]; rfl
       · simp only [isiW, isiTy, tyD, e]; rfl)
theorem isi_bool {h : Hh} {w : D} (t : Ty h w) : isiW w (.ty "bool") h = .ok (.bl w.isBl) h := by
  cases w <;> first
    | (simp only [isiW, isiTy, tyD]; rfl)
    | exact t.elim
    | (rcases t with ⟨ws, e⟩ | ⟨kvs, e⟩
       · simp only [isiW, isiTy, tyD, e]; rfl
       · simp only [isiW, isiTy, tyD, e]; rfl)
theorem Ty.ux {is : List Nat} {h h' : Hh} {w : D} (t : Ty h w) (u : Ux is h h') (hn : ∀ i, w = .ref i → i ∉ is) : Ty h' w := by
  cases w <;> first
    | exact t
    | (rename_i j
       rcases t with ⟨ws, e⟩ | ⟨kvs, e⟩
       · exact .inl ⟨ws, u.get e (hn j rfl)⟩
       · exact .inr ⟨kvs, u.get e (hn j rfl)⟩)
/-- the shape of an operator, seen two levels deep -/
def TyT (h : Hh) (w : D) : Prop := Ty h w ∧ ∀ ws, w = .tup ws → ws.length ≤ 1000 ∧ ∀ x ∈ ws, Ty h x
def OpV (h : Hh) (w : D) : Prop := Ty h w ∧ ∀ ws, w = .tup ws → ws.length ≤ 1000 ∧ ∀ x ∈ ws, TyT h x
def wordD (w : D) : Bool := match w with
  | .str z => isTok z && !decide (z ∈ [("(" : Str), ")"])
  | _ => false
def isOp (w : D) : Bool := match w with
  | .tup [.str k, .tup ws] => decide (k ∈ kinds) && ws.all wordD && decide ((if k = "closed" then 2 else 1) ≤ ws.length) && decide (ws.length ≤ 3)
  | _ => false
theorem niW_kt {h : Hh} {x : Str} {ss : List Str} (hx : PyData.strOk x = true) (hs : ∀ s ∈ ss, PyData.strOk s = true) : niW (.str x) (.kt (ss.map .str)) h = .ok (.bl (!decide (x ∈ ss))) h := by
  have := niW_strs (h := h) hx hs
  exact this
theorem inW_kt {h : Hh} {x : Str} {ss : List Str} (hx : PyData.strOk x = true) (hs : ∀ s ∈ ss, PyData.strOk s = true) : inW (.str x) (.kt (ss.map .str)) h = .ok (.bl (decide (x ∈ ss))) h := by
  have := inW_strs (h := h) hx hs
  exact this
theorem ixW_nat {h : Hh} {ws : List D} {n : Nat} {w : D} (e : ws[n]? = some w) : ixW (.tup ws) (.int (n : Int)) h = .ok w h := ixW_tn e
theorem neW_ni {h : Hh} {i j : Int} : neW (.int i) (.int j) h = .ok (.bl (!decide (i = j))) h := by
  have := eqW_int (i := i) (j := j) (h := h)
  unfold eqW at this
  unfold neW
  simp only at this ⊢
  split at this
  · rename_i b e
    injection this with h1
    injection h1 with h1
    rw [h1]
  · cases this
/-! ### plain values: repr -/
/-- nested at most n deep; its lists are none of the cells bad -/
def Nv (bad : List Nat) (h : Hh) : Nat → D → Prop
  | 0, _ => False
  | n + 1, w => match w with
    | .non => True
    | .bl _ => True
    | .int i => ∃ k : Nat, i = k ∧ k < 1000
    | .str x => PyData.strOk x = true ∧ x.length ≤ 20
    | .tup ws => ws.length ≤ 8 ∧ ∀ x ∈ ws, Nv bad h n x
    | .ref j => j ∉ bad ∧ ∃ ws, h[j]? = some (.lst ws) ∧ ws.length ≤ 8 ∧ ∀ x ∈ ws, Nv bad h n x
    | _ => False
theorem Nv.ux {bad is : List Nat} {h h' : Hh} (u : Ux is h h') (hs : ∀ i ∈ is, i < h.length → i ∈ bad) : ∀ {n : Nat} {w : D}, Nv bad h n w → Nv bad h' n w
  | 0, w, v => v
  | n + 1, w, v => by
    cases w <;> first
      | exact v
      | (rename_i ws
         exact ⟨v.1, fun x hx => Nv.ux u hs (v.2 x hx)⟩)
      | (rename_i j
         obtain ⟨hj, ws, e, hl, ha⟩ := v
         exact ⟨hj, ws, u.get e fun z => hj (hs j z (lt_of_get e)), hl, fun x hx => Nv.ux u hs (ha x hx)⟩)
theorem Nv.mono {bad bad' : List Nat} {h : Hh} (hs : ∀ i ∈ bad', i ∈ bad) : ∀ {n : Nat} {w : D}, Nv bad h n w → Nv bad' h n w
  | 0, w, v => v
  | n + 1, w, v => by
    cases w <;> first
      | exact v
      | (rename_i ws
         exact ⟨v.1, fun x hx => Nv.mono hs (v.2 x hx)⟩)
      | (rename_i j
         obtain ⟨hj, ws, e, hl, ha⟩ := v
         exact ⟨fun z => hj (hs j z), ws, e, hl, fun x hx => Nv.mono hs (ha x hx)⟩)
theorem Nv.up {bad : List Nat} {h : Hh} : ∀ {n : Nat} {w : D}, Nv bad h n w → Nv bad h (n + 1) w
  | 0, w, v => v.elim
  | n + 1, w, v => by
    cases w <;> first
      | exact v
      | (rename_i ws
         exact ⟨v.1, fun x hx => Nv.up (v.2 x hx)⟩)
      | (rename_i j
         obtain ⟨hj, ws, e, hl, ha⟩ := v
         exact ⟨hj, ws, e, hl, fun x hx => Nv.up (ha x hx)⟩)
theorem Nv.ty {bad : List Nat} {h : Hh} {n : Nat} {w : D} (v : Nv bad h n w) : Ty h w := by
  cases n with
  | zero => exact v.elim
  | succ n =>
    cases w <;> first
      | trivial
      | exact ⟨by have := v.2; omega, v.1⟩
      | exact v.elim
      | (obtain ⟨_, ws, e, _⟩ := v; exact .inl ⟨ws, e⟩)
theorem Nv.tup {bad : List Nat} {h : Hh} {n : Nat} {ws : List D} (v : Nv bad h (n + 1) (.tup ws)) : ws.length ≤ 8 ∧ ∀ x ∈ ws, Nv bad h n x := v
theorem Nv.opV {bad : List Nat} {h : Hh} {n : Nat} {w : D} (v : Nv bad h (n + 2) w) : OpV h w := by
  refine ⟨v.ty, fun ws e => ?_⟩
  subst e
  refine ⟨by have := v.tup.1; omega, fun x hx => ⟨(v.tup.2 x hx).ty, fun us e => ?_⟩⟩
  subst e
  have v2 := v.tup.2 _ hx
  exact ⟨by have := v2.tup.1; omega, fun y hy => by
    cases n with
    | zero => exact (v2.tup.2 y hy).elim
    | succ n => exact (v2.tup.2 y hy).ty⟩
theorem Nv.lim {bad : List Nat} {h : Hh} : ∀ {n : Nat} {w : D}, Nv bad h n w → D.lim h.length w = true
  | 0, w, v => v.elim
  | n + 1, w, v => by
    cases w <;> first
      | rfl
      | exact v.elim
      | (rw [lim_tup]; exact lims_all fun x hx => Nv.lim (v.2 x hx))
      | (obtain ⟨_, ws, e, _⟩ := v; rw [lim_ref]; exact decide_eq_true (lt_of_get e))
theorem Nv.isTl {bad : List Nat} {h : Hh} {n : Nat} {w : D} (v : Nv bad h n w) : w.isTl = false := by
  cases n with
  | zero => exact v.elim
  | succ n => cases w <;> first | rfl | exact v.elim
def Wn : Nat → Nat
  | 0 => 0
  | n + 1 => 8 * (Wn n + 1) + 20
theorem mapO_ex {α β : Type} {f : α → Option β} {P : β → Prop} : ∀ {xs : List α}, (∀ x ∈ xs, ∃ y, f x = some y ∧ P y) → ∃ ys, mapO f xs = some ys ∧ ys.length = xs.length ∧ ∀ y ∈ ys, P y
  | [], _ => ⟨[], rfl, rfl, by simp⟩
  | x :: xs, h => by
    obtain ⟨y, e, p⟩ := h x (by simp)
    obtain ⟨ys, es, el, ps⟩ := mapO_ex fun z hz => h z (List.mem_cons_of_mem _ hz)
    exact ⟨y :: ys, mapO_cons e es, by simp [el], fun z hz => by
      rcases List.mem_cons.mp hz with rfl | hz
      · exact p
      · exact ps z hz⟩
theorem Nv.toP {bad : List Nat} {h : Hh} : ∀ {n m : Nat} {w : D}, Nv bad h n w → n ≤ m → ∃ d, PV.toP h m w = some d ∧ PS n (Wn n) d
  | 0, m, w, v, _ => v.elim
  | n + 1, 0, w, v, hm => by omega
  | n + 1, m + 1, w, v, hm => by
    cases w <;> first
      | exact v.elim
      | exact ⟨_, rfl, ps_none.mono (by omega) (by omega)⟩
      | exact ⟨_, rfl, ps_bool.mono (by omega) (by omega)⟩
      | (obtain ⟨k, rfl, hk⟩ := v
         exact ⟨_, rfl, (ps_nat (i := k) (by omega)).mono (by omega) (by simp only [Wn]; omega)⟩)
      | exact ⟨_, rfl, (ps_str (w := 20) v.1 v.2).mono (by omega) (by simp only [Wn]; omega)⟩
      | (rename_i ws
         obtain ⟨ds, e, el, pd⟩ := mapO_ex (f := PV.toP h m) (P := PS n (Wn n)) fun x hx => Nv.toP (v.2 x hx) (by omega)
         refine ⟨.tuple ds, by rw [toP_tup, e]; rfl, (ps_tuple pd).mono (by omega) ?_⟩
         have := Nat.mul_le_mul_right (Wn n + 1) (show ds.length ≤ 8 by rw [el]; exact v.1)
         simp only [Wn]; omega)
      | (rename_i j
         obtain ⟨_, ws, ej, hl, ha⟩ := v
         obtain ⟨ds, e, el, pd⟩ := mapO_ex (f := PV.toP h m) (P := PS n (Wn n)) fun x hx => Nv.toP (ha x hx) (by omega)
         refine ⟨.list ds, ?_, (ps_list pd).mono (by omega) ?_⟩
         · show (match h[j]? with
             | some (.lst ws) => (mapO (PV.toP h m) ws).map PyData.list
             | _ => none) = _
           rw [ej]
           simp only [e, Option.map_some]
         · have := Nat.mul_le_mul_right (Wn n + 1) (show ds.length ≤ 8 by rw [el]; exact hl)
           simp only [Wn]; omega)
theorem Nv.repr {bad : List Nat} {h : Hh} {n : Nat} {w : D} (v : Nv bad h n w) (hn : n ≤ 5) : ∃ s, reprX w h = .ok (.str s) h := by
  obtain ⟨d, e, p⟩ := v.toP (m := deep) (by unfold deep; omega)
  refine ⟨_, reprX_ok e p.pn (by omega) ?_⟩
  have : Wn n ≤ Wn 5 := by
    match n, hn with
    | 0, _ => decide
    | 1, _ => decide
    | 2, _ => decide
    | 3, _ => decide
    | 4, _ => decide
    | 5, _ => decide
  have : Wn 5 ≤ 600000 := by decide
  omega
theorem repr_dict0 {h : Hh} {j : Nat} (e : h[j]? = some (.dK [])) : ∃ s, reprX (.ref j) h = .ok (.str s) h := by
  have e1 : toP h deep (.ref j) = none := by
    show (match h[j]? with
      | some (.lst ws) => (mapO (toP h 65) ws).map PyData.list
      | _ => none) = _
    rw [e]
  have e2 : toQ h deep (.ref j) = some (.dict []) := by
    unfold deep
    simp only [toQ, e]
    rfl
  refine ⟨(PyData.dict []).shown, ?_⟩
  have c : (PyData.dict []).showable = true ∧ (PyData.dict []).shown.length ≤ sizeLine ∧ (PyData.dict []).depth ≤ 64 := by decide +kernel
  unfold reprX
  rw [e1, e2]
  simp only [c, and_self, if_true]
end PV
end
section
/-! PVP19: slices of tuples; values that a call leaves. -/
namespace PV
open PySem PySem.Spec PyProof.Rows L2
theorem sIx_nat {l d n : Nat} (h : n ≤ l) : HT.sIx l d (some (n : Int)) = n := by
  rw [HT.sIx_nat]
  omega
theorem slT_to {h : Hh} {ws : List D} {n : Nat} (hn : n ≤ ws.length) : slW (.tup ws) none (some (n : Int)) h = .ok (.tup (ws.take n)) h := by
  have e1 : HT.sIx ws.length 0 none = 0 := rfl
  have e2 := sIx_nat (d := ws.length) hn
  simp only [slW, asL, asT, cutD, e1, e2]
  split
  · rename_i hh
    rw [hh.2, List.take_length]
  · simp
theorem slT_from {h : Hh} {ws : List D} {n : Nat} (hn : n ≤ ws.length) : slW (.tup ws) (some (n : Int)) none h = .ok (.tup (ws.drop n)) h := by
  have e1 := sIx_nat (d := 0) hn
  have e2 : HT.sIx ws.length ws.length none = ws.length := rfl
  simp only [slW, asL, asT, cutD, e1, e2]
  split
  · rename_i hh
    rw [hh.1, List.drop_zero]
  · rw [List.take_of_length_le (by simp)]
theorem slT_mid {h : Hh} {ws : List D} {n m : Nat} (hn : n ≤ ws.length) (hm : m ≤ ws.length) : slW (.tup ws) (some (n : Int)) (some (m : Int)) h = .ok (.tup ((ws.drop n).take (m - n))) h := by
  have e1 := sIx_nat (d := 0) hn
  have e2 := sIx_nat (d := ws.length) hm
  simp only [slW, asL, asT, cutD, e1, e2]
  split
  · rename_i hh
    rw [hh.1, hh.2]
    simp
  · rfl
theorem lims_mem {n : Nat} : ∀ {ws : List D} {x : D}, D.lims n ws = true → x ∈ ws → D.lim n x = true
  | y :: ys, x, l, hx => by
    rw [lims_cons, Bool.and_eq_true] at l
    rcases List.mem_cons.mp hx with rfl | hx
    · exact l.1
    · exact lims_mem l.2 hx
theorem nv_noref {n : Nat} {h' h2 : Hh} {bad : List Nat} : ∀ {m : Nat} {w : D}, Nv (List.range n) h' m w → D.lim n w = true → Nv bad h2 m w
  | 0, w, v, _ => v.elim
  | m + 1, w, v, l => by
    cases w <;> first
      | exact v
      | (rename_i ws
         rw [lim_tup] at l
         exact ⟨v.1, fun x hx => nv_noref (v.2 x hx) (lims_mem l hx)⟩)
      | (rename_i j
         rw [lim_ref, decide_eq_true_eq] at l
         exact absurd (List.mem_range.mpr l) v.1)
/-- a value that a call made, kept by the caller -/
theorem gcR_nv {i c m : Nat} {h h' : Hh} {w : D} (u : Ux [i] h h') (s : Sr h' i c) (hi : i < h.length) (v : Nv (List.range h.length) h' m w) :
    ∃ w2 h2, gcR h (.ok w h') = .ok w2 h2 ∧ Ux [i] h (stash w2 h2).2 ∧ Sr (stash w2 h2).2 i c ∧ (∀ bad : List Nat, (∀ b ∈ bad, b < h.length) → Nv bad (stash w2 h2).2 m (stash w2 h2).1) := by
  have ul := u.len
  have ok : gcOk h.length h h' = true := gcOk_of ul fun j d hj e => by
    by_cases hm : j = i
    · subst hm
      obtain ⟨x, e1, e2⟩ := s.cell h.length
      rw [e1] at e; cases e; exact .inr e2
    · exact .inl ((u.same j hj (by simpa using hm)) ▸ e)
  have ut : Ux [i] h (h'.take h.length) := ⟨by rw [List.length_take]; omega, fun j hj hm => by rw [List.getElem?_take_of_lt hj]; exact u.same j hj hm⟩
  have st : Sr (h'.take h.length) i c := s.cut hi
  have sub : ∀ bad : List Nat, (∀ b ∈ bad, b < h.length) → ∀ b ∈ bad, b ∈ List.range h.length := fun bad hb b hm => List.mem_range.mpr (hb b hm)
  have plain : ∃ w2 h2, R.ok w h' = .ok w2 h2 ∧ Ux [i] h (stash w2 h2).2 ∧ Sr (stash w2 h2).2 i c ∧ (∀ bad : List Nat, (∀ b ∈ bad, b < h.length) → Nv bad (stash w2 h2).2 m (stash w2 h2).1) :=
    ⟨w, h', rfl, by rw [stash_of v.isTl]; exact u, by rw [stash_of v.isTl]; exact s, fun bad hb => by rw [stash_of v.isTl]; exact v.mono (sub bad hb)⟩
  show ∃ w2 h2, gc h w h' = .ok w2 h2 ∧ _
  unfold gc
  rw [if_pos ok]
  by_cases hl : w.lim h.length = true
  · rw [if_pos hl]
    exact ⟨w, _, rfl, by rw [stash_of v.isTl]; exact ut, by rw [stash_of v.isTl]; exact st, fun bad hb => by rw [stash_of v.isTl]; exact nv_noref v hl⟩
  · rw [if_neg hl]
    cases m with
    | zero => exact v.elim
    | succ m =>
      cases w <;> first
        | exact plain
        | exact v.elim
        | (rename_i j
           obtain ⟨hj, ws, ej, hll, ha⟩ := v
           simp only [ej]
           by_cases hc : D.lims h.length ws = true ∧ h.length ≤ j
           · rw [if_pos hc]
             refine ⟨.tl ws, _, rfl, ut.trans .app, st.app, fun bad hb => ?_⟩
             have hlt : (h'.take h.length).length = h.length := by rw [List.length_take]; omega
             refine ⟨fun z => ?_, ws, ?_, hll, fun x hx => nv_noref (ha x hx) (lims_mem hc.1 hx)⟩
             · have := hb _ z
               omega
             · rw [hlt]
               show (h'.take h.length ++ [Cl.lst ws])[h.length]? = _
               rw [List.getElem?_append_right (by omega), hlt]
               simp
           · rw [if_neg hc]
             exact plain)
/-- the values of a law: plain ones, and the empty dict -/
def Vg (bad : List Nat) (h : Hh) (w : D) : Prop := Nv bad h 5 w ∨ ∃ j, w = .ref j ∧ j ∉ bad ∧ h[j]? = some (.dK [])
theorem Vg.ux {bad is : List Nat} {h h' : Hh} {w : D} (v : Vg bad h w) (u : Ux is h h') (hs : ∀ i ∈ is, i < h.length → i ∈ bad) : Vg bad h' w := by
  rcases v with v | ⟨j, rfl, hj, e⟩
  · exact .inl (v.ux u hs)
  · exact .inr ⟨j, rfl, hj, u.get e fun z => hj (hs j z (lt_of_get e))⟩
theorem Vg.opV {bad : List Nat} {h : Hh} {w : D} (v : Vg bad h w) : OpV h w := by
  rcases v with v | ⟨j, rfl, hj, e⟩
  · exact v.opV
  · exact ⟨.inr ⟨_, e⟩, fun ws z => by cases z⟩
theorem Vg.repr {bad : List Nat} {h : Hh} {w : D} (v : Vg bad h w) : ∃ s, reprX w h = .ok (.str s) h := by
  rcases v with v | ⟨j, rfl, hj, e⟩
  · exact v.repr (by omega)
  · exact repr_dict0 e
theorem Vg.isTl {bad : List Nat} {h : Hh} {w : D} (v : Vg bad h w) : w.isTl = false := by
  rcases v with v | ⟨j, rfl, hj, e⟩
  · exact v.isTl
  · rfl
theorem reprX_bl {b : Bool} {h : Hh} : reprX (.bl b) h = .ok (.str (PyData.bool b).shown) h := reprX_ok (by rfl) (ps_bool (b := b)).pn (by omega) (by omega)
theorem Opr.nv {o : Opr} (ho : OprOk o) {bad : List Nat} {h : Hh} {n : Nat} : Nv bad h (n + 3) o.enc := by
  refine ⟨by simp, fun x hx => ?_⟩
  simp only [List.mem_cons, List.not_mem_nil, or_false] at hx
  rcases hx with rfl | rfl
  · exact ⟨kinds_ok _ ho.kd, by have := kinds_len _ ho.kd; omega⟩
  · refine ⟨by have := ho.l3; simp; omega, fun x hx => ?_⟩
    obtain ⟨y, hy, rfl⟩ := List.mem_map.mp hx
    exact ⟨pool0_ok y (ho.w0 y hy), by have := pool0_len y (ho.w0 y hy); omega⟩
end PV
end
section
/-! PVP20: loops that may end early, exceptions caught. -/
namespace PV
open PySem PySem.Spec PyProof.Rows L2
def RT.isOut : RT → Bool
  | .ret _ _ => true
  | .exc _ _ _ _ => true
  | _ => false
theorem forL_gen {src : Src} {t : Tg} {b : MS} {ws : List D} (I : Nat → Sg → Hh → Prop) (Q : RT → Prop) (hs : ∀ i σ h, I i σ h → src i h = some ws[i]?)
    (step : ∀ i w σ h, I i σ h → ws[i]? = some w → ∃ σ1, t.set w σ h = some σ1 ∧ ((∃ σ2 h2, (b σ1 h = .nx σ2 h2 ∨ b σ1 h = .cont σ2 h2) ∧ I (i + 1) σ2 h2) ∨ (∃ σ2 h2, b σ1 h = .brk σ2 h2 ∧ Q (.nx σ2 h2)) ∨ ((b σ1 h).isOut = true ∧ Q (b σ1 h))))
    (hI : ∀ σ h, I ws.length σ h → Q (.nx σ h)) : ∀ (n i : Nat) (σ : Sg) (h : Hh), I i σ h → i ≤ ws.length → ws.length < i + n → Q (forL src t b n i σ h)
  | 0, i, σ, h, hi, hle, hl => by omega
  | n + 1, i, σ, h, hi, hle, hl => by
    simp only [forL, hs i σ h hi]
    cases e : ws[i]? with
    | none =>
      have := List.getElem?_eq_none_iff.mp e
      have hi' : i = ws.length := by omega
      subst hi'
      exact hI σ h hi
    | some w =>
      have hlt := lt_of_get e
      obtain ⟨σ1, e1, ⟨σ2, h2, e2, hi2⟩ | ⟨σ2, h2, e2, q⟩ | ⟨o, q⟩⟩ := step i w σ h hi e
      · have r := forL_gen I Q hs step hI n (i + 1) σ2 h2 hi2 (by omega) (by omega)
        rcases e2 with e2 | e2
        · simp only [e1, e2]; exact r
        · simp only [e1, e2]; exact r
      · simp only [e1, e2]; exact q
      · simp only [e1]
        cases hb : b σ1 h with
        | ret w h' => rw [hb] at q; exact q
        | exc c fs σ' h' => rw [hb] at q; exact q
        | nx _ _ => rw [hb] at o; cases o
        | cont _ _ => rw [hb] at o; cases o
        | brk _ _ => rw [hb] at o; cases o
        | bad => rw [hb] at o; cases o
theorem msFor_gen {mi : M Src} {src : Src} {t : Tg} {b : MS} {ws : List D} {σ : Sg} {h h1 : Hh} (I : Nat → Sg → Hh → Prop) (Q : RT → Prop) (hm : mi σ h = .ok src h1) (hs : ∀ i σ h, I i σ h → src i h = some ws[i]?)
    (step : ∀ i w σ h, I i σ h → ws[i]? = some w → ∃ σ1, t.set w σ h = some σ1 ∧ ((∃ σ2 h2, (b σ1 h = .nx σ2 h2 ∨ b σ1 h = .cont σ2 h2) ∧ I (i + 1) σ2 h2) ∨ (∃ σ2 h2, b σ1 h = .brk σ2 h2 ∧ Q (.nx σ2 h2)) ∨ ((b σ1 h).isOut = true ∧ Q (b σ1 h))))
    (hI : ∀ σ h, I ws.length σ h → Q (.nx σ h)) (h0 : I 0 σ h1) (hl : ws.length ≤ 16777216) : Q (msFor mi t b σ h) := by
  unfold msFor
  rw [hm, R.then_ok]
  exact forL_gen I Q hs step hI loopN 0 σ h1 h0 (by omega) (by unfold loopN; omega)
mutual
theorem lim_mono {n m : Nat} (hn : n ≤ m) : ∀ {w : D}, D.lim n w = true → D.lim m w = true
  | .non, _ => rfl
  | .bl _, _ => rfl
  | .int _, _ => rfl
  | .str _, _ => rfl
  | .ty _, _ => rfl
  | .fn _, _ => rfl
  | .cls _, _ => rfl
  | .ref i, h => by simp only [D.lim, decide_eq_true_eq] at h ⊢; omega
  | .tup ws, h => by simp only [D.lim] at h ⊢; exact lims_mono hn h
  | .kt ws, h => by simp only [D.lim] at h ⊢; exact lims_mono hn h
  | .tl ws, h => by simp only [D.lim] at h ⊢; exact lims_mono hn h
  | .fl ws, h => by simp only [D.lim] at h ⊢; exact lims_mono hn h
  | .xc _ _ ws, h => by simp only [D.lim] at h ⊢; exact lims_mono hn h
theorem lims_mono {n m : Nat} (hn : n ≤ m) : ∀ {ws : List D}, D.lims n ws = true → D.lims m ws = true
  | [], _ => rfl
  | w :: ws, h => by
    simp only [D.lims, Bool.and_eq_true] at h ⊢
    exact ⟨lim_mono hn h.1, lims_mono hn h.2⟩
end
/-! ### exceptions -/
@[simp] theorem msTry_ap {b : MS} {hs : List Hdl} {σ : Sg} {h : Hh} : msTry b hs σ h = match b σ h with
  | .exc c fs σ1 h1 => if 100 ≤ c then msHs hs c fs σ1 h1 else .bad
  | r => r := by rfl
@[simp] theorem msHs_nil {c : Nat} {fs : List (Str × D)} {σ : Sg} {h : Hh} : msHs [] c fs σ h = .exc c fs σ h := id rfl
@[simp] theorem msHs_as {L : List Nat} {i : Nat} {ms : MS} {r : List Hdl} {c : Nat} {fs : List (Str × D)} {σ : Sg} {h : Hh} : msHs ((L, some i, ms) :: r) c fs σ h = if L.contains c = true then (ms (σ.set i (some (xcOf c fs))) h).unset i else msHs r c fs σ h := id rfl
@[simp] theorem msHs_no {L : List Nat} {ms : MS} {r : List Hdl} {c : Nat} {fs : List (Str × D)} {σ : Sg} {h : Hh} : msHs ((L, none, ms) :: r) c fs σ h = if L.contains c = true then (ms σ h).noexc else msHs r c fs σ h := id rfl
@[simp] theorem unset_nx {i : Nat} {σ : Sg} {h : Hh} : (RT.nx σ h).unset i = .nx (σ.set i none) h := id rfl
@[simp] theorem unset_ret {i : Nat} {w : D} {h : Hh} : (RT.ret w h).unset i = .ret w h := id rfl
@[simp] theorem noexc_nx {σ : Sg} {h : Hh} : (RT.nx σ h).noexc = .nx σ h := id rfl
@[simp] theorem noexc_ret {w : D} {h : Hh} : (RT.ret w h).noexc = .ret w h := id rfl
@[simp] theorem xcOf_ap {c : Nat} {fs : List (Str × D)} : xcOf c fs = .xc c (fs.map (·.1)) (fs.map (·.2)) := id rfl
@[simp] theorem stash_xc {c : Nat} {ks : List Str} {ws : List D} {h : Hh} : stash (.xc c ks ws) h = (.xc c ks ws, h) := id rfl
@[simp] theorem stash_cls {c : Nat} {h : Hh} : stash (.cls c) h = (.cls c, h) := id rfl
@[simp] theorem stash_ty {c : String} {h : Hh} : stash (.ty c) h = (.ty c, h) := id rfl
@[simp] theorem mAndV_ap {a b : M D} {σ : Sg} {h : Hh} : mAndV a b σ h = (a σ h).bind fun x h1 => match x with
  | .bl true => b σ h1
  | .bl false => .ok (.bl false) h1
  | _ => .bad := id rfl
@[simp] theorem mOrV_ap {a b : M D} {σ : Sg} {h : Hh} : mOrV a b σ h = (a σ h).bind fun x h1 => match x with
  | .bl true => .ok (.bl true) h1
  | .bl false => b σ h1
  | _ => .bad := id rfl
@[simp] theorem lim_xc {n c : Nat} {ks : List Str} {ws : List D} : D.lim n (.xc c ks ws) = D.lims n ws := by simp only [D.lim]
@[simp] theorem msRaise_ap {c : Nat} {ks : List Str} {ma : M (List D)} {σ : Sg} {h : Hh} : msRaise c ks ma σ h = (ma σ h).then σ fun ws h1 => if ws.length = ks.length then .exc c ((ks.zip ws).reverse) σ h1 else .bad := id rfl
@[simp] theorem outR_exc {c : Nat} {fs : List (Str × D)} {σ : Sg} {h : Hh} : outR (.exc c fs σ h) = .exc c fs h := id rfl
@[simp] theorem limK_nil {κ : Type} {n : Nat} : limK (κ := κ) n [] = true := id rfl
@[simp] theorem limK_cons {κ : Type} {n : Nat} {p : κ × D} {ps : List (κ × D)} : limK n (p :: ps) = (D.lim n p.2 && limK n ps) := id rfl
theorem gcR_exc {h h' : Hh} {c : Nat} {fs : List (Str × D)} (a : Ux [] h h') (lim : limK h.length fs = true) : gcR h (.exc c fs h') = .exc c fs h := by
  have e : gcOk h.length h h' = true := gcOk_of a.len fun j c hj e => .inl (by rw [← e]; exact (a.same j hj (by simp)).symm)
  simp only [gcR, gcX, e, lim, and_self, if_true]
  congr 1
  apply List.ext_getElem?
  intro j
  rcases Nat.lt_or_ge j h.length with hj | hj
  · rw [List.getElem?_take_of_lt hj]; exact a.same j hj (by simp)
  · rw [List.getElem?_eq_none hj, List.getElem?_eq_none (by simp; omega)]
@[simp] theorem gcR_exc_app {h e : Hh} {c : Nat} {fs : List (Str × D)} (lim : limK h.length fs = true) : gcR h (.exc c fs (h ++ e)) = .exc c fs h := gcR_exc .app lim
theorem gcR_exc_same {h : Hh} {c : Nat} {fs : List (Str × D)} (lim : limK h.length fs = true) : gcR h (.exc c fs h) = .exc c fs h := gcR_exc ⟨Nat.le_refl _, fun _ _ _ => rfl⟩ lim
@[simp] theorem fldX_xc {f : Str} {c : Nat} {ks : List Str} {ws : List D} {h : Hh} : fldX f (.xc c ks ws) h = if 100 ≤ c then match (ks.zip ws).lookup f with
      | some w => .ok w h
      | none => .bad
    else .bad := id rfl
@[simp] theorem mFldX_ap {f : Str} {m : M D} {σ : Sg} {h : Hh} : mFldX f m σ h = (m σ h).bind (fldX f) := id rfl
theorem inW_refS {h : Hh} {x : Str} {q : Nat} {ss : List Str} (e : h[q]? = some (.lst (ss.map .str))) (hx : PyData.strOk x = true) (hs : ∀ s ∈ ss, PyData.strOk s = true) : inW (.str x) (.ref q) h = .ok (.bl (decide (x ∈ ss))) h := by
  have e1 : toP h deep (.ref q) = some (.list (ss.map .str)) := toP_refS (n := 64) e
  have e2 : toP h deep (.str x) = some (.str x) := rfl
  have e3 : dget h (.ref q) (.str x) = none := by simp [dget, e]
  simp only [inW, inO, e1, e2, e3, shaped_strs hs, shaped_str hx, Bool.and_self, if_true]
  congr 3
  rw [Bool.eq_iff_iff]
  simp only [List.any_map, List.any_eq_true, Function.comp, decide_eq_true_eq, PyData.eqv, beq_iff_eq]
  constructor
  · rintro ⟨s, hs, rfl⟩; exact hs
  · exact fun hm => ⟨x, hm, rfl⟩
theorem addL {h : Hh} {q : Nat} {xs ys : List D} (e : h[q]? = some (.lst xs)) (hl : xs.length + ys.length ≤ 16777216) : addW (.ref q) (.tl ys) h = .ok (.tl (xs ++ ys)) h := by
  simp [addW, asT, asM, e, sz hl]
theorem addStr {h : Hh} {x y : Str} (hl : x.length + y.length ≤ 16777216) : addW (.str x) (.str y) h = .ok (.str (x ++ y)) h := by
  simp [addW, sz hl]
theorem reprX_nat {n : Nat} {h : Hh} (hn : n < 1000000) : reprX (.int n) h = .ok (.str (PyData.int n).shown) h := reprX_ok (by rfl) (ps_nat hn).pn (by omega) (by omega)
theorem reprX_non {h : Hh} : reprX .non h = .ok (.str PyData.none.shown) h := reprX_ok (by rfl) ps_none.pn (by omega) (by omega)
/-- the places where p fails -/
def badsAt {α : Type} (p : α → Bool) : List α → Nat → List Int
  | [], _ => []
  | x :: xs, n => if p x = true then badsAt p xs (n + 1) else (n : Int) :: badsAt p xs (n + 1)
theorem badsAt_find {α : Type} (p : α → Bool) : ∀ (xs : List α) (n : Nat), (badsAt p xs n).head? = (xs.findIdx? fun x => !p x).map fun j => ((n + j : Nat) : Int)
  | [], n => rfl
  | x :: xs, n => by
    simp only [badsAt, List.findIdx?_cons]
    cases hp : p x
    · simp
    · simp only [if_true, Bool.not_true, Bool.false_eq_true, if_false]
      rw [badsAt_find p xs (n + 1), Option.map_map]
      congr 1
      funext j
      simp only [Function.comp]
      congr 1; omega
theorem badsAt_filter {α : Type} (p : α → Bool) (f : α → D) (g : D → Option D) (hg : ∀ n x, g (.tup [.int n, f x]) = if p x = true then none else some (.int n)) : ∀ (xs : List α) (n : Nat), (xs.mapIdx fun i x => D.tup [.int ((n + i : Nat) : Int), f x]).filterMap g = (badsAt p xs n).map D.int
  | [], n => rfl
  | x :: xs, n => by
    have ih := badsAt_filter p f g hg xs (n + 1)
    rw [List.mapIdx_cons, List.filterMap_cons, hg]
    have e : (xs.mapIdx fun i x => D.tup [.int ((n + (i + 1) : Nat) : Int), f x]) = xs.mapIdx fun i x => D.tup [.int ((n + 1 + i : Nat) : Int), f x] := by
      congr 1; funext i x; congr 3; omega
    rw [e, ih]
    simp only [badsAt]
    cases p x <;> simp
theorem sum_leB {b : Nat} {xs : List Str} (h : ∀ x ∈ xs, x.length ≤ b) : (xs.map (·.length)).sum ≤ b * xs.length := by
  induction xs with
  | nil => simp
  | cons x xs ih =>
    have h1 := h x (by simp)
    have h2 := ih fun y hy => h y (by simp [hy])
    simp only [List.map_cons, List.sum_cons, List.length_cons, Nat.mul_succ]
    omega
theorem joinW_refB {h : Hh} {q : Nat} {xs : List Str} (eq : h[q]? = some (.lst (xs.map .str))) (hx : ∀ x ∈ xs, x.length ≤ 100) (hl : xs.length ≤ 100000) : joinW (.str " ") (.ref q) h = .ok (.str (Txt.join " " xs)) h := by
  have h1 := sum_leB hx
  have e : (Str.ofString " ").length = 1 := by decide +kernel
  have h2 : (xs.map (·.length)).sum + xs.length * (Str.ofString " ").length ≤ 16777216 := by rw [e]; omega
  simp only [joinW, asL, eq, mapO_toS, h2, if_true]
theorem join_lenB {xs : List Str} (hx : ∀ x ∈ xs, x.length ≤ 100) : (Txt.join " " xs).length ≤ 101 * xs.length := by
  have h1 := sum_leB hx
  have h2 := StrLaws.join_length_le " " xs
  have e : (Str.ofString " ").length = 1 := by decide +kernel
  rw [TL.join_eq]
  rw [e] at h2
  omega
theorem splitW_joinB {h : Hh} {xs : List Str} (hne : xs ≠ []) (h8 : ∀ x ∈ xs, x.length ≤ 100) (hl : xs.length ≤ 100000) (hx : ∀ x ∈ xs, (32 : Nat) ∉ x.cps.toList) : splitW (.str (Txt.join " " xs)) (.str " ") h = .ok (.tl (xs.map .str)) h := by
  have e := split_join1 hne hx
  have h2 := join_lenB h8
  have h3 : (Txt.join " " xs).length + 2 ≤ sizeLine := sz (by omega)
  have h4 : xs.length ≤ sizeLine := sz (by omega)
  have h5 : ((Str.ofString " ").length == 0) = false := by decide +kernel
  simp only [splitW, e, h3, h4, h5, and_self, if_true]
theorem miEn_ref {m : M D} {σ : Sg} {h h1 : Hh} {q : Nat} {ws : List D} (e : m σ h = .ok (.ref q) h1) (eq : h1[q]? = some (.lst ws)) : miEn m σ h = .ok (srcE (srcL (.ref q))) h1 := by
  simp [miEn, e, srcOf, asT, asL, eq]
theorem mapIdx_enum {ws : List D} : enumD ws = ws.mapIdx fun i w => .tup [.int (i : Nat), w] := rfl
end PV
end
section
/-! PVP21: instances; lists of distinct words; tables. -/
namespace PV
open PySem PySem.Spec PyProof.Rows L2
theorem fldX_at {f : Str} {k c : Nat} {fs : List (Str × D)} {w : D} {h : Hh} (e : h[k]? = some (.ins c fs)) (hc : c < 100) (hl : fs.lookup f = some w) : fldX f (.ref k) h = .ok w h := by
  simp [fldX, fldW, e, hc, hl]
@[simp] theorem mMeth_ap {cl : Cll} {mt : Nat → Option Nat} {m : Str} {mo : M D} {ms : M (List D)} {σ : Sg} {h : Hh} : mMeth cl mt m mo ms σ h = gcR h ((mo σ h).bind fun x h1 => match x with
  | .ref i => match h1[i]? with
    | some (.ins c fs) => match mt c with
      | some f => if c < 100 ∧ fs.lookup m = none then (ms σ h1).bind fun ws h2 => cl f (.ref i :: ws) h2 else .bad
      | none => .bad
    | _ => .bad
  | _ => .bad) := id rfl
@[simp] theorem msFld_ap {f : Str} {mo me : M D} {σ : Sg} {h : Hh} : msFld f mo me σ h = (mSt me σ h).then σ fun w h1 => (mo σ h1).then σ fun x h2 => match setFW f x w h2 with
  | some h3 => .nx σ h3
  | none => .bad := id rfl
theorem setFW_at {f : Str} {k c : Nat} {fs : List (Str × D)} {w : D} {h : Hh} (e : h[k]? = some (.ins c fs)) (hc : c < 100) (hl : fs.length < 1000) (nt : w.isTl = false) : setFW f (.ref k) w h = some (h.set k (.ins c (putFD f w fs))) := by
  simp [setFW, e, hc, hl, nt]
theorem addS_new {acc : List Str} {x : Str} (h : x ∉ acc) : addS acc x = acc ++ [x] := by simp [addS, h]
theorem uniqS_nodup {xs : List Str} (h : xs.Nodup) : uniqS xs = xs := by
  have key : ∀ (ys acc : List Str), (acc ++ ys).Nodup → ys.foldl addS acc = acc ++ ys := by
    intro ys
    induction ys with
    | nil => intro acc _; simp
    | cons y ys ih =>
      intro acc hn
      have hy : y ∉ acc := fun z => by
        rw [List.nodup_append] at hn
        exact hn.2.2 y z y (by simp) rfl
      rw [List.foldl_cons, addS_new hy, ih _ (by rw [List.append_assoc]; exact hn), List.append_assoc]
      rfl
  have := key xs [] (by simpa using h)
  simpa [uniqS] using this
theorem lenW_dK {h : Hh} {i : Nat} {kvs : List (Key × D)} (e : h[i]? = some (.dK kvs)) : lenW (.ref i) h = .ok (.int kvs.length) h := by simp [lenW, asL, asT, e]
theorem wcell_len {xs : List Str} (h : xs.Nodup) : (wcell xs).length = xs.length := by unfold wcell; rw [uniqS_nodup h]; simp
end PV
end
section
/-! PVP22: entries of a table, tables in the heap. -/
namespace PV
open PySem PySem.Spec PyProof.Rows L2
section
variable {κ : Type} [DecidableEq κ]
theorem getK_put {kvs : List (κ × D)} {k j : κ} {w : D} : getK (putD kvs k w) j = if j = k then some w else getK kvs j := by
  unfold getK putD
  by_cases hk : kvs.any (fun kv => decide (kv.1 = k)) = true
  · rw [if_pos hk]
    induction kvs with
    | nil => simp at hk
    | cons p kvs ih =>
      simp only [List.map_cons, List.find?_cons]
      by_cases hp : p.1 = k
      · simp only [hp, if_true]
        by_cases hj : j = k
        · subst hj; simp
        · have h1 : decide (k = j) = false := by simpa using fun z => hj z.symm
          simp only [h1, hj, if_false]
          clear ih hk
          induction kvs with
          | nil => rfl
          | cons q kvs ih2 =>
            simp only [List.map_cons, List.find?_cons]
            by_cases hq : q.1 = k
            · simp only [hq, if_true, h1]; exact ih2
            · simp only [hq, if_false]
              cases hh : decide (q.1 = j)
              · exact ih2
              · rfl
      · have h0 : kvs.any (fun kv => decide (kv.1 = k)) = true := by
          simp only [List.any_cons, decide_eq_false hp, Bool.false_or] at hk
          exact hk
        have ih' := ih h0
        simp only [hp, if_false]
        by_cases hpj : p.1 = j
        · have hjk : j ≠ k := fun z => hp (hpj.trans z)
          simp [hpj, hjk]
        · simp only [decide_eq_false hpj]
          exact ih'
  · rw [if_neg hk]
    have hk' : ∀ kv ∈ kvs, kv.1 ≠ k := fun kv hm z => hk (List.any_eq_true.mpr ⟨kv, hm, by simp [z]⟩)
    rw [List.find?_append]
    by_cases hj : j = k
    · subst hj
      have : kvs.find? (fun kv => decide (kv.1 = j)) = none := List.find?_eq_none.mpr fun kv hm => by simp [hk' kv hm]
      simp [this]
    · have : decide (k = j) = false := by simpa using fun z => hj z.symm
      simp [List.find?_cons, this, hj]
theorem getK_putAll {α : Type} {f : α → κ} {v : D} : ∀ {ps : List α} {acc : List (κ × D)} {j : κ}, getK (putAll acc (ps.map fun q => (f q, v))) j = if j ∈ ps.map f then some v else getK acc j
  | [], acc, j => by simp [putAll]
  | p :: ps, acc, j => by
    have ih := getK_putAll (f := f) (v := v) (ps := ps) (acc := putD acc (f p) v) (j := j)
    show getK (putAll (putD acc (f p) v) (ps.map fun q => (f q, v))) j = _
    rw [ih, getK_put]
    by_cases h1 : j ∈ ps.map f
    · simp [h1]
    · by_cases h2 : j = f p
      · simp [h2]
      · simp [h1, h2]
end
/-- an entry -/
structure Ent where
  s : Int
  o : Int
  e : Str
def Ent.enc (x : Ent) : D := .tup [.int x.s, .int x.o, .str x.e]
def kOf (s o : Int) : List Key := [.inl s, .inl o]
theorem kOf_inj {s o s' o' : Int} : kOf s o = kOf s' o' ↔ s = s' ∧ o = o' := by simp [kOf]
structure EntsOk (ops : List Opr) (es : List Ent) : Prop where
  mem : ∀ x ∈ es, (x.s, x.o) ∈ pairL ops
  val : ∀ x ∈ es, x.e = "reduce" ∨ x.e = "shift"
  asc : es.Pairwise fun x y => HT.lexLt [x.s, x.o] [y.s, y.o] = true
/-- the entry of a pair -/
def entF (es : List Ent) (s o : Int) : Str := match es.find? fun x => decide (x.s = s ∧ x.o = o) with
  | some x => x.e
  | none => "error"
theorem pairL_nat {ops : List Opr} {q : Int × Int} (h : q ∈ pairL ops) : 0 ≤ q.1 ∧ 0 ≤ q.2 ∧ q.1 < ops.length ∧ q.2 < ops.length := by
  unfold pairL at h
  obtain ⟨s, hs, h⟩ := List.mem_flatMap.mp h
  obtain ⟨o, ho, rfl⟩ := List.mem_map.mp h
  obtain ⟨n, rfl, _, e, _⟩ := idxs_mem hs
  obtain ⟨m, rfl, _, e2, _⟩ := idxs_mem ho
  have := lt_of_get e
  have := lt_of_get e2
  refine ⟨by omega, by omega, by omega, by omega⟩
def tf1 (od : D) : List (Str × D) := [(("operators" : Str), od)]
def tf2 (od ed : D) : List (Str × D) := [(("operators" : Str), od), ("entries", ed)]
def tf3 (od ed : D) (j : Nat) : List (Str × D) := [(("operators" : Str), od), ("entries", ed), ("entry_by_pair", .ref j)]
theorem tf_1 {od : D} : putFD "operators" od [] = tf1 od := rfl
theorem tf_2 {od ed : D} : putFD "entries" ed (tf1 od) = tf2 od ed := by
  have : ¬ (("operators" : Str) = "entries") := by decide +kernel
  simp [tf1, tf2, putFD, this]
theorem tf_3 {od ed : D} {j : Nat} : putFD "entry_by_pair" (.ref j) (tf2 od ed) = tf3 od ed j := by
  have h1 : ¬ (("operators" : Str) = "entry_by_pair") := by decide +kernel
  have h2 : ¬ (("entries" : Str) = "entry_by_pair") := by decide +kernel
  simp [tf2, tf3, putFD, h1, h2]
theorem tf_o {od ed : D} {j : Nat} : (tf3 od ed j).lookup ("operators" : Str) = some od := by
  have h1 : (("operators" : Str) == "operators") = true := by decide +kernel
  simp [tf3, List.lookup]
theorem tf_e {od ed : D} {j : Nat} : (tf3 od ed j).lookup ("entries" : Str) = some ed := by
  have h1 : (("entries" : Str) == "operators") = false := by decide +kernel
  simp [tf3, List.lookup, h1]
theorem tf_p {od ed : D} {j : Nat} : (tf3 od ed j).lookup ("entry_by_pair" : Str) = some (.ref j) := by
  have h1 : (("entry_by_pair" : Str) == "operators") = false := by decide +kernel
  have h2 : (("entry_by_pair" : Str) == "entries") = false := by decide +kernel
  simp [tf3, List.lookup, h1, h2]
theorem tf_m {od ed : D} {j : Nat} : (tf3 od ed j).lookup ("entry" : Str) = none := by
  have h1 : (("entry" : Str) == "operators") = false := by decide +kernel
  have h2 : (("entry" : Str) == "entries") = false := by decide +kernel
  have h3 : (("entry" : Str) == "entry_by_pair") = false := by decide +kernel
  simp [tf3, List.lookup, h1, h2, h3]
/-- the table at k of the heap: where its dict stands -/
structure TabAt (h : Hh) (k : Nat) (ops : List Opr) (es : List Ent) (j : Nat) (kvs : List (List Key × D)) : Prop where
  at_ : h[k]? = some (.ins 0 (tf3 (.tup (ops.map Opr.enc)) (.tup (es.map Ent.enc)) j))
  dic : h[j]? = some (.dT kvs)
  get : ∀ s o, getK kvs (kOf s o) = if (s, o) ∈ pairL ops then some (.str (entF es s o)) else none
theorem TabAt.ux {is : List Nat} {h h' : Hh} {k j : Nat} {ops : List Opr} {es : List Ent} {kvs : List (List Key × D)} (t : TabAt h k ops es j kvs) (u : Ux is h h') (hk : k ∉ is) (hj : j ∉ is) : TabAt h' k ops es j kvs := ⟨u.get t.at_ hk, u.get t.dic hj, t.get⟩
theorem dget_T {h : Hh} {j : Nat} {kvs : List (List Key × D)} {s o : Int} (e : h[j]? = some (.dT kvs)) : dget h (.ref j) (.tup [.int s, .int o]) = some (getK kvs (kOf s o)) := by
  simp [dget, e, mapO, toK, kOf]
theorem inW_T {h : Hh} {j : Nat} {kvs : List (List Key × D)} {s o : Int} (e : h[j]? = some (.dT kvs)) : inW (.tup [.int s, .int o]) (.ref j) h = .ok (.bl (getK kvs (kOf s o)).isSome) h := by
  simp [inW, inO, dget_T e]
theorem niW_T {h : Hh} {j : Nat} {kvs : List (List Key × D)} {s o : Int} (e : h[j]? = some (.dT kvs)) : niW (.tup [.int s, .int o]) (.ref j) h = .ok (.bl (!(getK kvs (kOf s o)).isSome)) h := by
  simp [niW, inO, dget_T e]
theorem ixW_T {h : Hh} {j : Nat} {kvs : List (List Key × D)} {s o : Int} {w : D} (e : h[j]? = some (.dT kvs)) (eg : getK kvs (kOf s o) = some w) : ixW (.ref j) (.tup [.int s, .int o]) h = .ok w h := by
  simp [ixW, asL, asT, e, dget_T e, eg]
theorem slT_tail {h : Hh} {ws : List D} : slW (.tup ws) (some 1) none h = .ok (.tup ws.tail) h := by
  cases ws with
  | nil => rfl
  | cons w ws => exact slT_1
theorem ltW_2 {h : Hh} {a b c d : Int} : ltW (.tup [.int a, .int b]) (.tup [.int c, .int d]) h = .ok (.bl (HT.lexLt [a, b] [c, d])) h := by
  simp [ltW, asT, mapO, toI]
theorem srcZ_at {h : Hh} {s t : Src} {ws us : List D} (hs : ∀ j, s j h = some ws[j]?) (ht : ∀ j, t j h = some us[j]?) (j : Nat) : srcZ s t j h = some ((ws.zip us).map fun q => D.tup [q.1, q.2])[j]? := by
  simp only [srcZ, hs, ht, List.getElem?_map, List.getElem?_zip_eq_some]
  cases h1 : ws[j]? with
  | none =>
    have : (ws.zip us)[j]? = none := by rw [List.getElem?_eq_none_iff] at h1 ⊢; rw [List.length_zip]; omega
    simp [this]
  | some w =>
    cases h2 : us[j]? with
    | none =>
      have : (ws.zip us)[j]? = none := by rw [List.getElem?_eq_none_iff] at h2 ⊢; rw [List.length_zip]; omega
      simp [this]
    | some u =>
      have : (ws.zip us)[j]? = some (w, u) := List.getElem?_zip_eq_some.mpr ⟨h1, h2⟩
      simp [this]
end PV
end
section
/-! PVP23: parts of trees; whether a tree fits. -/
namespace PV
open PySem PySem.Spec PyProof.Rows L2
/-- for x in ws: if not g x: return v -/
theorem msFor_all {mi : M Src} {src : Src} {n : Nat} {b : MS} {ws : List D} {σ : Sg} {h h1 : Hh} (g : D → Bool) {v : D} (hm : mi σ h = .ok src h1) (hs : ∀ i, src i h1 = some ws[i]?) (hl : ws.length ≤ 16777216)
    (step : ∀ w ∈ ws, (Tg.nm n).set w σ h1 = some (σ.set n (some w)) ∧ (∀ a, (Tg.nm n).set w (σ.set n (some a)) h1 = some (σ.set n (some w))) ∧ b (σ.set n (some w)) h1 = if g w = true then .nx (σ.set n (some w)) h1 else .ret v h1) :
    ∃ σ', (σ' = σ ∨ ∃ w ∈ ws, σ' = σ.set n (some w)) ∧ msFor mi (.nm n) b σ h = if ws.all g = true then .nx σ' h1 else .ret v h1 := by
  have key := msFor_gen (mi := mi) (src := src) (t := .nm n) (b := b) (ws := ws) (σ := σ) (h := h) (h1 := h1)
    (fun i σ' h' => (σ' = σ ∨ ∃ w ∈ ws, σ' = σ.set n (some w)) ∧ h' = h1 ∧ (ws.take i).all g = true)
    (fun r => (ws.all g = false ∧ r = .ret v h1) ∨ (ws.all g = true ∧ ∃ σ', (σ' = σ ∨ ∃ w ∈ ws, σ' = σ.set n (some w)) ∧ r = .nx σ' h1))
    hm (by rintro i σ' h' ⟨_, rfl, _⟩; exact hs i)
    (by
      rintro i w σ' h' ⟨hσ, rfl, ha⟩ ej
      have hw := List.mem_of_getElem? ej
      obtain ⟨s1, s2, sb⟩ := step w hw
      refine ⟨σ.set n (some w), ?_, ?_⟩
      · rcases hσ with rfl | ⟨a, _, rfl⟩
        · exact s1
        · exact s2 a
      · cases hg : g w with
        | true =>
          rw [hg, if_pos rfl] at sb
          refine .inl ⟨_, _, .inl sb, .inr ⟨w, hw, rfl⟩, rfl, ?_⟩
          rw [List.take_succ, ej, List.all_append, ha]
          simp [hg]
        | false =>
          rw [hg, if_neg (by simp)] at sb
          refine .inr (.inr ⟨by rw [sb]; rfl, .inl ⟨?_, sb⟩⟩)
          cases he : ws.all g with
          | false => rfl
          | true => rw [List.all_eq_true.mp he w hw] at hg; cases hg)
    (by
      rintro σ' h' ⟨hσ, rfl, ha⟩
      rw [List.take_length] at ha
      exact .inr ⟨ha, σ', hσ, rfl⟩)
    ⟨.inl rfl, rfl, by simp⟩ hl
  rcases key with ⟨ha, e⟩ | ⟨ha, σ', hσ, e⟩
  · exact ⟨σ, .inl rfl, by rw [ha, if_neg (by simp)]; exact e⟩
  · exact ⟨σ', hσ, by rw [ha, if_pos rfl]; exact e⟩
/-- the nodes on a side -/
def spTs (ops : List Opr) (side : Bool) : Nat → Tr → List Tr
  | 0, _ => []
  | f + 1, t => match nxt ops side t with
    | some (_, t') => t :: spTs ops side f t'
    | none => []
theorem spTs_none {ops : List Opr} {side : Bool} {f : Nat} {t : Tr} (h : nxt ops side t = none) : spTs ops side f t = [] := by
  cases f with
  | zero => rfl
  | succ f => simp only [spTs, h]
theorem spTs_some {ops : List Opr} {side : Bool} {f c : Nat} {t t' : Tr} (h : nxt ops side t = some (c, t')) : spTs ops side (f + 1) t = t :: spTs ops side f t' := by simp only [spTs, h]
theorem spTs_fuel {ops : List Opr} {side : Bool} : ∀ {f g : Nat} {t : Tr}, t.depth ≤ f → t.depth ≤ g → spTs ops side f t = spTs ops side g t := by
  intro f
  induction f with
  | zero =>
    intro g t hf hg
    cases e : nxt ops side t with
    | none => rw [spTs_none e, spTs_none e]
    | some q => obtain ⟨c, t'⟩ := q; have := nxt_depth e; omega
  | succ f ih =>
    intro g t hf hg
    cases e : nxt ops side t with
    | none => rw [spTs_none e, spTs_none e]
    | some q =>
      obtain ⟨c, t'⟩ := q
      have := nxt_depth e
      cases g with
      | zero => omega
      | succ g => rw [spTs_some e, spTs_some e, ih (g := g) (by omega) (by omega)]
theorem spTs_len {ops : List Opr} {side : Bool} : ∀ {f : Nat} {t : Tr}, (spTs ops side f t).length ≤ f
  | 0, t => by simp [spTs]
  | f + 1, t => by
    cases e : nxt ops side t with
    | none => rw [spTs_none e]; simp
    | some q =>
      obtain ⟨c, t'⟩ := q
      rw [spTs_some e]
      have := spTs_len (ops := ops) (side := side) (f := f) (t := t')
      simp; omega
theorem spTs_mem {ops : List Opr} {side : Bool} {p : Str → Prop} : ∀ {f : Nat} {t x : Tr}, t.ok ops p → x ∈ spTs ops side f t → x.ok ops p ∧ ∃ n ts o, x = .nd n ts ∧ ops[n]? = some o ∧ (if side then o.L else o.Rr) = true
  | 0, t, x, ok, h => by simp [spTs] at h
  | f + 1, t, x, ok, h => by
    cases e : nxt ops side t with
    | none => rw [spTs_none e] at h; cases h
    | some q =>
      obtain ⟨c, t'⟩ := q
      rw [spTs_some e] at h
      rcases List.mem_cons.mp h with h | h
      · subst h
        obtain ⟨n, ts, o, h1, h2, h3, _⟩ := nxt_some e
        exact ⟨ok, n, ts, o, h1, h2, h3⟩
      · exact spTs_mem (nxt_ok e ok) h
def Tr.num : Tr → Nat
  | .nd n _ => n
  | _ => 0
def kid : Tr → Int → Option Tr
  | .leaf _, _ => none
  | .grp t, c => if c = 0 then some t else none
  | .nd _ ts, c => if 0 ≤ c then ts[c.toNat]? else none
def sub : Tr → List Int → Option Tr
  | t, [] => some t
  | t, c :: pl => (kid t c).bind fun t' => sub t' pl
theorem sub_snoc {c : Int} : ∀ {pl : List Int} {t : Tr}, sub t (pl ++ [c]) = (sub t pl).bind fun t' => kid t' c
  | [], t => by
    simp only [List.nil_append, sub, Option.bind_some]
    cases kid t c <;> rfl
  | b :: pl, t => by
    simp only [List.cons_append, sub]
    cases kid t b with
    | none => rfl
    | some t' => simp only [Option.bind_some]; exact sub_snoc
theorem kid_enc {t t' : Tr} {c : Int} (h : kid t c = some t') : ∃ (n : Nat) (ws : List D), c = n ∧ t.isLeaf = false ∧ t.enc = .tup ws ∧ n + 1 < ws.length ∧ ws[n + 1]? = some t'.enc := by
  cases t with
  | leaf s => cases h
  | grp t =>
    simp only [kid] at h
    split at h
    · rename_i hc
      cases h
      exact ⟨0, [.str "(", t'.enc], by rw [hc]; rfl, rfl, by simp [Tr.enc], by simp, rfl⟩
    · cases h
  | nd n ts =>
    simp only [kid] at h
    split at h
    · rename_i hc
      have := lt_of_get h
      refine ⟨c.toNat, .int n :: Tr.encs ts, by omega, rfl, by simp [Tr.enc], by simp [encs_len]; omega, ?_⟩
      rw [encs_map]
      simp [h]
    · cases h
theorem kid_nxt {ops : List Opr} {side : Bool} {t t' : Tr} {c : Nat} (h : nxt ops side t = some (c, t')) : kid t c = some t' := by
  obtain ⟨n, ts, o, rfl, _, _, _, e⟩ := nxt_some h
  simp [kid, e]
theorem spine_pre {ops : List Opr} {side : Bool} {a : List Int} : ∀ {f : Nat} {t : Tr} {pl : List Int}, spine ops side f t (a ++ pl) = (spine ops side f t pl).map (a ++ ·)
  | 0, t, pl => rfl
  | f + 1, t, pl => by
    cases e : nxt ops side t with
    | none => rw [spine_none e, spine_none e]; rfl
    | some q =>
      obtain ⟨c, t'⟩ := q
      rw [spine_some e, spine_some e, List.append_assoc, spine_pre]
      rfl
theorem spine_sub {ops : List Opr} {side : Bool} : ∀ {f : Nat} {t : Tr}, (spine ops side f t []).map (sub t) = (spTs ops side f t).map some
  | 0, t => rfl
  | f + 1, t => by
    cases e : nxt ops side t with
    | none => rw [spine_none e, spTs_none e]; rfl
    | some q =>
      obtain ⟨c, t'⟩ := q
      rw [spine_some e, spTs_some e]
      have h1 : spine ops side f t' ([] ++ [(c : Int)]) = (spine ops side f t' []).map ([(c : Int)] ++ ·) := spine_pre (a := [(c : Int)]) (pl := [])
      rw [h1, List.map_cons, List.map_cons, List.map_map, ← spine_sub (f := f) (t := t')]
      congr 1
      refine List.map_congr_left fun pl _ => ?_
      simp only [Function.comp, List.singleton_append, sub, kid_nxt e, Option.bind_some]
theorem spine_sub_mem {ops : List Opr} {side : Bool} {f : Nat} {t : Tr} {pl : List Int} (h : pl ∈ spine ops side f t []) : ∃ x ∈ spTs ops side f t, sub t pl = some x := by
  have : sub t pl ∈ (spine ops side f t []).map (sub t) := List.mem_map_of_mem h
  rw [spine_sub] at this
  obtain ⟨x, hx, e⟩ := List.mem_map.mp this
  exact ⟨x, hx, e.symm⟩
/-- whether the entries with the facing nodes let a node stand -/
def nodeFits (ops : List Opr) (ent : Int → Int → Str) (t : Tr) : Bool :=
  (match nxt ops false t with
    | some (_, r) => (spTs ops true r.depth r).all fun x => decide (ent t.num x.num = "shift")
    | none => true) &&
  (match nxt ops true t with
    | some (_, l) => (spTs ops false l.depth l).all fun x => decide (ent x.num t.num = "reduce")
    | none => true)
mutual
def fitsT (ops : List Opr) (ent : Int → Int → Str) : Tr → Bool
  | .leaf _ => true
  | .grp t => fitsT ops ent t
  | .nd n ts => nodeFits ops ent (.nd n ts) && fitsTs ops ent ts
def fitsTs (ops : List Opr) (ent : Int → Int → Str) : List Tr → Bool
  | [] => true
  | t :: ts => fitsT ops ent t && fitsTs ops ent ts
end
theorem fitsTs_all {ops : List Opr} {ent : Int → Int → Str} : ∀ {ts : List Tr}, fitsTs ops ent ts = ts.all (fitsT ops ent)
  | [] => rfl
  | t :: ts => by simp only [fitsTs, List.all_cons, fitsTs_all]
mutual
/-- a group around every operand of a node -/
def grpd : Tr → Tr
  | .leaf s => .leaf s
  | .grp t => .grp (grpd t)
  | .nd n ts => .nd n (grpds ts)
def grpds : List Tr → List Tr
  | [] => []
  | t :: ts => .grp (grpd t) :: grpds ts
end
theorem grpds_map : ∀ {ts : List Tr}, grpds ts = ts.map fun t => .grp (grpd t)
  | [] => rfl
  | t :: ts => by simp only [grpds, List.map_cons, grpds_map]
theorem nodeFits_grp {ops : List Opr} {ent : Int → Int → Str} {n : Nat} {ts : List Tr} (h : ∀ t ∈ ts, ∃ u, t = .grp u) : nodeFits ops ent (.nd n ts) = true := by
  have key : ∀ side side' c t', nxt ops side (.nd n ts) = some (c, t') → spTs ops side' t'.depth t' = [] := fun side side' c t' e => by
    obtain ⟨n', ts', o, h1, _, _, _, h2⟩ := nxt_some e
    cases h1
    obtain ⟨u, rfl⟩ := h t' (List.mem_of_getElem? h2)
    exact spTs_none rfl
  unfold nodeFits
  cases e1 : nxt ops false (.nd n ts) with
  | none =>
    cases e2 : nxt ops true (.nd n ts) with
    | none => rfl
    | some q => simp [key true false q.1 q.2 e2]
  | some q =>
    cases e2 : nxt ops true (.nd n ts) with
    | none => simp [key false true q.1 q.2 e1]
    | some q2 => simp [key true false q2.1 q2.2 e2, key false true q.1 q.2 e1]
mutual
theorem fits_grpd {ops : List Opr} {ent : Int → Int → Str} : ∀ {t : Tr}, fitsT ops ent (grpd t) = true
  | .leaf s => by simp [grpd, fitsT]
  | .grp t => by simp only [grpd, fitsT]; exact fits_grpd
  | .nd n ts => by
    simp only [grpd, fitsT]
    rw [nodeFits_grp (fun t ht => by rw [grpds_map] at ht; obtain ⟨u, _, e⟩ := List.mem_map.mp ht; exact ⟨_, e.symm⟩), fits_grpds]
    rfl
theorem fits_grpds {ops : List Opr} {ent : Int → Int → Str} : ∀ {ts : List Tr}, fitsTs ops ent (grpds ts) = true
  | [] => rfl
  | t :: ts => by simp only [grpds, fitsTs, fitsT]; rw [fits_grpd, fits_grpds]; rfl
end
mutual
theorem ok_grpd {ops : List Opr} {p : Str → Prop} : ∀ {t : Tr}, t.ok ops p → (grpd t).ok ops p
  | .leaf s, h => h
  | .grp t, h => by simp only [grpd, Tr.ok] at h ⊢; exact ok_grpd h
  | .nd n ts, h => by
    simp only [grpd, Tr.ok] at h ⊢
    refine ⟨?_, oks_grpds h.2⟩
    obtain ⟨o, e, hl⟩ := h.1
    exact ⟨o, e, by rw [grpds_map]; simpa using hl⟩
theorem oks_grpds {ops : List Opr} {p : Str → Prop} : ∀ {ts : List Tr}, Tr.oks ops p ts → Tr.oks ops p (grpds ts)
  | [], _ => trivial
  | t :: ts, h => by simp only [grpds, Tr.oks, Tr.ok] at h ⊢; exact ⟨ok_grpd h.1, oks_grpds h.2⟩
end
mutual
theorem depth_grpd : ∀ {t : Tr}, (grpd t).depth ≤ 2 * t.depth
  | .leaf s => by simp [grpd, Tr.depth]
  | .grp t => by simp only [grpd, Tr.depth]; have := depth_grpd (t := t); omega
  | .nd n ts => by simp only [grpd, Tr.depth]; have := depths_grpds (ts := ts); omega
theorem depths_grpds : ∀ {ts : List Tr}, Tr.depths (grpds ts) ≤ 2 * Tr.depths ts + 1
  | [] => by simp [grpds, Tr.depths]
  | t :: ts => by simp only [grpds, Tr.depths, Tr.depth]; have := depth_grpd (t := t); have := depths_grpds (ts := ts); omega
end
theorem idxs_mem' {p : Opr → Bool} {ops : List Opr} {n : Nat} {o : Opr} (e : ops[n]? = some o) (h : p o = true) : (n : Int) ∈ idxs p ops := by
  unfold idxs
  refine List.mem_filterMap.mpr ⟨(o, n), ?_, by simp [h]⟩
  rw [List.mem_zipIdx_iff_getElem?]
  exact e
theorem pairL_mem {ops : List Opr} {n m : Nat} {o o' : Opr} (e : ops[n]? = some o) (h : o.Rr = true) (e' : ops[m]? = some o') (h' : o'.L = true) : ((n : Int), (m : Int)) ∈ pairL ops := by
  unfold pairL
  exact List.mem_flatMap.mpr ⟨n, idxs_mem' e h, List.mem_map.mpr ⟨m, idxs_mem' e' h', rfl⟩⟩
end PV
end
section
/-! PVP24: entries in the order of the pairs; a dict of entries. -/
namespace PV
open PySem PySem.Spec PyProof.Rows L2
theorem idxs_asc {p : Opr → Bool} {ops : List Opr} : (idxs p ops).Pairwise (· < ·) := by
  have key : ∀ (l : List Opr) (k : Nat), ((l.zipIdx k).filterMap fun q => if p q.1 = true then some (q.2 : Int) else none).Pairwise (· < ·) ∧ ∀ x ∈ ((l.zipIdx k).filterMap fun q => if p q.1 = true then some (q.2 : Int) else none), (k : Int) ≤ x := by
    intro l
    induction l with
    | nil => intro k; simp
    | cons a l ih =>
      intro k
      obtain ⟨h1, h2⟩ := ih (k + 1)
      rw [List.zipIdx_cons]
      by_cases hp : p a = true
      · simp only [List.filterMap_cons, hp, if_true]
        refine ⟨List.pairwise_cons.mpr ⟨fun x hx => ?_, h1⟩, fun x hx => ?_⟩
        · have := h2 x hx; omega
        · rcases List.mem_cons.mp hx with rfl | hx
          · omega
          · have := h2 x hx; omega
      · simp only [List.filterMap_cons, hp]
        exact ⟨h1, fun x hx => by have := h2 x hx; omega⟩
  exact (key ops 0).1
theorem lex2 {a b c d : Int} : HT.lexLt [a, b] [c, d] = true ↔ a < c ∨ (a = c ∧ b < d) := by
  simp only [HT.lexLt]
  by_cases h : a = c
  · subst h
    simp
    omega
  · simp [h]
theorem pairL_asc {ops : List Opr} : (pairL ops).Pairwise fun q r => HT.lexLt [q.1, q.2] [r.1, r.2] = true := by
  unfold pairL
  have key : ∀ l : List Int, l.Pairwise (· < ·) → (l.flatMap fun s => (idxs Opr.L ops).map fun o => (s, o)).Pairwise fun q r => HT.lexLt [q.1, q.2] [r.1, r.2] = true := by
    intro l
    induction l with
    | nil => intro _; simp
    | cons a l ih =>
      intro h
      obtain ⟨h1, h2⟩ := List.pairwise_cons.mp h
      rw [List.flatMap_cons]
      refine List.pairwise_append.mpr ⟨?_, ih h2, fun q hq r hr => ?_⟩
      · rw [List.pairwise_map]
        exact idxs_asc.imp fun hxy => lex2.mpr (.inr ⟨rfl, hxy⟩)
      · obtain ⟨o, _, rfl⟩ := List.mem_map.mp hq
        obtain ⟨s, hs, hr⟩ := List.mem_flatMap.mp hr
        obtain ⟨o', _, rfl⟩ := List.mem_map.mp hr
        exact lex2.mpr (.inl (h1 s hs))
  exact key _ idxs_asc
def Ent.key (x : Ent) : Int × Int := (x.s, x.o)
theorem ents_of {ops : List Opr} {es : List Ent} (hs : (es.map Ent.key).Sublist (pairL ops)) (hv : ∀ x ∈ es, x.e = "reduce" ∨ x.e = "shift") : EntsOk ops es := by
  refine ⟨fun x hx => hs.mem (List.mem_map_of_mem (f := Ent.key) hx), hv, ?_⟩
  have := pairL_asc.sublist hs
  rw [List.pairwise_map] at this
  exact this
theorem lexLt_irr {a b : Int} : HT.lexLt [a, b] [a, b] = false := by simp [HT.lexLt]
theorem entF_snoc {es : List Ent} {x : Ent} {s o : Int} (h : ∀ y ∈ es, ¬ (y.s = x.s ∧ y.o = x.o)) : entF (es ++ [x]) s o = if s = x.s ∧ o = x.o then x.e else entF es s o := by
  unfold entF
  rw [List.find?_append]
  by_cases hx : s = x.s ∧ o = x.o
  · have : es.find? (fun y => decide (y.s = s ∧ y.o = o)) = none := List.find?_eq_none.mpr fun y hy => by
      rw [hx.1, hx.2]; simpa using h y hy
    rw [this, if_pos hx]
    simp [hx.1, hx.2]
  · rw [if_neg hx]
    have h2 : decide (x.s = s ∧ x.o = o) = false := by
      rw [decide_eq_false_iff_not]
      exact fun z => hx ⟨z.1.symm, z.2.symm⟩
    cases hf : es.find? (fun y => decide (y.s = s ∧ y.o = o)) with
    | some y => simp
    | none =>
      simp only [Option.none_or, List.find?_cons, h2, List.find?_nil]
/-- dict(((row[:2], row[2]) for row in entries)) -/
def ecell (es : List Ent) : List (List Key × D) := mergeTD [] (es.map fun x => (kOf x.s x.o, .str x.e))
theorem ecell_get {es : List Ent} (asc : es.Pairwise fun x y => HT.lexLt [x.s, x.o] [y.s, y.o] = true) {s o : Int} : (getK (ecell es) (kOf s o)).getD (.str "error") = .str (entF es s o) := by
  have key : ∀ (n : Nat), n ≤ es.length → (getK (ecell (es.take n)) (kOf s o)).getD (.str "error") = .str (entF (es.take n) s o) := by
    intro n
    induction n with
    | zero => intro _; rfl
    | succ n ih =>
      intro hn
      have hlt : n < es.length := by omega
      have tk : es.take (n + 1) = es.take n ++ [es[n]] := by rw [List.take_succ, List.getElem?_eq_getElem hlt]; rfl
      have hno : ∀ y ∈ es.take n, ¬ (y.s = es[n].s ∧ y.o = es[n].o) := fun y hy z => by
        obtain ⟨j, hj, e⟩ := List.getElem_of_mem hy
        have hj' : j < n := by simp at hj; omega
        have := List.pairwise_iff_getElem.mp asc j n (by omega) hlt hj'
        have ey : es[j]'(by omega) = y := by rw [← e]; simp
        rw [ey, z.1, z.2, lexLt_irr] at this
        cases this
      rw [tk, entF_snoc hno]
      have : ecell (es.take n ++ [es[n]]) = putD (ecell (es.take n)) (kOf es[n].s es[n].o) (.str es[n].e) := by
        unfold ecell mergeTD
        rw [List.map_append, List.foldl_append]
        rfl
      rw [this, getK_put]
      by_cases hx : s = es[n].s ∧ o = es[n].o
      · rw [if_pos (kOf_inj.mpr hx), if_pos hx]; rfl
      · rw [if_neg (fun z => hx (kOf_inj.mp z)), if_neg hx]; exact ih (by omega)
  have := key es.length (Nat.le_refl _)
  rwa [List.take_length] at this
end PV
end
section
/-! PVP25: dicts merged; the entry of each pair; two tables joined. -/
namespace PV
open PySem PySem.Spec PyProof.Rows L2
theorem getK_cons {κ : Type} [DecidableEq κ] {k j : κ} {w : D} {kvs : List (κ × D)} : getK ((k, w) :: kvs) j = if k = j then some w else getK kvs j := by
  unfold getK
  rw [List.find?_cons]
  by_cases h : k = j
  · simp [h]
  · simp [h]
theorem getK_none {κ : Type} [DecidableEq κ] {j : κ} {kvs : List (κ × D)} (h : j ∉ kvs.map (·.1)) : getK kvs j = none := by
  induction kvs with
  | nil => rfl
  | cons p kvs ih =>
    simp only [List.map_cons, List.mem_cons, not_or] at h
    rw [getK_cons, if_neg (fun z => h.1 z.symm), ih h.2]
theorem getK_merge : ∀ {kvs acc : List (List Key × D)} {j : List Key}, (kvs.map (·.1)).Nodup → getK (mergeTD acc kvs) j = (getK kvs j).or (getK acc j)
  | [], acc, j, _ => rfl
  | (k, w) :: kvs, acc, j, h => by
    simp only [List.map_cons, List.nodup_cons] at h
    have ih := getK_merge (kvs := kvs) (acc := putD acc k w) (j := j) h.2
    show getK (mergeTD (putD acc k w) kvs) j = _
    rw [ih, getK_put, getK_cons]
    by_cases hj : k = j
    · subst hj
      rw [getK_none h.1]
      simp
    · have : ¬ j = k := fun z => hj z.symm
      simp [hj, this]
theorem putD_new {κ : Type} [DecidableEq κ] {kvs : List (κ × D)} {k : κ} {w : D} (h : k ∉ kvs.map (·.1)) : putD kvs k w = kvs ++ [(k, w)] := by
  unfold putD
  rw [if_neg]
  intro z
  obtain ⟨q, hq, e⟩ := List.any_eq_true.mp z
  exact h (List.mem_map.mpr ⟨q, hq, by simpa using e⟩)
theorem merge_nil {kvs : List (List Key × D)} (h : (kvs.map (·.1)).Nodup) : mergeTD [] kvs = kvs := by
  have key : ∀ (ys acc : List (List Key × D)), ((acc ++ ys).map (·.1)).Nodup → mergeTD acc ys = acc ++ ys := by
    intro ys
    induction ys with
    | nil => intro acc _; simp [mergeTD]
    | cons y ys ih =>
      intro acc hn
      have hy : y.1 ∉ acc.map (·.1) := fun z => by
        rw [List.map_append, List.nodup_append] at hn
        exact hn.2.2 y.1 z y.1 (by simp) rfl
      show mergeTD (putD acc y.1 y.2) ys = _
      rw [putD_new hy, ih _ (by simpa using hn)]
      simp
  exact key kvs [] (by simpa using h)
theorem ents_keys {es : List Ent} (asc : es.Pairwise fun x y => HT.lexLt [x.s, x.o] [y.s, y.o] = true) : ((es.map fun x => (kOf x.s x.o, D.str x.e)).map (·.1)).Nodup := by
  rw [List.map_map, List.nodup_iff_pairwise_ne, List.pairwise_map]
  refine asc.imp fun {x y} hxy z => ?_
  obtain ⟨h1, h2⟩ := kOf_inj.mp z
  rw [h1, h2, lexLt_irr] at hxy
  cases hxy
theorem ecell_eq {es : List Ent} (asc : es.Pairwise fun x y => HT.lexLt [x.s, x.o] [y.s, y.o] = true) : ecell es = es.map fun x => (kOf x.s x.o, D.str x.e) := merge_nil (ents_keys asc)
theorem getK_ents {es : List Ent} {s o : Int} : getK (es.map fun x => (kOf x.s x.o, D.str x.e)) (kOf s o) = (es.find? fun x => decide (x.s = s ∧ x.o = o)).map fun x => .str x.e := by
  induction es with
  | nil => rfl
  | cons x es ih =>
    rw [List.map_cons, getK_cons, List.find?_cons]
    by_cases h : x.s = s ∧ x.o = o
    · rw [if_pos (kOf_inj.mpr h)]
      simp [h]
    · rw [if_neg (fun z => h (kOf_inj.mp z)), ih]
      have : decide (x.s = s ∧ x.o = o) = false := decide_eq_false h
      simp [this]
/-- the entry of each pair -/
def tcell (ops : List Opr) (es : List Ent) : List (List Key × D) := mergeTD (mergeTD [] ((pairL ops).map fun q => (kOf q.1 q.2, D.str "error"))) (ecell es)
theorem tcell_get {ops : List Opr} {es : List Ent} (E : EntsOk ops es) {s o : Int} : getK (tcell ops es) (kOf s o) = if (s, o) ∈ pairL ops then some (.str (entF es s o)) else none := by
  unfold tcell
  have nd := ents_keys E.asc
  rw [ecell_eq E.asc, getK_merge nd, getK_ents]
  have h1 : getK (mergeTD [] ((pairL ops).map fun q => (kOf q.1 q.2, D.str "error"))) (kOf s o) = if (s, o) ∈ pairL ops then some (.str "error") else none := by
    have := getK_putAll (f := fun q : Int × Int => kOf q.1 q.2) (v := .str "error") (ps := pairL ops) (acc := []) (j := kOf s o)
    rw [show mergeTD [] ((pairL ops).map fun q => (kOf q.1 q.2, D.str "error")) = putAll [] ((pairL ops).map fun q => (kOf q.1 q.2, D.str "error")) from rfl, this]
    have iff : kOf s o ∈ (pairL ops).map (fun q => kOf q.1 q.2) ↔ (s, o) ∈ pairL ops := by
      constructor
      · intro h
        obtain ⟨q, hq, e⟩ := List.mem_map.mp h
        obtain ⟨e1, e2⟩ := kOf_inj.mp e
        rw [← e1, ← e2]; exact hq
      · intro h
        exact List.mem_map.mpr ⟨_, h, rfl⟩
    by_cases hm : (s, o) ∈ pairL ops
    · rw [if_pos (iff.mpr hm), if_pos hm]
    · rw [if_neg (fun z => hm (iff.mp z)), if_neg hm]; rfl
  rw [h1]
  unfold entF
  cases hf : es.find? (fun x => decide (x.s = s ∧ x.o = o)) with
  | none => by_cases hm : (s, o) ∈ pairL ops <;> simp [hm]
  | some x =>
    have hx := List.mem_of_find?_eq_some hf
    have hp := List.find?_some hf
    have hp' : x.s = s ∧ x.o = o := of_decide_eq_true hp
    have := E.mem x hx
    rw [hp'.1, hp'.2] at this
    simp [this]
/-- a dict that holds the entry of each pair -/
def TdAt (h : Hh) (j : Nat) (ops : List Opr) (es : List Ent) : Prop := ∃ kvs, h[j]? = some (.dT kvs) ∧ ∀ s o, getK kvs (kOf s o) = if (s, o) ∈ pairL ops then some (.str (entF es s o)) else none
theorem TdAt.ux {is : List Nat} {h h' : Hh} {j : Nat} {ops : List Opr} {es : List Ent} (d : TdAt h j ops es) (u : Ux is h h') (hj : j ∉ is) : TdAt h' j ops es := by
  obtain ⟨kvs, e, hg⟩ := d
  exact ⟨kvs, u.get e hj, hg⟩
/-- entries with increased numbers -/
def Ent.up (n : Nat) (x : Ent) : Ent := ⟨x.s + n, x.o + n, x.e⟩
theorem pairL_iff {ops : List Opr} {s o : Int} : (s, o) ∈ pairL ops ↔ ∃ (n m : Nat) (a b : Opr), s = n ∧ o = m ∧ ops[n]? = some a ∧ a.Rr = true ∧ ops[m]? = some b ∧ b.L = true := by
  constructor
  · intro h
    unfold pairL at h
    obtain ⟨s', hs, h⟩ := List.mem_flatMap.mp h
    obtain ⟨o', ho, e⟩ := List.mem_map.mp h
    cases e
    obtain ⟨n, rfl, a, e1, e2⟩ := idxs_mem hs
    obtain ⟨m, rfl, b, e3, e4⟩ := idxs_mem ho
    exact ⟨n, m, a, b, rfl, rfl, e1, e2, e3, e4⟩
  · rintro ⟨n, m, a, b, rfl, rfl, h1, h2, h3, h4⟩
    exact pairL_mem h1 h2 h3 h4
theorem entF_none {ops : List Opr} {es : List Ent} (E : EntsOk ops es) {s o : Int} (h : (s, o) ∉ pairL ops) : entF es s o = "error" := by
  unfold entF
  have : es.find? (fun x => decide (x.s = s ∧ x.o = o)) = none := List.find?_eq_none.mpr fun x hx z => by
    have hp : x.s = s ∧ x.o = o := of_decide_eq_true z
    have := E.mem x hx
    rw [hp.1, hp.2] at this
    exact h this
  rw [this]
theorem entF_app {es1 es2 : List Ent} {n : Nat} {s o : Int} : entF (es1 ++ es2.map (Ent.up n)) s o = match es1.find? fun x => decide (x.s = s ∧ x.o = o) with
    | some x => x.e
    | none => entF es2 (s - n) (o - n) := by
  unfold entF
  rw [List.find?_append, List.find?_map]
  have : ((fun x : Ent => decide (x.s = s ∧ x.o = o)) ∘ Ent.up n) = fun x => decide (x.s = s - n ∧ x.o = o - n) := by
    funext x
    show decide ((Ent.up n x).s = s ∧ (Ent.up n x).o = o) = _
    rw [decide_eq_decide]
    show x.s + n = s ∧ x.o + n = o ↔ _
    omega
  rw [this]
  cases es1.find? (fun x => decide (x.s = s ∧ x.o = o)) with
  | some x => rfl
  | none => cases es2.find? (fun x => decide (x.s = s - n ∧ x.o = o - n)) <;> rfl
/-- the entry that is due in the joined table -/
theorem entF_join {a b : List Opr} {es1 es2 : List Ent} (E1 : EntsOk a es1) (E2 : EntsOk b es2) {s o : Int} : entF (es1 ++ es2.map (Ent.up a.length)) s o = if (s, o) ∈ pairL a then entF es1 s o else if (s - a.length, o - a.length) ∈ pairL b then entF es2 (s - a.length) (o - a.length) else "error" := by
  rw [entF_app]
  by_cases h : (s, o) ∈ pairL a
  · rw [if_pos h]
    cases hf : es1.find? (fun x => decide (x.s = s ∧ x.o = o)) with
    | some x => unfold entF; rw [hf]
    | none =>
      have pn := pairL_nat h
      have : (s - a.length, o - a.length) ∉ pairL b := fun z => by
        have := pairL_nat z
        simp at this pn
        omega
      rw [entF_none E2 this]
      unfold entF; rw [hf]
  · rw [if_neg h]
    have : es1.find? (fun x => decide (x.s = s ∧ x.o = o)) = none := List.find?_eq_none.mpr fun x hx z => by
      have hp : x.s = s ∧ x.o = o := of_decide_eq_true z
      have := E1.mem x hx
      rw [hp.1, hp.2] at this
      exact h this
    rw [this]
    by_cases h2 : (s - a.length, o - a.length) ∈ pairL b
    · rw [if_pos h2]
    · rw [if_neg h2, entF_none E2 h2]
theorem pairL_up {a b : List Opr} {s o : Int} (h : (s, o) ∈ pairL b) : (s + a.length, o + a.length) ∈ pairL (a ++ b) := by
  obtain ⟨n, m, x, y, rfl, rfl, h1, h2, h3, h4⟩ := pairL_iff.mp h
  refine pairL_iff.mpr ⟨n + a.length, m + a.length, x, y, by simp, by simp, ?_, h2, ?_, h4⟩
  · rw [List.getElem?_append_right (by omega)]; simpa using h1
  · rw [List.getElem?_append_right (by omega)]; simpa using h3
theorem pairL_left {a b : List Opr} {s o : Int} (h : (s, o) ∈ pairL a) : (s, o) ∈ pairL (a ++ b) := by
  obtain ⟨n, m, x, y, rfl, rfl, h1, h2, h3, h4⟩ := pairL_iff.mp h
  refine pairL_iff.mpr ⟨n, m, x, y, rfl, rfl, ?_, h2, ?_, h4⟩
  · rw [List.getElem?_append_left (lt_of_get h1)]; exact h1
  · rw [List.getElem?_append_left (lt_of_get h3)]; exact h3
theorem ents_join {a b : List Opr} {es1 es2 : List Ent} (E1 : EntsOk a es1) (E2 : EntsOk b es2) : EntsOk (a ++ b) (es1 ++ es2.map (Ent.up a.length)) := by
  refine ⟨fun x hx => ?_, fun x hx => ?_, ?_⟩
  · rcases List.mem_append.mp hx with hx | hx
    · exact pairL_left (E1.mem x hx)
    · obtain ⟨y, hy, rfl⟩ := List.mem_map.mp hx
      exact pairL_up (E2.mem y hy)
  · rcases List.mem_append.mp hx with hx | hx
    · exact E1.val x hx
    · obtain ⟨y, hy, rfl⟩ := List.mem_map.mp hx
      exact E2.val y hy
  · refine List.pairwise_append.mpr ⟨E1.asc, ?_, fun x hx y hy => ?_⟩
    · rw [List.pairwise_map]
      refine E2.asc.imp fun {x y} h => ?_
      rw [lex2] at h ⊢
      simp only [Ent.up]
      omega
    · obtain ⟨z, hz, rfl⟩ := List.mem_map.mp hy
      have p1 := pairL_nat (E1.mem x hx)
      have p2 := pairL_nat (E2.mem z hz)
      rw [lex2]
      simp only [Ent.up]
      simp at p1 p2
      omega
/-- operators of one word each -/
structure Named (ops : List Opr) (ws : List Str) : Prop where
  kd : ∀ o ∈ ops, o.kind ∈ kinds ∧ o.kind ≠ "closed"
  wd : ops.map Opr.words = ws.map fun w => [w]
theorem Named.app {a b : List Opr} {ws us : List Str} (h1 : Named a ws) (h2 : Named b us) : Named (a ++ b) (ws ++ us) := ⟨fun o ho => by
  rcases List.mem_append.mp ho with ho | ho
  · exact h1.kd o ho
  · exact h2.kd o ho, by rw [List.map_append, List.map_append, h1.wd, h2.wd]⟩
theorem Named.ops {ops : List Opr} {ws : List Str} (h : Named ops ws) (nd : ws.Nodup) (w0 : ∀ w ∈ ws, w ∈ pool0) : OpsOk ops := by
  have wm : ∀ o ∈ ops, ∃ w ∈ ws, o.words = [w] := fun o ho => by
    have : o.words ∈ ops.map Opr.words := List.mem_map_of_mem ho
    rw [h.wd] at this
    obtain ⟨w, hw, e⟩ := List.mem_map.mp this
    exact ⟨w, hw, e.symm⟩
  have fs : ∀ (b : Bool) (ops : List Opr) (ws : List Str), ops.map Opr.words = (ws.map fun w => [w]) → (firsts b ops).Sublist ws := by
    intro b ops
    induction ops with
    | nil => intro ws e; cases ws with
      | nil => simp [firsts]
      | cons _ _ => simp at e
    | cons o ops ih =>
      intro ws e
      cases ws with
      | nil => simp at e
      | cons w ws =>
        simp only [List.map_cons, List.cons.injEq] at e
        have := ih ws e.2
        unfold firsts at this ⊢
        rw [List.filterMap_cons]
        by_cases hb : o.S = b
        · simp only [hb, if_true, e.1, List.head?_cons]
          exact this.cons₂ w
        · simp only [hb, if_false]
          exact this.cons w
  have lt : laters ops = [] := by
    unfold laters
    rw [List.flatMap_eq_nil_iff]
    intro o ho
    obtain ⟨w, _, e⟩ := wm o ho
    rw [e]; rfl
  refine ⟨fun o ho => ?_, fun b => nd.sublist (fs b ops ws h.wd), by rw [lt]; exact List.nodup_nil, by rw [lt]; simp⟩
  obtain ⟨w, hw, e⟩ := wm o ho
  refine ⟨(h.kd o ho).1, by rw [e]; simp, by rw [e]; simp, fun z => absurd z (h.kd o ho).2, fun x hx => ?_⟩
  rw [e] at hx
  have : x = w := by simpa using hx
  subst this; exact w0 x hw
def nums12 : List Str := ["0", "1", "2", "3", "4", "5", "6", "7", "8", "9", "10", "11"]
def nmS (sg : Str) (n : Nat) : Str := ("o" : Str) ++ nums12.getD n "" ++ sg
def namesX (n : Nat) : List Str := (List.range n).map (nmS "x")
def namesY (n : Nat) : List Str := (List.range n).map (nmS "y")
theorem names_all : (namesX 12 ++ namesY 12).Nodup := by decide +kernel
theorem names_pool : ∀ w ∈ namesX 12 ++ namesY 12, w ∈ pool0 := by decide +kernel
theorem names_sub {a b : Nat} (ha : a ≤ 12) (hb : b ≤ 12) : (namesX a ++ namesY b).Sublist (namesX 12 ++ namesY 12) := by
  unfold namesX namesY
  exact List.Sublist.append ((List.range_sublist.mpr ha).map _) ((List.range_sublist.mpr hb).map _)
end PV
end
section
namespace LW
open PV PySem PySem.Spec PyProof.Rows L2

abbrev i_is_token : Nat := 0

abbrev i_is_word : Nat := 1

abbrev i_is_operator : Nat := 2

abbrev i_starts_operand : Nat := 3

abbrev i_are_distinct : Nat := 4

abbrev i_is_operator_list : Nat := 5

abbrev i_has_left : Nat := 6

abbrev i_has_right : Nat := 7

abbrev i_pairs : Nat := 8

abbrev i_is_number : Nat := 9

abbrev i_is_row : Nat := 10

abbrev i_are_entries : Nat := 11

abbrev i_Table___init__ : Nat := 12

abbrev i_Table_entry : Nat := 13

abbrev i_joined : Nat := 14

abbrev i_law_source : Nat := 15

abbrev i_law_draw : Nat := 16

abbrev i_law_pick : Nat := 17

abbrev i_law_has : Nat := 18

abbrev i_law_pairs : Nat := 19

abbrev i_law_entries : Nat := 20

abbrev i_law_told : Nat := 21

abbrev i_law_table : Nat := 22

abbrev i_law_right : Nat := 23

abbrev i_law : Nat := 24

abbrev i_mk_Table_2 : Nat := 25
def m_is_token (cl : Cll) : MS :=
  (msSeq (msIf (mOrB (mNotB (mB (mOp isiW (mV 0) (mC (.ty "str"))))) (mNotB (mB (mChain leW leW (mC (.int 1)) (mF1 lenW (mV 0)) (mC (.int 8)))))) (msRet (mC (.bl false))) msNil)
    (msRet (mF1 allW (mLc (miE (mV 0)) (.nm 1) (fun _ h => .ok true h) (mChain ltW leW (mC (.str " ")) (mV 1) (mC (.str "~"))) [1]))))

def m_is_word (cl : Cll) : MS :=
  (msRet (mAndV (mCall cl i_is_token (mArgs [(mV 0)])) (mOp niW (mV 0) (mC (.kt ((["(", ")"] : List Str).map D.str))))))

def m_is_operator (cl : Cll) : MS :=
  (msSeq (msIf (mOrB (mNotB (mB (mOp isiW (mV 0) (mC (.ty "tuple"))))) (mOrB (mB (mOp neW (mF1 lenW (mV 0)) (mC (.int 2)))) (mOrB (mNotB (mB (mOp isiW (mOp ixW (mV 0) (mC (.int 0))) (mC (.ty "str"))))) (mB (mOp niW (mOp ixW (mV 0) (mC (.int 0))) (mC (.kt ((["closed", "infix", "postfix", "prefix"] : List Str).map D.str)))))))) (msRet (mC (.bl false))) msNil)
    (msSeq (msAsg (.tu [(.nm 1), (.nm 2)]) (mV 0))
    (msSeq (msIf (mOrB (mNotB (mB (mOp isiW (mV 2) (mC (.ty "tuple"))))) (mNotB (mB (mF1 allW (mLc (miE (mV 2)) (.nm 3) (fun _ h => .ok true h) (mCall cl i_is_word (mArgs [(mV 3)])) [3]))))) (msRet (mC (.bl false))) msNil)
    (msRet (mChain leW leW (mIf (mB (mOp eqW (mV 1) (mC (.str "closed")))) (mC (.int 2)) (mC (.int 1))) (mF1 lenW (mV 2)) (mC (.int 3)))))))

def m_starts_operand (cl : Cll) : MS :=
  (msRet (mOp inW (mOp ixW (mV 0) (mC (.int 0))) (mTup (mArgs [(mC (.str "prefix")), (mC (.str "closed"))]))))

def m_are_distinct (cl : Cll) : MS :=
  (msRet (mOp eqW (mF1 lenW (mV 0)) (mF1 lenW (mDc kK (miE (mV 0)) (.nm 1) (fun _ h => .ok true h) (mV 1) (mC (.bl true)) [1]))))

def m_is_operator_list (cl : Cll) : MS :=
  (msSeq (msIf (mOrB (mNotB (mB (mOp isiW (mV 0) (mC (.ty "tuple"))))) (mOrB (mB (mOp gtW (mF1 lenW (mV 0)) (mC (.int 12)))) (mNotB (mB (mF1 allW (mLc (miE (mV 0)) (.nm 1) (fun _ h => .ok true h) (mCall cl i_is_operator (mArgs [(mV 1)])) [1])))))) (msRet (mC (.bl false))) msNil)
    (msSeq (msAsg (.nm 2) (mLc (miE (mV 0)) (.nm 1) (fun _ h => .ok true h) (mOp ixW (mOp ixW (mV 1) (mC (.int 1))) (mC (.int 0))) [1]))
    (msSeq (msAsg (.nm 3) (mLc2 (miE (mV 0)) (.nm 1) (fun _ h => .ok true h) (miE (mSl (mOp ixW (mV 1) (mC (.int 1))) (some (mC (.int 1))) none)) (.nm 4) (fun _ h => .ok true h) (mV 4) [1, 4] [4]))
    (msSeq (msIf (mOrB (mNotB (mB (mCall cl i_are_distinct (mArgs [(mV 3)])))) (mB (mF1 anyW (mLc (miE (mV 3)) (.nm 4) (fun _ h => .ok true h) (mOp inW (mV 4) (mV 2)) [4])))) (msRet (mC (.bl false))) msNil)
    (msSeq (msAsg (.nm 5) (mLc (miE (mV 0)) (.nm 1) (mB (mCall cl i_starts_operand (mArgs [(mV 1)]))) (mOp ixW (mOp ixW (mV 1) (mC (.int 1))) (mC (.int 0))) [1]))
    (msSeq (msAsg (.nm 6) (mLc (miE (mV 0)) (.nm 1) (mNotB (mB (mCall cl i_starts_operand (mArgs [(mV 1)])))) (mOp ixW (mOp ixW (mV 1) (mC (.int 1))) (mC (.int 0))) [1]))
    (msRet (mAndV (mCall cl i_are_distinct (mArgs [(mV 5)])) (mCall cl i_are_distinct (mArgs [(mV 6)]))))))))))

def m_has_left (cl : Cll) : MS :=
  (msRet (mOp inW (mOp ixW (mV 0) (mC (.int 0))) (mTup (mArgs [(mC (.str "infix")), (mC (.str "postfix"))]))))

def m_has_right (cl : Cll) : MS :=
  (msRet (mOp inW (mOp ixW (mV 0) (mC (.int 0))) (mTup (mArgs [(mC (.str "infix")), (mC (.str "prefix"))]))))

def m_pairs (cl : Cll) : MS :=
  (msSeq (msAsg (.nm 1) (mLc (miEn (mV 0)) (.tu [(.nm 2), (.nm 3)]) (mB (mCall cl i_has_right (mArgs [(mV 3)]))) (mV 2) [2, 3]))
    (msSeq (msAsg (.nm 4) (mLc (miEn (mV 0)) (.tu [(.nm 5), (.nm 3)]) (mB (mCall cl i_has_left (mArgs [(mV 3)]))) (mV 5) [5, 3]))
    (msRet (mF1 tupleW (mLc2 (miE (mV 1)) (.nm 2) (fun _ h => .ok true h) (miE (mV 4)) (.nm 5) (fun _ h => .ok true h) (mTup (mArgs [(mV 2), (mV 5)])) [2, 5] [5])))))

def m_is_number (cl : Cll) : MS :=
  (msRet (mAndV (mOp isiW (mV 0) (mC (.ty "int"))) (mAndV (mNotV (mOp isiW (mV 0) (mC (.ty "bool")))) (mOp geW (mV 0) (mC (.int 0))))))

def m_is_row (cl : Cll) : MS :=
  (msSeq (msIf (mOrB (mNotB (mB (mOp isiW (mV 0) (mC (.ty "tuple"))))) (mOrB (mB (mOp neW (mF1 lenW (mV 0)) (mC (.int 3)))) (mOrB (mNotB (mB (mCall cl i_is_number (mArgs [(mOp ixW (mV 0) (mC (.int 0)))])))) (mNotB (mB (mCall cl i_is_number (mArgs [(mOp ixW (mV 0) (mC (.int 1)))]))))))) (msRet (mC (.bl false))) msNil)
    (msRet (mAndV (mOp inW (mSl (mV 0) none (some (mC (.int 2)))) (mV 1)) (mAndV (mOp isiW (mOp ixW (mV 0) (mC (.int 2))) (mC (.ty "str"))) (mOp inW (mOp ixW (mV 0) (mC (.int 2))) (mTup (mArgs [(mC (.str "reduce")), (mC (.str "shift"))])))))))

def m_are_entries (cl : Cll) : MS :=
  (msSeq (msAsg (.nm 2) (mDc kT (miE (mCall cl i_pairs (mArgs [(mV 0)]))) (.nm 3) (fun _ h => .ok true h) (mV 3) (mC (.bl true)) [3]))
    (msSeq (msIf (mOrB (mNotB (mB (mOp isiW (mV 1) (mC (.ty "tuple"))))) (mNotB (mB (mF1 allW (mLc (miE (mV 1)) (.nm 4) (fun _ h => .ok true h) (mCall cl i_is_row (mArgs [(mV 4), (mV 2)])) [4]))))) (msRet (mC (.bl false))) msNil)
    (msRet (mF1 allW (mLc (miZ (mV 1) (mSl (mV 1) (some (mC (.int 1))) none)) (.tu [(.nm 4), (.nm 5)]) (fun _ h => .ok true h) (mOp ltW (mSl (mV 4) none (some (mC (.int 2)))) (mSl (mV 5) none (some (mC (.int 2))))) [4, 5])))))

def b_Table___init___1 (cl : Cll) : MS :=
  (msSub (mV 6) (mFldX "entry_by_pair" (mV 0)) (mTup (mArgs [(mV 4), (mV 5)])))

def m_Table___init__ (cl : Cll) : MS :=
  (msSeq (msIf (mNotB (mB (mCall cl i_is_operator_list (mArgs [(mV 1)])))) (msRaise 101 ["value"] (mArgs [(mV 1)])) msNil)
    (msSeq (msIf (mNotB (mB (mCall cl i_are_entries (mArgs [(mV 1), (mV 2)])))) (msRaise 102 ["value"] (mArgs [(mV 2)])) msNil)
    (msSeq (msFld "operators" (mV 0) (mV 1))
    (msSeq (msFld "entries" (mV 0) (mV 2))
    (msSeq (msFld "entry_by_pair" (mV 0) (mDc kT (miE (mCall cl i_pairs (mArgs [(mV 1)]))) (.nm 3) (fun _ h => .ok true h) (mV 3) (mC (.str "error")) [3]))
    (msFor (miE (mV 2)) (.tu [(.nm 4), (.nm 5), (.nm 6)]) (b_Table___init___1 cl)))))))

def m_Table_entry (cl : Cll) : MS :=
  (msSeq (msIf (mOrB (mNotB (mB (mCall cl i_is_number (mArgs [(mV 1)])))) (mOrB (mNotB (mB (mCall cl i_is_number (mArgs [(mV 2)])))) (mB (mOp niW (mTup (mArgs [(mV 1), (mV 2)])) (mFldX "entry_by_pair" (mV 0)))))) (msRaise 103 ["s", "o"] (mArgs [(mV 1), (mV 2)])) msNil)
    (msRet (mOp ixW (mFldX "entry_by_pair" (mV 0)) (mTup (mArgs [(mV 1), (mV 2)])))))

def m_joined (cl : Cll) : MS :=
  (msSeq (msAsg (.nm 2) (mOp addW (mFldX "operators" (mV 0)) (mFldX "operators" (mV 1))))
    (msSeq (msIf (mNotB (mB (mCall cl i_is_operator_list (mArgs [(mV 2)])))) (msRaise 101 ["value"] (mArgs [(mV 2)])) msNil)
    (msSeq (msAsg (.nm 3) (mF1 lenW (mFldX "operators" (mV 0))))
    (msSeq (msAsg (.nm 4) (mLc (miE (mFldX "entries" (mV 1))) (.tu [(.nm 5), (.nm 6), (.nm 7)]) (fun _ h => .ok true h) (mTup (mArgs [(mOp addW (mV 5) (mV 3)), (mOp addW (mV 6) (mV 3)), (mV 7)])) [5, 6, 7]))
    (msRet (mCall cl i_mk_Table_2 (mArgs [(mV 2), (mOp addW (mFldX "entries" (mV 0)) (mF1 tupleW (mV 4)))])))))))

def m_law_source (cl : Cll) : MS :=
  (msSeq (msAsg (.nm 2) (mIf (mB (mOp ltW (mV 1) (mF1 lenW (mV 0)))) (mOp ixW (mV 0) (mV 1)) (mC (.int 0))))
    (msSeq (msAsg (.nm 3) (mIf (mB (mOp geW (mF1 absW (mV 2)) (mOp powW (mC (.int 10)) (mC (.int 18))))) (mOp modW (mF1 absW (mV 2)) (mOp powW (mOp powW (mC (.int 10)) (mC (.int 60))) (mC (.int 4)))) (mC (.int 0))))
    (msRet (mLst (mArgs [(mV 3), (mOp modW (mOp addW (mOp addW (mOp mulW (mOp modW (mV 2) (mC (.int 2305843009213693951))) (mC (.int 1000003))) (mOp mulW (mOp mulW (mC (.int 7919)) (mV 1)) (mV 1))) (mC (.int 97))) (mC (.int 2305843009213693921))), (mC (.int 0))])))))

def m_law_draw (cl : Cll) : MS :=
  (msSeq (msIf (mB (mOp gtW (mOp ixW (mV 0) (mC (.int 0))) (mC (.int 0)))) (msSeq (msAsg (.nm 2) (mOp modW (mOp ixW (mV 0) (mC (.int 0))) (mV 1)))
    (msSeq (msSub (mOp fdivW (mOp ixW (mV 0) (mC (.int 0))) (mV 1)) (mV 0) (mC (.int 0)))
    (msRet (mV 2)))) msNil)
    (msSeq (msSub (mOp addW (mOp ixW (mV 0) (mC (.int 2))) (mC (.int 1))) (mV 0) (mC (.int 2)))
    (msSeq (msAsg (.nm 3) (mOp addW (mOp ixW (mV 0) (mC (.int 1))) (mOp mulW (mC (.int 15485863)) (mOp ixW (mV 0) (mC (.int 2))))))
    (msSeq (msAsg (.nm 4) (mOp addW (mOp addW (mOp modW (mOp ixW (mV 0) (mC (.int 1))) (mC (.int 7919))) (mOp mulW (mC (.int 32452867)) (mOp ixW (mV 0) (mC (.int 2))))) (mC (.int 29))))
    (msSeq (msAsg (.nm 5) (mOp modW (mOp mulW (mV 3) (mV 4)) (mC (.int 2305843009213693951))))
    (msSeq (msAsg (.nm 6) (mOp addW (mOp addW (mOp modW (mV 5) (mC (.int 1000003))) (mOp mulW (mC (.int 6700417)) (mOp ixW (mV 0) (mC (.int 2))))) (mC (.int 5))))
    (msRet (mOp modW (mOp fdivW (mOp modW (mOp mulW (mOp addW (mV 5) (mC (.int 23))) (mV 6)) (mC (.int 2305843009213693907))) (mC (.int 64))) (mV 1)))))))))

def m_law_pick (cl : Cll) : MS :=
  (msRet (mOp ixW (mV 1) (mCall cl i_law_draw (mArgs [(mV 0), (mF1 lenW (mV 1))]))))

def m_law_has (cl : Cll) : MS :=
  (msRet (mTup (mArgs [(mOp inW (mOp ixW (mV 0) (mC (.int 0))) (mTup (mArgs [(mC (.str "infix")), (mC (.str "postfix"))]))), (mOp inW (mOp ixW (mV 0) (mC (.int 0))) (mTup (mArgs [(mC (.str "infix")), (mC (.str "prefix"))])))])))

def b_law_pairs_1 (cl : Cll) : MS :=
  (msIf (mB (mOp ixW (mCall cl i_law_has (mArgs [(mV 3)])) (mC (.int 1)))) (msExpr (mM1 (on1 "list" extendW) (mV 1) (mLc (miEn (mV 0)) (.tu [(.nm 4), (.nm 5)]) (mB (mOp ixW (mCall cl i_law_has (mArgs [(mV 5)])) (mC (.int 0)))) (mTup (mArgs [(mV 2), (mV 4)])) [4, 5]))) msNil)

def m_law_pairs (cl : Cll) : MS :=
  (msSeq (msAsg (.nm 1) (mLst (mArgs [])))
    (msSeq (msFor (miEn (mV 0)) (.tu [(.nm 2), (.nm 3)]) (b_law_pairs_1 cl))
    (msRet (mV 1))))

def b_law_entries_1 (cl : Cll) : MS :=
  (msSeq (msAsg (.nm 8) (mCall cl i_law_pick (mArgs [(mV 0), (mLst (mArgs [(mC (.str "reduce")), (mC (.str "shift")), (mC (.str "error"))]))])))
    (msSeq (msIf (mB (mOp eqW (mV 2) (mC (.int 0)))) (msAsg (.nm 8) (mIf (mB (mOp gtW (mOp ixW (mV 3) (mV 6)) (mOp ixW (mV 3) (mV 7)))) (mC (.str "reduce")) (mIf (mB (mOp ltW (mOp ixW (mV 3) (mV 6)) (mOp ixW (mV 3) (mV 7)))) (mC (.str "shift")) (mV 8)))) (msIf (mAndB (mB (mOp eqW (mV 2) (mC (.int 1)))) (mB (mOp eqW (mV 8) (mC (.str "error"))))) (msAsg (.nm 8) (mCall cl i_law_pick (mArgs [(mV 0), (mLst (mArgs [(mC (.str "reduce")), (mC (.str "shift")), (mC (.str "shift"))]))]))) (msIf (mAndB (mB (mOp eqW (mV 2) (mC (.int 2)))) (mB (mOp gtW (mCall cl i_law_draw (mArgs [(mV 0), (mC (.int 3))])) (mC (.int 0))))) (msAsg (.nm 8) (mC (.str "error"))) (msIf (mB (mOp eqW (mV 2) (mC (.int 3)))) (msAsg (.nm 8) (mOp ixW (mLst (mArgs [(mC (.str "reduce")), (mC (.str "shift"))])) (mOp modW (mOp ixW (mV 3) (mC (.int 0))) (mC (.int 2))))) msNil))))
    (msIf (mB (mOp neW (mV 8) (mC (.str "error")))) (msExpr (mM1 (on1 "list" appendW) (mV 5) (mTup (mArgs [(mV 6), (mV 7), (mV 8)])))) msNil)))

def m_law_entries (cl : Cll) : MS :=
  (msSeq (msAsg (.tu [(.nm 2), (.nm 3)]) (mTup (mArgs [(mCall cl i_law_draw (mArgs [(mV 0), (mC (.int 5))])), (mLc (miE (mV 1)) (.nm 4) (fun _ h => .ok true h) (mCall cl i_law_draw (mArgs [(mV 0), (mC (.int 4))])) [4])])))
    (msSeq (msAsg (.nm 5) (mLst (mArgs [])))
    (msSeq (msFor (miE (mCall cl i_law_pairs (mArgs [(mV 1)]))) (.tu [(.nm 6), (.nm 7)]) (b_law_entries_1 cl))
    (msRet (mF1 tupleW (mV 5))))))

def m_law_told (cl : Cll) : MS :=
  (msSeq (msAsg (.nm 2) (mF1 dictTW (mLc (miE (mCall cl i_law_pairs (mArgs [(mV 0)]))) (.nm 3) (fun _ h => .ok true h) (mTup (mArgs [(mV 3), (mC (.str "error"))])) [3])))
    (msSeq (msExpr (mM1 (on1 "dict" updateTW) (mV 2) (mF1 dictTW (mLc (miE (mV 1)) (.nm 4) (fun _ h => .ok true h) (mTup (mArgs [(mSl (mV 4) none (some (mC (.int 2)))), (mOp ixW (mV 4) (mC (.int 2)))])) [4]))))
    (msRet (mV 2))))

def b_law_table_1 (cl : Cll) : MS :=
  (msSeq (msAsg (.nm 5) (mCall cl i_law_pick (mArgs [(mV 0), (mLst (mArgs [(mC (.str "infix")), (mC (.str "infix")), (mC (.str "infix")), (mC (.str "prefix")), (mC (.str "postfix"))]))])))
    (msExpr (mM1 (on1 "list" appendW) (mV 3) (mTup (mArgs [(mV 5), (mTup (mArgs [(mOp addW (mOp addW (mC (.str "o")) (mF1 strW (mV 4))) (mV 2))]))])))))

def m_law_table (cl : Cll) : MS :=
  (msSeq (msAsg (.nm 3) (mLst (mArgs [])))
    (msSeq (msFor (miR1 (mV 1)) (.nm 4) (b_law_table_1 cl))
    (msSeq (msAsg (.nm 6) (mCall cl i_law_entries (mArgs [(mV 0), (mF1 tupleW (mV 3))])))
    (msRet (mTup (mArgs [(mCall cl i_mk_Table_2 (mArgs [(mF1 tupleW (mV 3)), (mV 6)])), (mCall cl i_law_told (mArgs [(mF1 tupleW (mV 3)), (mV 6)]))]))))))

def b_law_right_1 (cl : Cll) : MS :=
  (msSeq (msAsg (.nm 8) (mM2 (on2 "dict" get2W) (mV 1) (mTup (mArgs [(mV 6), (mV 7)])) (mM2 (on2 "dict" get2W) (mV 3) (mTup (mArgs [(mOp subW (mV 6) (mV 4)), (mOp subW (mV 7) (mV 4))])) (mC (.str "error")))))
    (msIf (mB (mOp neW (mMeth cl (mtL [(0, i_Table_entry)]) "entry" (mV 5) (mArgs [(mV 6), (mV 7)])) (mV 8))) (msRet (mC (.bl false))) msNil))

def m_law_right (cl : Cll) : MS :=
  (msSeq (msAsg (.tu [(.nm 4), (.nm 5)]) (mTup (mArgs [(mF1 lenW (mFldX "operators" (mV 0))), (mCall cl i_joined (mArgs [(mV 0), (mV 2)]))])))
    (msSeq (msIf (mB (mOp neW (mFldX "operators" (mV 5)) (mOp addW (mFldX "operators" (mV 0)) (mFldX "operators" (mV 2))))) (msRet (mC (.bl false))) msNil)
    (msSeq (msFor (miE (mCall cl i_law_pairs (mArgs [(mFldX "operators" (mV 5))]))) (.tu [(.nm 6), (.nm 7)]) (b_law_right_1 cl))
    (msRet (mOp eqW (mF1 lenW (mFldX "entries" (mV 5))) (mOp addW (mF1 lenW (mFldX "entries" (mV 0))) (mF1 lenW (mFldX "entries" (mV 2)))))))))

def b_law_2 (cl : Cll) : MS :=
  (msSeq (msAsg (.tu [(.nm 5), (.nm 6)]) (mCall cl i_law_table (mArgs [(mV 2), (mV 3), (mC (.str "x"))])))
    (msSeq (msAsg (.tu [(.nm 7), (.nm 8)]) (mCall cl i_law_table (mArgs [(mV 2), (mV 4), (mC (.str "y"))])))
    (msIf (mNotB (mB (mCall cl i_law_right (mArgs [(mV 5), (mV 6), (mV 7), (mV 8)])))) (msRet (mC (.bl false))) msNil)))

def b_law_1 (cl : Cll) : MS :=
  (msSeq (msAsg (.nm 2) (mCall cl i_law_source (mArgs [(mV 0), (mV 1)])))
    (msSeq (msFor (miE (mTup (mArgs [(mTup (mArgs [(mC (.int 1)), (mC (.int 11))])), (mTup (mArgs [(mC (.int 3)), (mC (.int 9))])), (mTup (mArgs [(mC (.int 6)), (mC (.int 6))])), (mTup (mArgs [(mC (.int 9)), (mC (.int 3))])), (mTup (mArgs [(mC (.int 11)), (mC (.int 1))])), (mTup (mArgs [(mC (.int 12)), (mC (.int 0))])), (mTup (mArgs [(mC (.int 0)), (mC (.int 12))]))]))) (.tu [(.nm 3), (.nm 4)]) (b_law_2 cl))
    (msSeq (msAsg (.tu [(.nm 5), (.nm 6)]) (mCall cl i_law_table (mArgs [(mV 2), (mC (.int 12)), (mC (.str "x"))])))
    (msSeq (msAsg (.tu [(.nm 7), (.nm 8)]) (mCall cl i_law_table (mArgs [(mV 2), (mC (.int 1)), (mC (.str "y"))])))
    (msSeq (msAsg (.nm 9) (mC .non))
    (msSeq (msTry (msExpr (mCall cl i_joined (mArgs [(mV 5), (mV 7)]))) [([101], some 10, (msAsg (.nm 9) (mFldX "value" (mV 10))))])
    (msIf (mB (mOp neW (mV 9) (mOp addW (mFldX "operators" (mV 5)) (mFldX "operators" (mV 7))))) (msRet (mC (.bl false))) msNil)))))))

def m_law (cl : Cll) : MS :=
  (msSeq (msFor (miR1 (mOp addW (mC (.int 1)) (mOp minW (mC (.int 1)) (mF1 lenW (mV 0))))) (.nm 1) (b_law_1 cl))
    (msRet (mC (.bl true))))

def T : Tab := fun f => match f with
  | 0 => some ⟨2, 1, m_is_token⟩
  | 1 => some ⟨1, 1, m_is_word⟩
  | 2 => some ⟨4, 1, m_is_operator⟩
  | 3 => some ⟨1, 1, m_starts_operand⟩
  | 4 => some ⟨2, 1, m_are_distinct⟩
  | 5 => some ⟨7, 1, m_is_operator_list⟩
  | 6 => some ⟨1, 1, m_has_left⟩
  | 7 => some ⟨1, 1, m_has_right⟩
  | 8 => some ⟨6, 1, m_pairs⟩
  | 9 => some ⟨1, 1, m_is_number⟩
  | 10 => some ⟨2, 2, m_is_row⟩
  | 11 => some ⟨6, 2, m_are_entries⟩
  | 12 => some ⟨7, 3, m_Table___init__⟩
  | 13 => some ⟨3, 3, m_Table_entry⟩
  | 14 => some ⟨8, 2, m_joined⟩
  | 15 => some ⟨4, 2, m_law_source⟩
  | 16 => some ⟨7, 2, m_law_draw⟩
  | 17 => some ⟨2, 2, m_law_pick⟩
  | 18 => some ⟨1, 1, m_law_has⟩
  | 19 => some ⟨6, 1, m_law_pairs⟩
  | 20 => some ⟨9, 2, m_law_entries⟩
  | 21 => some ⟨5, 2, m_law_told⟩
  | 22 => some ⟨7, 3, m_law_table⟩
  | 23 => some ⟨9, 4, m_law_right⟩
  | 24 => some ⟨11, 1, m_law⟩
  | 25 => some ⟨2, 2, mkB 0 i_Table___init__ []⟩
  | _ => none

def top (i : Nat) : Stmt := PySem.Challenge.pw_operatortables_k61_joined_tables_of_all.main.body.getD i (.Pass ⟨0, 0, 0, 0⟩)
abbrev s_is_token : Stmt := top 15
abbrev s_is_word : Stmt := top 16
abbrev s_is_operator : Stmt := top 17
abbrev s_starts_operand : Stmt := top 18
abbrev s_are_distinct : Stmt := top 19
abbrev s_is_operator_list : Stmt := top 20
abbrev s_has_left : Stmt := top 21
abbrev s_has_right : Stmt := top 22
abbrev s_pairs : Stmt := top 23
abbrev s_is_number : Stmt := top 28
abbrev s_is_row : Stmt := top 29
abbrev s_are_entries : Stmt := top 30
abbrev s_Table___init__ : Stmt := inC (top 31) 0
abbrev s_Table_entry : Stmt := inC (top 31) 1
abbrev s_joined : Stmt := top 33
abbrev s_law_source : Stmt := top 35
abbrev s_law_draw : Stmt := top 36
abbrev s_law_pick : Stmt := top 37
abbrev s_law_has : Stmt := top 38
abbrev s_law_pairs : Stmt := top 39
abbrev s_law_entries : Stmt := top 40
abbrev s_law_told : Stmt := top 41
abbrev s_law_table : Stmt := top 42
abbrev s_law_right : Stmt := top 43
abbrev s_law : Stmt := top 44
def N_is_token : List Str := ["value", "character"]
def N_is_word : List Str := ["value"]
def N_is_operator : List Str := ["value", "kind", "words", "word"]
def N_starts_operand : List Str := ["operator"]
def N_are_distinct : List Str := ["words", "word"]
def N_is_operator_list : List Str := ["value", "one", "first", "later", "word", "starting", "following"]
def N_has_left : List Str := ["operator"]
def N_has_right : List Str := ["operator"]
def N_pairs : List Str := ["operators", "right", "s", "operator", "left", "o"]
def N_is_number : List Str := ["value"]
def N_is_row : List Str := ["value", "valid"]
def N_are_entries : List Str := ["operators", "value", "valid", "pair", "one", "other"]
def N_Table___init__ : List Str := ["self", "operators", "entries", "pair", "s", "o", "value"]
def N_Table_entry : List Str := ["self", "s", "o"]
def N_joined : List Str := ["one", "other", "operators", "first", "rows", "s", "o", "entry"]
def N_law_source : List Str := ["_law_script", "_law_k", "_law_cell", "_law_digits"]
def N_law_draw : List Str := ["_law_source_here", "_law_size", "_law_digit", "_law_low", "_law_high", "_law_mixed", "_law_last"]
def N_law_pick : List Str := ["_law_source_here", "_law_some"]
def N_law_has : List Str := ["_law_operator"]
def N_law_pairs : List Str := ["_law_operators", "_law_found", "_law_s", "_law_one", "_law_o", "_law_other"]
def N_law_entries : List Str := ["_law_source_here", "_law_operators", "_law_way", "_law_numbers", "_law_one", "_law_found", "_law_s", "_law_o", "_law_entry"]
def N_law_told : List Str := ["_law_operators", "_law_entries_here", "_law_found", "_law_pair", "_law_row"]
def N_law_table : List Str := ["_law_source_here", "_law_size", "_law_sign", "_law_operators", "_law_n", "_law_kind", "_law_entries_here"]
def N_law_right : List Str := ["_law_one", "_law_told_here", "_law_other", "_law_its", "_law_many", "_law_whole", "_law_s", "_law_o", "_law_due"]
def N_law : List Str := ["_law_script", "_law_k", "_law_source_here", "_law_first", "_law_last", "_law_one", "_law_told_here", "_law_other", "_law_its", "_law_refused", "e"]
structure FS (P : Program) (w : World) (K : PySem.W.Frag) (mg : Str → Option Value) (base : Heap) (g : Gx) (k : Nat) (cl : Cll) : Prop where
  fn_is_token : FnF P w K mg base g k cl i_is_token "is_token" s_is_token ["value"]
  fn_is_word : FnF P w K mg base g k cl i_is_word "is_word" s_is_word ["value"]
  fn_is_operator : FnF P w K mg base g k cl i_is_operator "is_operator" s_is_operator ["value"]
  fn_starts_operand : FnF P w K mg base g k cl i_starts_operand "starts_operand" s_starts_operand ["operator"]
  fn_are_distinct : FnF P w K mg base g k cl i_are_distinct "are_distinct" s_are_distinct ["words"]
  fn_is_operator_list : FnF P w K mg base g k cl i_is_operator_list "is_operator_list" s_is_operator_list ["value"]
  fn_has_left : FnF P w K mg base g k cl i_has_left "has_left" s_has_left ["operator"]
  fn_has_right : FnF P w K mg base g k cl i_has_right "has_right" s_has_right ["operator"]
  fn_pairs : FnF P w K mg base g k cl i_pairs "pairs" s_pairs ["operators"]
  fn_is_number : FnF P w K mg base g k cl i_is_number "is_number" s_is_number ["value"]
  fn_is_row : FnF P w K mg base g k cl i_is_row "is_row" s_is_row ["value", "valid"]
  fn_are_entries : FnF P w K mg base g k cl i_are_entries "are_entries" s_are_entries ["operators", "value"]
  in_Table___init__ : FnI P w K mg base g k cl i_Table___init__ 0 "Table.__init__" s_Table___init__ ["self", "operators", "entries"] [.ref (He.dflAt ("Table", some "__init__") 0 K)]
  me_Table_entry : FnM P w K mg base g k cl i_Table_entry 0 "entry" "Table.entry" s_Table_entry ["self", "s", "o"]
  fn_joined : FnF P w K mg base g k cl i_joined "joined" s_joined ["one", "other"]
  fn_law_source : FnF P w K mg base g k cl i_law_source "_law_source" s_law_source ["_law_script", "_law_k"]
  fn_law_draw : FnF P w K mg base g k cl i_law_draw "_law_draw" s_law_draw ["_law_source_here", "_law_size"]
  fn_law_pick : FnF P w K mg base g k cl i_law_pick "_law_pick" s_law_pick ["_law_source_here", "_law_some"]
  fn_law_has : FnF P w K mg base g k cl i_law_has "_law_has" s_law_has ["_law_operator"]
  fn_law_pairs : FnF P w K mg base g k cl i_law_pairs "_law_pairs" s_law_pairs ["_law_operators"]
  fn_law_entries : FnF P w K mg base g k cl i_law_entries "_law_entries" s_law_entries ["_law_source_here", "_law_operators"]
  fn_law_told : FnF P w K mg base g k cl i_law_told "_law_told" s_law_told ["_law_operators", "_law_entries_here"]
  fn_law_table : FnF P w K mg base g k cl i_law_table "_law_table" s_law_table ["_law_source_here", "_law_size", "_law_sign"]
  fn_law_right : FnF P w K mg base g k cl i_law_right "_law_right" s_law_right ["_law_one", "_law_told_here", "_law_other", "_law_its"]
  fn_law : FnF P w K mg base g k cl i_law "law" s_law ["_law_script"]
  mk_Table_2 : MkF P w K mg base g k cl i_mk_Table_2 "Table" 2
  at_entries : AtX K g "entries"
  at_entry_by_pair : AtX K g "entry_by_pair"
  at_operators : AtX K g "operators"
  at_value : AtX K g "value"
  xc_BadOperators : XcF P w K mg base g 101 "BadOperators" ["value"]
  xc_BadEntries : XcF P w K mg base g 102 "BadEntries" ["value"]
  xc_NoPair : XcF P w K mg base g 103 "NoPair" ["s", "o"]
  ch_BadOperators : ChF K mg g "BadOperators" [101]
  cs_CLOSED : ∃ t, mg "CLOSED" = some (.str "closed" t)
  cs_ERROR : ∃ t, mg "ERROR" = some (.str "error" t)
  cs_GROUP_WORDS : ∃ a vs, mg "GROUP_WORDS" = some (.ref a) ∧ (∀ H, SqT g.K H a vs) ∧ ∀ μ H, RVs g μ H ((["(", ")"] : List Str).map D.str) vs
  cs_INFIX : ∃ t, mg "INFIX" = some (.str "infix" t)
  cs_KINDS : ∃ a vs, mg "KINDS" = some (.ref a) ∧ (∀ H, SqT g.K H a vs) ∧ ∀ μ H, RVs g μ H ((["closed", "infix", "postfix", "prefix"] : List Str).map D.str) vs
  cs_MOST_CHARACTERS : ∃ t, mg "MOST_CHARACTERS" = some (.int 8 t)
  cs_MOST_OPERATORS : ∃ t, mg "MOST_OPERATORS" = some (.int 12 t)
  cs_MOST_WORDS : ∃ t, mg "MOST_WORDS" = some (.int 3 t)
  cs_POSTFIX : ∃ t, mg "POSTFIX" = some (.str "postfix" t)
  cs_PREFIX : ∃ t, mg "PREFIX" = some (.str "prefix" t)
  cs_REDUCE : ∃ t, mg "REDUCE" = some (.str "reduce" t)
  cs_SHIFT : ∃ t, mg "SHIFT" = some (.str "shift" t)
  fr_abs : mg "abs" = none
  fr_all : mg "all" = none
  fr_any : mg "any" = none
  fr_bool : mg "bool" = none
  fr_dict : mg "dict" = none
  fr_enumerate : mg "enumerate" = none
  fr_int : mg "int" = none
  fr_isinstance : mg "isinstance" = none
  fr_len : mg "len" = none
  fr_min : mg "min" = none
  fr_range : mg "range" = none
  fr_str : mg "str" = none
  fr_tuple : mg "tuple" = none
  fr_zip : mg "zip" = none

theorem bd_is_token : BdF "is_token" s_is_token ["value"] := fun _ _ _ _ _ _ us hl => match us, hl with | [_], _ => rfl
theorem bd_is_word : BdF "is_word" s_is_word ["value"] := fun _ _ _ _ _ _ us hl => match us, hl with | [_], _ => rfl
theorem bd_is_operator : BdF "is_operator" s_is_operator ["value"] := fun _ _ _ _ _ _ us hl => match us, hl with | [_], _ => rfl
theorem bd_starts_operand : BdF "starts_operand" s_starts_operand ["operator"] := fun _ _ _ _ _ _ us hl => match us, hl with | [_], _ => rfl
theorem bd_are_distinct : BdF "are_distinct" s_are_distinct ["words"] := fun _ _ _ _ _ _ us hl => match us, hl with | [_], _ => rfl
theorem bd_is_operator_list : BdF "is_operator_list" s_is_operator_list ["value"] := fun _ _ _ _ _ _ us hl => match us, hl with | [_], _ => rfl
theorem bd_has_left : BdF "has_left" s_has_left ["operator"] := fun _ _ _ _ _ _ us hl => match us, hl with | [_], _ => rfl
theorem bd_has_right : BdF "has_right" s_has_right ["operator"] := fun _ _ _ _ _ _ us hl => match us, hl with | [_], _ => rfl
theorem bd_pairs : BdF "pairs" s_pairs ["operators"] := fun _ _ _ _ _ _ us hl => match us, hl with | [_], _ => rfl
theorem bd_is_number : BdF "is_number" s_is_number ["value"] := fun _ _ _ _ _ _ us hl => match us, hl with | [_], _ => rfl
theorem bd_is_row : BdF "is_row" s_is_row ["value", "valid"] := fun _ _ _ _ _ _ us hl => match us, hl with | [_, _], _ => rfl
theorem bd_are_entries : BdF "are_entries" s_are_entries ["operators", "value"] := fun _ _ _ _ _ _ us hl => match us, hl with | [_, _], _ => rfl
theorem bq_Table___init___2 : BdD "Table.__init__" s_Table___init__ ["self", "operators", "entries"] 1 3 1 := fun T _ _ _ _ _ _ us its hl hi => match us, its, hl, hi with | [_, _, _], [_], _, _ => ⟨_, rfl, rfl⟩
theorem bm_Table_entry : BdM "entry" "Table.entry" s_Table_entry ["self", "s", "o"] := fun _ _ _ _ _ _ us hl => match us, hl with | [_, _, _], _ => rfl
theorem bd_joined : BdF "joined" s_joined ["one", "other"] := fun _ _ _ _ _ _ us hl => match us, hl with | [_, _], _ => rfl
theorem bd_law_source : BdF "_law_source" s_law_source ["_law_script", "_law_k"] := fun _ _ _ _ _ _ us hl => match us, hl with | [_, _], _ => rfl
theorem bd_law_draw : BdF "_law_draw" s_law_draw ["_law_source_here", "_law_size"] := fun _ _ _ _ _ _ us hl => match us, hl with | [_, _], _ => rfl
theorem bd_law_pick : BdF "_law_pick" s_law_pick ["_law_source_here", "_law_some"] := fun _ _ _ _ _ _ us hl => match us, hl with | [_, _], _ => rfl
theorem bd_law_has : BdF "_law_has" s_law_has ["_law_operator"] := fun _ _ _ _ _ _ us hl => match us, hl with | [_], _ => rfl
theorem bd_law_pairs : BdF "_law_pairs" s_law_pairs ["_law_operators"] := fun _ _ _ _ _ _ us hl => match us, hl with | [_], _ => rfl
theorem bd_law_entries : BdF "_law_entries" s_law_entries ["_law_source_here", "_law_operators"] := fun _ _ _ _ _ _ us hl => match us, hl with | [_, _], _ => rfl
theorem bd_law_told : BdF "_law_told" s_law_told ["_law_operators", "_law_entries_here"] := fun _ _ _ _ _ _ us hl => match us, hl with | [_, _], _ => rfl
theorem bd_law_table : BdF "_law_table" s_law_table ["_law_source_here", "_law_size", "_law_sign"] := fun _ _ _ _ _ _ us hl => match us, hl with | [_, _, _], _ => rfl
theorem bd_law_right : BdF "_law_right" s_law_right ["_law_one", "_law_told_here", "_law_other", "_law_its"] := fun _ _ _ _ _ _ us hl => match us, hl with | [_, _, _, _], _ => rfl
theorem bd_law : BdF "law" s_law ["_law_script"] := fun _ _ _ _ _ _ us hl => match us, hl with | [_], _ => rfl
abbrev s_x_BadOperators : Stmt := inC (top 2) 0
theorem bx_BadOperators : BdM "__init__" "BadOperators.__init__" s_x_BadOperators ["self", "value"] := fun _ _ _ _ _ _ us hl => match us, hl with | [_, _], _ => rfl
theorem sx_BadOperators : FnScope ["self", "value"] ["self", "value"] (defScope s_x_BadOperators) := ⟨rfl, rfl, rfl, by decide +kernel, rfl, by decide +kernel, by decide +kernel⟩
theorem ix_BadOperators : IsIn "GroupingError" ["value"] (defBody s_x_BadOperators) := IsIn.mk (by decide +kernel) (.cons .nil)
abbrev s_x_BadEntries : Stmt := inC (top 3) 0
theorem bx_BadEntries : BdM "__init__" "BadEntries.__init__" s_x_BadEntries ["self", "value"] := fun _ _ _ _ _ _ us hl => match us, hl with | [_, _], _ => rfl
theorem sx_BadEntries : FnScope ["self", "value"] ["self", "value"] (defScope s_x_BadEntries) := ⟨rfl, rfl, rfl, by decide +kernel, rfl, by decide +kernel, by decide +kernel⟩
theorem ix_BadEntries : IsIn "GroupingError" ["value"] (defBody s_x_BadEntries) := IsIn.mk (by decide +kernel) (.cons .nil)
abbrev s_x_NoPair : Stmt := inC (top 4) 0
theorem bx_NoPair : BdM "__init__" "NoPair.__init__" s_x_NoPair ["self", "s", "o"] := fun _ _ _ _ _ _ us hl => match us, hl with | [_, _, _], _ => rfl
theorem sx_NoPair : FnScope ["self", "s", "o"] ["self", "s", "o"] (defScope s_x_NoPair) := ⟨rfl, rfl, rfl, by decide +kernel, rfl, by decide +kernel, by decide +kernel⟩
theorem ix_NoPair : IsIn "GroupingError" ["s", "o"] (defBody s_x_NoPair) := IsIn.mk (by decide +kernel) (.cons (.cons .nil))
theorem sc_is_token : FnScope N_is_token ["value"] (defScope s_is_token) := ⟨rfl, rfl, rfl, by decide +kernel, rfl, by decide +kernel, by decide +kernel⟩
theorem sl_is_token {g : Gx} {k : Nat} {cl : Cll} (X : Cx) (Wx : WX) (G : Good FS g k cl N_is_token (defScope s_is_token) (fun _ => true) X Wx) (hp : HP X) : QL g X Wx (defBody s_is_token) (m_is_token cl) :=
  (ql_cons (qs_if (QW.te (qw_or (qt_not (qtv (G.qf2 (by decide +kernel) G.fs.fr_isinstance (by kernel_rfl) rfl G.cisiW rfl (G.qvar 0 (by decide +kernel)) (G.qtyp (by decide +kernel) G.fs.fr_str (by kernel_rfl))) rfl)) (qw_or1 (qt_not (qt_chain G.oleW G.oleW qe_int (G.qf1 (by decide +kernel) G.fs.fr_len (by kernel_rfl) rfl G.clenW rfl (G.qvar 0 (by decide +kernel))) (G.qconI (by decide +kernel) G.fs.cs_MOST_CHARACTERS) (by rfl)))))) (ql_one (qs_ret qe_bl)) ql_nil)
    (ql_one (qs_ret (G.qf1 (by decide +kernel) G.fs.fr_all (by kernel_rfl) rfl G.callW rfl (G.qlc [("character", 1)] [1] (by decide +kernel) (by rfl) (by rfl) rfl (G.qsie (G.qvar 0 (by decide +kernel))) (fun X G => (G.qtgt 1 (by decide +kernel))) .nil (fun X G => (qe_chain G.oltW G.oleW qe_str (G.qvar 1 (by decide +kernel)) qe_str (by rfl))))))))
theorem sc_is_word : FnScope N_is_word ["value"] (defScope s_is_word) := ⟨rfl, rfl, rfl, by decide +kernel, rfl, by decide +kernel, by decide +kernel⟩
theorem sl_is_word {g : Gx} {k : Nat} {cl : Cll} (X : Cx) (Wx : WX) (G : Good FS g k cl N_is_word (defScope s_is_word) (fun _ => true) X Wx) (hp : HP X) : QL g X Wx (defBody s_is_word) (m_is_word cl) :=
  (ql_one (qs_ret (qe_and (G.qcal (by decide +kernel) G.fs.fn_is_token bd_is_token rfl rfl (qac (G.qvar 0 (by decide +kernel)) qa_nil rfl)) (qe_one (qe_cmp G.oniW (G.qvar 0 (by decide +kernel)) (G.qconT (by decide +kernel) G.fs.cs_GROUP_WORDS) (by rfl))))))
theorem sc_is_operator : FnScope N_is_operator ["value"] (defScope s_is_operator) := ⟨rfl, rfl, rfl, by decide +kernel, rfl, by decide +kernel, by decide +kernel⟩
theorem sl_is_operator {g : Gx} {k : Nat} {cl : Cll} (X : Cx) (Wx : WX) (G : Good FS g k cl N_is_operator (defScope s_is_operator) (fun _ => true) X Wx) (hp : HP X) : QL g X Wx (defBody s_is_operator) (m_is_operator cl) :=
  (ql_cons (qs_if (QW.te (qw_or (qt_not (qtv (G.qf2 (by decide +kernel) G.fs.fr_isinstance (by kernel_rfl) rfl G.cisiW rfl (G.qvar 0 (by decide +kernel)) (G.qtyp (by decide +kernel) G.fs.fr_tuple (by kernel_rfl))) rfl)) (qw_or (qt_cmp G.oneW (G.qf1 (by decide +kernel) G.fs.fr_len (by kernel_rfl) rfl G.clenW rfl (G.qvar 0 (by decide +kernel))) qe_int (by rfl)) (qw_or (qt_not (qtv (G.qf2 (by decide +kernel) G.fs.fr_isinstance (by kernel_rfl) rfl G.cisiW rfl (G.qix (G.qvar 0 (by decide +kernel)) qe_int rfl) (G.qtyp (by decide +kernel) G.fs.fr_str (by kernel_rfl))) rfl)) (qw_or1 (qt_cmp G.oniW (G.qix (G.qvar 0 (by decide +kernel)) qe_int rfl) (G.qconT (by decide +kernel) G.fs.cs_KINDS) (by rfl))))))) (ql_one (qs_ret qe_bl)) ql_nil)
    (ql_cons (qasgTup (G.qvar 0 (by decide +kernel)) (G.qtup (qgc (G.qtgt 1 (by decide +kernel)) (qgc (G.qtgt 2 (by decide +kernel)) qgs_nil rfl) rfl) rfl rfl) rfl rfl)
    (ql_cons (qs_if (QW.te (qw_or (qt_not (qtv (G.qf2 (by decide +kernel) G.fs.fr_isinstance (by kernel_rfl) rfl G.cisiW rfl (G.qvar 2 (by decide +kernel)) (G.qtyp (by decide +kernel) G.fs.fr_tuple (by kernel_rfl))) rfl)) (qw_or1 (qt_not (qtv (G.qf1 (by decide +kernel) G.fs.fr_all (by kernel_rfl) rfl G.callW rfl (G.qlc [("word", 3)] [3] (by decide +kernel) (by rfl) (by rfl) rfl (G.qsie (G.qvar 2 (by decide +kernel))) (fun X G => (G.qtgt 3 (by decide +kernel))) .nil (fun X G => (G.qcal (by decide +kernel) G.fs.fn_is_word bd_is_word rfl rfl (qac (G.qvar 3 (by decide +kernel)) qa_nil rfl))))) rfl))))) (ql_one (qs_ret qe_bl)) ql_nil)
    (ql_one (qs_ret (qe_chain G.oleW G.oleW (qe_ife (qt_cmp G.oeqW (G.qvar 1 (by decide +kernel)) (G.qconS (by decide +kernel) G.fs.cs_CLOSED) (by rfl)) qe_int qe_int) (G.qf1 (by decide +kernel) G.fs.fr_len (by kernel_rfl) rfl G.clenW rfl (G.qvar 2 (by decide +kernel))) (G.qconI (by decide +kernel) G.fs.cs_MOST_WORDS) (by rfl)))))))
theorem sc_starts_operand : FnScope N_starts_operand ["operator"] (defScope s_starts_operand) := ⟨rfl, rfl, rfl, by decide +kernel, rfl, by decide +kernel, by decide +kernel⟩
theorem sl_starts_operand {g : Gx} {k : Nat} {cl : Cll} (X : Cx) (Wx : WX) (G : Good FS g k cl N_starts_operand (defScope s_starts_operand) (fun _ => true) X Wx) (hp : HP X) : QL g X Wx (defBody s_starts_operand) (m_starts_operand cl) :=
  (ql_one (qs_ret (qe_cmp G.oinW (G.qix (G.qvar 0 (by decide +kernel)) qe_int rfl) (qe_tup (qac (G.qconS (by decide +kernel) G.fs.cs_PREFIX) (qac (G.qconS (by decide +kernel) G.fs.cs_CLOSED) qa_nil rfl) rfl)) (by rfl))))
theorem sc_are_distinct : FnScope N_are_distinct ["words"] (defScope s_are_distinct) := ⟨rfl, rfl, rfl, by decide +kernel, rfl, by decide +kernel, by decide +kernel⟩
theorem sl_are_distinct {g : Gx} {k : Nat} {cl : Cll} (X : Cx) (Wx : WX) (G : Good FS g k cl N_are_distinct (defScope s_are_distinct) (fun _ => true) X Wx) (hp : HP X) : QL g X Wx (defBody s_are_distinct) (m_are_distinct cl) :=
  (ql_one (qs_ret (qe_cmp G.oeqW (G.qf1 (by decide +kernel) G.fs.fr_len (by kernel_rfl) rfl G.clenW rfl (G.qvar 0 (by decide +kernel))) (G.qf1 (by decide +kernel) G.fs.fr_len (by kernel_rfl) rfl G.clenW rfl (G.qdc kK_ok [("word", 1)] [1] (by decide +kernel) (by rfl) (by rfl) rfl (G.qsie (G.qvar 0 (by decide +kernel))) (fun X G => (G.qtgt 1 (by decide +kernel))) .nil (fun X G => (G.qvar 1 (by decide +kernel))) (fun X G => qe_bl))) (by rfl))))
theorem sc_is_operator_list : FnScope N_is_operator_list ["value"] (defScope s_is_operator_list) := ⟨rfl, rfl, rfl, by decide +kernel, rfl, by decide +kernel, by decide +kernel⟩
theorem sl_is_operator_list {g : Gx} {k : Nat} {cl : Cll} (X : Cx) (Wx : WX) (G : Good FS g k cl N_is_operator_list (defScope s_is_operator_list) (fun _ => true) X Wx) (hp : HP X) : QL g X Wx (defBody s_is_operator_list) (m_is_operator_list cl) :=
  (ql_cons (qs_if (QW.te (qw_or (qt_not (qtv (G.qf2 (by decide +kernel) G.fs.fr_isinstance (by kernel_rfl) rfl G.cisiW rfl (G.qvar 0 (by decide +kernel)) (G.qtyp (by decide +kernel) G.fs.fr_tuple (by kernel_rfl))) rfl)) (qw_or (qt_cmp G.ogtW (G.qf1 (by decide +kernel) G.fs.fr_len (by kernel_rfl) rfl G.clenW rfl (G.qvar 0 (by decide +kernel))) (G.qconI (by decide +kernel) G.fs.cs_MOST_OPERATORS) (by rfl)) (qw_or1 (qt_not (qtv (G.qf1 (by decide +kernel) G.fs.fr_all (by kernel_rfl) rfl G.callW rfl (G.qlc [("one", 1)] [1] (by decide +kernel) (by rfl) (by rfl) rfl (G.qsie (G.qvar 0 (by decide +kernel))) (fun X G => (G.qtgt 1 (by decide +kernel))) .nil (fun X G => (G.qcal (by decide +kernel) G.fs.fn_is_operator bd_is_operator rfl rfl (qac (G.qvar 1 (by decide +kernel)) qa_nil rfl))))) rfl)))))) (ql_one (qs_ret qe_bl)) ql_nil)
    (ql_cons (G.qasgN (G.qlc [("one", 1)] [1] (by decide +kernel) (by rfl) (by rfl) rfl (G.qsie (G.qvar 0 (by decide +kernel))) (fun X G => (G.qtgt 1 (by decide +kernel))) .nil (fun X G => (G.qix (G.qix (G.qvar 1 (by decide +kernel)) qe_int rfl) qe_int rfl))) (G.qtgt 2 (by decide +kernel)) (by kernel_rfl))
    (ql_cons (G.qsetLc2 3 [("one", 1), ("word", 4)] [1, 4] [4] (by decide +kernel) (by decide +kernel) (by decide +kernel) (by rfl) (by rfl) (by rfl) (by rfl) rfl rfl (G.qsie (G.qvar 0 (by decide +kernel))) (fun X G => (G.qtgt 1 (by decide +kernel))) .nil (fun X G => (G.qsie (G.qsl (G.qix (G.qvar 1 (by decide +kernel)) qe_int rfl) (qp_some qe_int) qp_none))) (fun X G => (G.qtgt 4 (by decide +kernel))) .nil (fun X G => (G.qvar 4 (by decide +kernel))))
    (ql_cons (qs_if (QW.te (qw_or (qt_not (qtv (G.qcal (by decide +kernel) G.fs.fn_are_distinct bd_are_distinct rfl rfl (qac (G.qvar 3 (by decide +kernel)) qa_nil rfl)) rfl)) (qw_or1 (qtv (G.qf1 (by decide +kernel) G.fs.fr_any (by kernel_rfl) rfl G.canyW rfl (G.qlc [("word", 4)] [4] (by decide +kernel) (by rfl) (by rfl) rfl (G.qsie (G.qvar 3 (by decide +kernel))) (fun X G => (G.qtgt 4 (by decide +kernel))) .nil (fun X G => (qe_cmp G.oinW (G.qvar 4 (by decide +kernel)) (G.qvar 2 (by decide +kernel)) (by rfl))))) rfl)))) (ql_one (qs_ret qe_bl)) ql_nil)
    (ql_cons (G.qsetLc 5 [("one", 1)] [1] (by decide +kernel) (by decide +kernel) (by decide +kernel) (by rfl) (by rfl) rfl (G.qsie (G.qvar 0 (by decide +kernel))) (fun X G => (G.qtgt 1 (by decide +kernel))) (.one (fun X G => (qtv (G.qcal (by decide +kernel) G.fs.fn_starts_operand bd_starts_operand rfl rfl (qac (G.qvar 1 (by decide +kernel)) qa_nil rfl)) rfl))) (fun X G => (G.qix (G.qix (G.qvar 1 (by decide +kernel)) qe_int rfl) qe_int rfl)))
    (ql_cons (G.qsetLc 6 [("one", 1)] [1] (by decide +kernel) (by decide +kernel) (by decide +kernel) (by rfl) (by rfl) rfl (G.qsie (G.qvar 0 (by decide +kernel))) (fun X G => (G.qtgt 1 (by decide +kernel))) (.one (fun X G => (qt_not (qtv (G.qcal (by decide +kernel) G.fs.fn_starts_operand bd_starts_operand rfl rfl (qac (G.qvar 1 (by decide +kernel)) qa_nil rfl)) rfl)))) (fun X G => (G.qix (G.qix (G.qvar 1 (by decide +kernel)) qe_int rfl) qe_int rfl)))
    (ql_one (qs_ret (qe_and (G.qcal (by decide +kernel) G.fs.fn_are_distinct bd_are_distinct rfl rfl (qac (G.qvar 5 (by decide +kernel)) qa_nil rfl)) (qe_one (G.qcal (by decide +kernel) G.fs.fn_are_distinct bd_are_distinct rfl rfl (qac (G.qvar 6 (by decide +kernel)) qa_nil rfl))))))))))))
theorem sc_has_left : FnScope N_has_left ["operator"] (defScope s_has_left) := ⟨rfl, rfl, rfl, by decide +kernel, rfl, by decide +kernel, by decide +kernel⟩
theorem sl_has_left {g : Gx} {k : Nat} {cl : Cll} (X : Cx) (Wx : WX) (G : Good FS g k cl N_has_left (defScope s_has_left) (fun _ => true) X Wx) (hp : HP X) : QL g X Wx (defBody s_has_left) (m_has_left cl) :=
  (ql_one (qs_ret (qe_cmp G.oinW (G.qix (G.qvar 0 (by decide +kernel)) qe_int rfl) (qe_tup (qac (G.qconS (by decide +kernel) G.fs.cs_INFIX) (qac (G.qconS (by decide +kernel) G.fs.cs_POSTFIX) qa_nil rfl) rfl)) (by rfl))))
theorem sc_has_right : FnScope N_has_right ["operator"] (defScope s_has_right) := ⟨rfl, rfl, rfl, by decide +kernel, rfl, by decide +kernel, by decide +kernel⟩
theorem sl_has_right {g : Gx} {k : Nat} {cl : Cll} (X : Cx) (Wx : WX) (G : Good FS g k cl N_has_right (defScope s_has_right) (fun _ => true) X Wx) (hp : HP X) : QL g X Wx (defBody s_has_right) (m_has_right cl) :=
  (ql_one (qs_ret (qe_cmp G.oinW (G.qix (G.qvar 0 (by decide +kernel)) qe_int rfl) (qe_tup (qac (G.qconS (by decide +kernel) G.fs.cs_INFIX) (qac (G.qconS (by decide +kernel) G.fs.cs_PREFIX) qa_nil rfl) rfl)) (by rfl))))
theorem sc_pairs : FnScope N_pairs ["operators"] (defScope s_pairs) := ⟨rfl, rfl, rfl, by decide +kernel, rfl, by decide +kernel, by decide +kernel⟩
theorem sl_pairs {g : Gx} {k : Nat} {cl : Cll} (X : Cx) (Wx : WX) (G : Good FS g k cl N_pairs (defScope s_pairs) (fun _ => true) X Wx) (hp : HP X) : QL g X Wx (defBody s_pairs) (m_pairs cl) :=
  (ql_cons (G.qsetLc 1 [("s", 2), ("operator", 3)] [2, 3] (by decide +kernel) (by decide +kernel) (by decide +kernel) (by rfl) (by rfl) rfl (G.qen (by decide +kernel) G.fs.fr_enumerate rfl (G.qvar 0 (by decide +kernel))) (fun X G => (G.qtup (qgc (G.qtgt 2 (by decide +kernel)) (qgc (G.qtgt 3 (by decide +kernel)) qgs_nil rfl) rfl) rfl rfl)) (.one (fun X G => (qtv (G.qcal (by decide +kernel) G.fs.fn_has_right bd_has_right rfl rfl (qac (G.qvar 3 (by decide +kernel)) qa_nil rfl)) rfl))) (fun X G => (G.qvar 2 (by decide +kernel))))
    (ql_cons (G.qasgN (G.qlc [("o", 5), ("operator", 3)] [5, 3] (by decide +kernel) (by rfl) (by rfl) rfl (G.qen (by decide +kernel) G.fs.fr_enumerate rfl (G.qvar 0 (by decide +kernel))) (fun X G => (G.qtup (qgc (G.qtgt 5 (by decide +kernel)) (qgc (G.qtgt 3 (by decide +kernel)) qgs_nil rfl) rfl) rfl rfl)) (.one (fun X G => (qtv (G.qcal (by decide +kernel) G.fs.fn_has_left bd_has_left rfl rfl (qac (G.qvar 3 (by decide +kernel)) qa_nil rfl)) rfl))) (fun X G => (G.qvar 5 (by decide +kernel)))) (G.qtgt 4 (by decide +kernel)) (by kernel_rfl))
    (ql_one (qs_ret (G.qf1 (by decide +kernel) G.fs.fr_tuple (by kernel_rfl) rfl G.ctupleW rfl (G.qlc2 [("s", 2), ("o", 5)] [2, 5] [5] (by decide +kernel) (by rfl) (by rfl) (by rfl) (by rfl) rfl rfl (G.qsie (G.qvar 1 (by decide +kernel))) (fun X G => (G.qtgt 2 (by decide +kernel))) .nil (fun X G => (G.qsie (G.qvar 4 (by decide +kernel)))) (fun X G => (G.qtgt 5 (by decide +kernel))) .nil (fun X G => (qe_tup (qac (G.qvar 2 (by decide +kernel)) (qac (G.qvar 5 (by decide +kernel)) qa_nil rfl) rfl)))))))))
theorem sc_is_number : FnScope N_is_number ["value"] (defScope s_is_number) := ⟨rfl, rfl, rfl, by decide +kernel, rfl, by decide +kernel, by decide +kernel⟩
theorem sl_is_number {g : Gx} {k : Nat} {cl : Cll} (X : Cx) (Wx : WX) (G : Good FS g k cl N_is_number (defScope s_is_number) (fun _ => true) X Wx) (hp : HP X) : QL g X Wx (defBody s_is_number) (m_is_number cl) :=
  (ql_one (qs_ret (qe_and (G.qf2 (by decide +kernel) G.fs.fr_isinstance (by kernel_rfl) rfl G.cisiW rfl (G.qvar 0 (by decide +kernel)) (G.qtyp (by decide +kernel) G.fs.fr_int (by kernel_rfl))) (qe_and (qe_not (G.qf2 (by decide +kernel) G.fs.fr_isinstance (by kernel_rfl) rfl G.cisiW rfl (G.qvar 0 (by decide +kernel)) (G.qtyp (by decide +kernel) G.fs.fr_bool (by kernel_rfl)))) (qe_one (qe_cmp G.ogeW (G.qvar 0 (by decide +kernel)) qe_int (by rfl)))))))
theorem sc_is_row : FnScope N_is_row ["value", "valid"] (defScope s_is_row) := ⟨rfl, rfl, rfl, by decide +kernel, rfl, by decide +kernel, by decide +kernel⟩
theorem sl_is_row {g : Gx} {k : Nat} {cl : Cll} (X : Cx) (Wx : WX) (G : Good FS g k cl N_is_row (defScope s_is_row) (fun _ => true) X Wx) (hp : HP X) : QL g X Wx (defBody s_is_row) (m_is_row cl) :=
  (ql_cons (qs_if (QW.te (qw_or (qt_not (qtv (G.qf2 (by decide +kernel) G.fs.fr_isinstance (by kernel_rfl) rfl G.cisiW rfl (G.qvar 0 (by decide +kernel)) (G.qtyp (by decide +kernel) G.fs.fr_tuple (by kernel_rfl))) rfl)) (qw_or (qt_cmp G.oneW (G.qf1 (by decide +kernel) G.fs.fr_len (by kernel_rfl) rfl G.clenW rfl (G.qvar 0 (by decide +kernel))) qe_int (by rfl)) (qw_or (qt_not (qtv (G.qcal (by decide +kernel) G.fs.fn_is_number bd_is_number rfl rfl (qac (G.qix (G.qvar 0 (by decide +kernel)) qe_int rfl) qa_nil rfl)) rfl)) (qw_or1 (qt_not (qtv (G.qcal (by decide +kernel) G.fs.fn_is_number bd_is_number rfl rfl (qac (G.qix (G.qvar 0 (by decide +kernel)) qe_int rfl) qa_nil rfl)) rfl))))))) (ql_one (qs_ret qe_bl)) ql_nil)
    (ql_one (qs_ret (qe_and (qe_cmp G.oinW (G.qsl (G.qvar 0 (by decide +kernel)) qp_none (qp_some qe_int)) (G.qvar 1 (by decide +kernel)) (by rfl)) (qe_and (G.qf2 (by decide +kernel) G.fs.fr_isinstance (by kernel_rfl) rfl G.cisiW rfl (G.qix (G.qvar 0 (by decide +kernel)) qe_int rfl) (G.qtyp (by decide +kernel) G.fs.fr_str (by kernel_rfl))) (qe_one (qe_cmp G.oinW (G.qix (G.qvar 0 (by decide +kernel)) qe_int rfl) (qe_tup (qac (G.qconS (by decide +kernel) G.fs.cs_REDUCE) (qac (G.qconS (by decide +kernel) G.fs.cs_SHIFT) qa_nil rfl) rfl)) (by rfl))))))))
theorem sc_are_entries : FnScope N_are_entries ["operators", "value"] (defScope s_are_entries) := ⟨rfl, rfl, rfl, by decide +kernel, rfl, by decide +kernel, by decide +kernel⟩
theorem sl_are_entries {g : Gx} {k : Nat} {cl : Cll} (X : Cx) (Wx : WX) (G : Good FS g k cl N_are_entries (defScope s_are_entries) (fun _ => true) X Wx) (hp : HP X) : QL g X Wx (defBody s_are_entries) (m_are_entries cl) :=
  (ql_cons (G.qasgN (G.qdc kT_ok [("pair", 3)] [3] (by decide +kernel) (by rfl) (by rfl) rfl (G.qsie (G.qcal (by decide +kernel) G.fs.fn_pairs bd_pairs rfl rfl (qac (G.qvar 0 (by decide +kernel)) qa_nil rfl))) (fun X G => (G.qtgt 3 (by decide +kernel))) .nil (fun X G => (G.qvar 3 (by decide +kernel))) (fun X G => qe_bl)) (G.qtgt 2 (by decide +kernel)) (by kernel_rfl))
    (ql_cons (qs_if (QW.te (qw_or (qt_not (qtv (G.qf2 (by decide +kernel) G.fs.fr_isinstance (by kernel_rfl) rfl G.cisiW rfl (G.qvar 1 (by decide +kernel)) (G.qtyp (by decide +kernel) G.fs.fr_tuple (by kernel_rfl))) rfl)) (qw_or1 (qt_not (qtv (G.qf1 (by decide +kernel) G.fs.fr_all (by kernel_rfl) rfl G.callW rfl (G.qlc [("one", 4)] [4] (by decide +kernel) (by rfl) (by rfl) rfl (G.qsie (G.qvar 1 (by decide +kernel))) (fun X G => (G.qtgt 4 (by decide +kernel))) .nil (fun X G => (G.qcal (by decide +kernel) G.fs.fn_is_row bd_is_row rfl rfl (qac (G.qvar 4 (by decide +kernel)) (qac (G.qvar 2 (by decide +kernel)) qa_nil rfl) rfl))))) rfl))))) (ql_one (qs_ret qe_bl)) ql_nil)
    (ql_one (qs_ret (G.qf1 (by decide +kernel) G.fs.fr_all (by kernel_rfl) rfl G.callW rfl (G.qlc [("one", 4), ("other", 5)] [4, 5] (by decide +kernel) (by rfl) (by rfl) rfl (G.qzp (by decide +kernel) G.fs.fr_zip rfl (G.qvar 1 (by decide +kernel)) (G.qsl (G.qvar 1 (by decide +kernel)) (qp_some qe_int) qp_none)) (fun X G => (G.qtup (qgc (G.qtgt 4 (by decide +kernel)) (qgc (G.qtgt 5 (by decide +kernel)) qgs_nil rfl) rfl) rfl rfl)) .nil (fun X G => (qe_cmp G.oltW (G.qsl (G.qvar 4 (by decide +kernel)) qp_none (qp_some qe_int)) (G.qsl (G.qvar 5 (by decide +kernel)) qp_none (qp_some qe_int)) (by rfl)))))))))
theorem sc_Table___init__ : FnScope N_Table___init__ ["self", "operators", "entries"] (defScope s_Table___init__) := ⟨rfl, rfl, rfl, by decide +kernel, rfl, by decide +kernel, by decide +kernel⟩
theorem sl_Table___init__ {g : Gx} {k : Nat} {cl : Cll} (X : Cx) (Wx : WX) (G : Good FS g k cl N_Table___init__ (defScope s_Table___init__) (fun _ => true) X Wx) (hp : HP X) : QL g X Wx (defBody s_Table___init__) (m_Table___init__ cl) :=
  (ql_cons (qs_if (qt_not (qtv (G.qcal (by decide +kernel) G.fs.fn_is_operator_list bd_is_operator_list rfl rfl (qac (G.qvar 1 (by decide +kernel)) qa_nil rfl)) rfl)) (ql_one (G.qraise (by decide +kernel) G.fs.xc_BadOperators rfl (qac (G.qvar 1 (by decide +kernel)) qa_nil rfl))) ql_nil)
    (ql_cons (qs_if (qt_not (qtv (G.qcal (by decide +kernel) G.fs.fn_are_entries bd_are_entries rfl rfl (qac (G.qvar 1 (by decide +kernel)) (qac (G.qvar 2 (by decide +kernel)) qa_nil rfl) rfl)) rfl)) (ql_one (G.qraise (by decide +kernel) G.fs.xc_BadEntries rfl (qac (G.qvar 2 (by decide +kernel)) qa_nil rfl))) ql_nil)
    (ql_cons (G.qsfld G.fs.at_operators.1 (G.qvar 0 (by decide +kernel)) (G.qvar 1 (by decide +kernel)) rfl)
    (ql_cons (G.qsfld G.fs.at_entries.1 (G.qvar 0 (by decide +kernel)) (G.qvar 2 (by decide +kernel)) rfl)
    (ql_cons (G.qsfldN G.fs.at_entry_by_pair.1 (G.qvar 0 (by decide +kernel)) (G.qdc kT_ok [("pair", 3)] [3] (by decide +kernel) (by rfl) (by rfl) rfl (G.qsie (G.qcal (by decide +kernel) G.fs.fn_pairs bd_pairs rfl rfl (qac (G.qvar 1 (by decide +kernel)) qa_nil rfl))) (fun X G => (G.qtgt 3 (by decide +kernel))) .nil (fun X G => (G.qvar 3 (by decide +kernel))) (fun X G => (G.qconS (by decide +kernel) G.fs.cs_ERROR))) (by kernel_rfl))
    (ql_one (qsf hp.p G (G.qsie (G.qvar 2 (by decide +kernel))) (G.qtup (qgc (G.qtgt 4 (by decide +kernel)) (qgc (G.qtgt 5 (by decide +kernel)) (qgc (G.qtgt 6 (by decide +kernel)) qgs_nil rfl) rfl) rfl) rfl rfl) (ql_one (G.qsub (G.qvar 6 (by decide +kernel)) (G.qfldX G.fs.at_entry_by_pair rfl (G.qvar 0 (by decide +kernel))) (qe_tup (qac (G.qvar 4 (by decide +kernel)) (qac (G.qvar 5 (by decide +kernel)) qa_nil rfl) rfl)) rfl rfl)) rfl)))))))
theorem sc_Table_entry : FnScope N_Table_entry ["self", "s", "o"] (defScope s_Table_entry) := ⟨rfl, rfl, rfl, by decide +kernel, rfl, by decide +kernel, by decide +kernel⟩
theorem sl_Table_entry {g : Gx} {k : Nat} {cl : Cll} (X : Cx) (Wx : WX) (G : Good FS g k cl N_Table_entry (defScope s_Table_entry) (fun _ => true) X Wx) (hp : HP X) : QL g X Wx (defBody s_Table_entry) (m_Table_entry cl) :=
  (ql_cons (qs_if (QW.te (qw_or (qt_not (qtv (G.qcal (by decide +kernel) G.fs.fn_is_number bd_is_number rfl rfl (qac (G.qvar 1 (by decide +kernel)) qa_nil rfl)) rfl)) (qw_or (qt_not (qtv (G.qcal (by decide +kernel) G.fs.fn_is_number bd_is_number rfl rfl (qac (G.qvar 2 (by decide +kernel)) qa_nil rfl)) rfl)) (qw_or1 (qt_cmp G.oniW (qe_tup (qac (G.qvar 1 (by decide +kernel)) (qac (G.qvar 2 (by decide +kernel)) qa_nil rfl) rfl)) (G.qfldX G.fs.at_entry_by_pair rfl (G.qvar 0 (by decide +kernel))) (by rfl)))))) (ql_one (G.qraise (by decide +kernel) G.fs.xc_NoPair rfl (qac (G.qvar 1 (by decide +kernel)) (qac (G.qvar 2 (by decide +kernel)) qa_nil rfl) rfl))) ql_nil)
    (ql_one (qs_ret (G.qix (G.qfldX G.fs.at_entry_by_pair rfl (G.qvar 0 (by decide +kernel))) (qe_tup (qac (G.qvar 1 (by decide +kernel)) (qac (G.qvar 2 (by decide +kernel)) qa_nil rfl) rfl)) rfl))))
theorem sc_joined : FnScope N_joined ["one", "other"] (defScope s_joined) := ⟨rfl, rfl, rfl, by decide +kernel, rfl, by decide +kernel, by decide +kernel⟩
theorem sl_joined {g : Gx} {k : Nat} {cl : Cll} (X : Cx) (Wx : WX) (G : Good FS g k cl N_joined (defScope s_joined) (fun _ => true) X Wx) (hp : HP X) : QL g X Wx (defBody s_joined) (m_joined cl) :=
  (ql_cons (qasgName (qe_bin G.oaddW (G.qfldX G.fs.at_operators rfl (G.qvar 0 (by decide +kernel))) (G.qfldX G.fs.at_operators rfl (G.qvar 1 (by decide +kernel)))) (G.qtgt 2 (by decide +kernel)) rfl)
    (ql_cons (qs_if (qt_not (qtv (G.qcal (by decide +kernel) G.fs.fn_is_operator_list bd_is_operator_list rfl rfl (qac (G.qvar 2 (by decide +kernel)) qa_nil rfl)) rfl)) (ql_one (G.qraise (by decide +kernel) G.fs.xc_BadOperators rfl (qac (G.qvar 2 (by decide +kernel)) qa_nil rfl))) ql_nil)
    (ql_cons (qasgName (G.qf1 (by decide +kernel) G.fs.fr_len (by kernel_rfl) rfl G.clenW rfl (G.qfldX G.fs.at_operators rfl (G.qvar 0 (by decide +kernel)))) (G.qtgt 3 (by decide +kernel)) rfl)
    (ql_cons (G.qsetLc 4 [("s", 5), ("o", 6), ("entry", 7)] [5, 6, 7] (by decide +kernel) (by decide +kernel) (by decide +kernel) (by rfl) (by rfl) rfl (G.qsie (G.qfldX G.fs.at_entries rfl (G.qvar 1 (by decide +kernel)))) (fun X G => (G.qtup (qgc (G.qtgt 5 (by decide +kernel)) (qgc (G.qtgt 6 (by decide +kernel)) (qgc (G.qtgt 7 (by decide +kernel)) qgs_nil rfl) rfl) rfl) rfl rfl)) .nil (fun X G => (qe_tup (qac (qe_bin G.oaddW (G.qvar 5 (by decide +kernel)) (G.qvar 3 (by decide +kernel))) (qac (qe_bin G.oaddW (G.qvar 6 (by decide +kernel)) (G.qvar 3 (by decide +kernel))) (qac (G.qvar 7 (by decide +kernel)) qa_nil rfl) rfl) rfl))))
    (ql_one (qs_ret (G.qmk (by decide +kernel) G.fs.mk_Table_2 rfl rfl (qac (G.qvar 2 (by decide +kernel)) (qac (qe_bin G.oaddW (G.qfldX G.fs.at_entries rfl (G.qvar 0 (by decide +kernel))) (G.qf1 (by decide +kernel) G.fs.fr_tuple (by kernel_rfl) rfl G.ctupleW rfl (G.qvar 4 (by decide +kernel)))) qa_nil rfl) rfl))))))))
theorem sc_law_source : FnScope N_law_source ["_law_script", "_law_k"] (defScope s_law_source) := ⟨rfl, rfl, rfl, by decide +kernel, rfl, by decide +kernel, by decide +kernel⟩
theorem sl_law_source {g : Gx} {k : Nat} {cl : Cll} (X : Cx) (Wx : WX) (G : Good FS g k cl N_law_source (defScope s_law_source) (fun _ => true) X Wx) (hp : HP X) : QL g X Wx (defBody s_law_source) (m_law_source cl) :=
  (ql_cons (qasgName (qe_ife (qt_cmp G.oltW (G.qvar 1 (by decide +kernel)) (G.qf1 (by decide +kernel) G.fs.fr_len (by kernel_rfl) rfl G.clenW rfl (G.qvar 0 (by decide +kernel))) (by rfl)) (G.qix (G.qvar 0 (by decide +kernel)) (G.qvar 1 (by decide +kernel)) rfl) qe_int) (G.qtgt 2 (by decide +kernel)) rfl)
    (ql_cons (qasgName (qe_ife (qt_cmp G.ogeW (G.qf1 (by decide +kernel) G.fs.fr_abs (by kernel_rfl) rfl G.cabsW rfl (G.qvar 2 (by decide +kernel))) (qe_bin G.opowW qe_int qe_int) (by rfl)) (qe_bin G.omodW (G.qf1 (by decide +kernel) G.fs.fr_abs (by kernel_rfl) rfl G.cabsW rfl (G.qvar 2 (by decide +kernel))) (qe_bin G.opowW (qe_bin G.opowW qe_int qe_int) qe_int)) qe_int) (G.qtgt 3 (by decide +kernel)) rfl)
    (ql_one (qs_ret (qe_lst (qac (G.qvar 3 (by decide +kernel)) (qac (qe_bin G.omodW (qe_bin G.oaddW (qe_bin G.oaddW (qe_bin G.omulW (qe_bin G.omodW (G.qvar 2 (by decide +kernel)) qe_int) qe_int) (qe_bin G.omulW (qe_bin G.omulW qe_int (G.qvar 1 (by decide +kernel))) (G.qvar 1 (by decide +kernel)))) qe_int) qe_int) (qac qe_int qa_nil rfl) rfl) rfl))))))
theorem sc_law_draw : FnScope N_law_draw ["_law_source_here", "_law_size"] (defScope s_law_draw) := ⟨rfl, rfl, rfl, by decide +kernel, rfl, by decide +kernel, by decide +kernel⟩
theorem sl_law_draw {g : Gx} {k : Nat} {cl : Cll} (X : Cx) (Wx : WX) (G : Good FS g k cl N_law_draw (defScope s_law_draw) (fun _ => true) X Wx) (hp : HP X) : QL g X Wx (defBody s_law_draw) (m_law_draw cl) :=
  (ql_cons (qs_if (qt_cmp G.ogtW (G.qix (G.qvar 0 (by decide +kernel)) qe_int rfl) qe_int (by rfl)) (ql_cons (qasgName (qe_bin G.omodW (G.qix (G.qvar 0 (by decide +kernel)) qe_int rfl) (G.qvar 1 (by decide +kernel))) (G.qtgt 2 (by decide +kernel)) rfl)
    (ql_cons (G.qsub (qe_bin G.ofdivW (G.qix (G.qvar 0 (by decide +kernel)) qe_int rfl) (G.qvar 1 (by decide +kernel))) (G.qvar 0 (by decide +kernel)) qe_int rfl rfl)
    (ql_one (qs_ret (G.qvar 2 (by decide +kernel)))))) ql_nil)
    (ql_cons (G.qsub (qe_bin G.oaddW (G.qix (G.qvar 0 (by decide +kernel)) qe_int rfl) qe_int) (G.qvar 0 (by decide +kernel)) qe_int rfl rfl)
    (ql_cons (qasgName (qe_bin G.oaddW (G.qix (G.qvar 0 (by decide +kernel)) qe_int rfl) (qe_bin G.omulW qe_int (G.qix (G.qvar 0 (by decide +kernel)) qe_int rfl))) (G.qtgt 3 (by decide +kernel)) rfl)
    (ql_cons (qasgName (qe_bin G.oaddW (qe_bin G.oaddW (qe_bin G.omodW (G.qix (G.qvar 0 (by decide +kernel)) qe_int rfl) qe_int) (qe_bin G.omulW qe_int (G.qix (G.qvar 0 (by decide +kernel)) qe_int rfl))) qe_int) (G.qtgt 4 (by decide +kernel)) rfl)
    (ql_cons (qasgName (qe_bin G.omodW (qe_bin G.omulW (G.qvar 3 (by decide +kernel)) (G.qvar 4 (by decide +kernel))) qe_int) (G.qtgt 5 (by decide +kernel)) rfl)
    (ql_cons (qasgName (qe_bin G.oaddW (qe_bin G.oaddW (qe_bin G.omodW (G.qvar 5 (by decide +kernel)) qe_int) (qe_bin G.omulW qe_int (G.qix (G.qvar 0 (by decide +kernel)) qe_int rfl))) qe_int) (G.qtgt 6 (by decide +kernel)) rfl)
    (ql_one (qs_ret (qe_bin G.omodW (qe_bin G.ofdivW (qe_bin G.omodW (qe_bin G.omulW (qe_bin G.oaddW (G.qvar 5 (by decide +kernel)) qe_int) (G.qvar 6 (by decide +kernel))) qe_int) qe_int) (G.qvar 1 (by decide +kernel)))))))))))
theorem sc_law_pick : FnScope N_law_pick ["_law_source_here", "_law_some"] (defScope s_law_pick) := ⟨rfl, rfl, rfl, by decide +kernel, rfl, by decide +kernel, by decide +kernel⟩
theorem sl_law_pick {g : Gx} {k : Nat} {cl : Cll} (X : Cx) (Wx : WX) (G : Good FS g k cl N_law_pick (defScope s_law_pick) (fun _ => true) X Wx) (hp : HP X) : QL g X Wx (defBody s_law_pick) (m_law_pick cl) :=
  (ql_one (qs_ret (G.qix (G.qvar 1 (by decide +kernel)) (G.qcal (by decide +kernel) G.fs.fn_law_draw bd_law_draw rfl rfl (qac (G.qvar 0 (by decide +kernel)) (qac (G.qf1 (by decide +kernel) G.fs.fr_len (by kernel_rfl) rfl G.clenW rfl (G.qvar 1 (by decide +kernel))) qa_nil rfl) rfl)) rfl)))
theorem sc_law_has : FnScope N_law_has ["_law_operator"] (defScope s_law_has) := ⟨rfl, rfl, rfl, by decide +kernel, rfl, by decide +kernel, by decide +kernel⟩
theorem sl_law_has {g : Gx} {k : Nat} {cl : Cll} (X : Cx) (Wx : WX) (G : Good FS g k cl N_law_has (defScope s_law_has) (fun _ => true) X Wx) (hp : HP X) : QL g X Wx (defBody s_law_has) (m_law_has cl) :=
  (ql_one (qs_ret (qe_tup (qac (qe_cmp G.oinW (G.qix (G.qvar 0 (by decide +kernel)) qe_int rfl) (qe_tup (qac qe_str (qac qe_str qa_nil rfl) rfl)) (by rfl)) (qac (qe_cmp G.oinW (G.qix (G.qvar 0 (by decide +kernel)) qe_int rfl) (qe_tup (qac qe_str (qac qe_str qa_nil rfl) rfl)) (by rfl)) qa_nil rfl) rfl))))
theorem sc_law_pairs : FnScope N_law_pairs ["_law_operators"] (defScope s_law_pairs) := ⟨rfl, rfl, rfl, by decide +kernel, rfl, by decide +kernel, by decide +kernel⟩
theorem sl_law_pairs {g : Gx} {k : Nat} {cl : Cll} (X : Cx) (Wx : WX) (G : Good FS g k cl N_law_pairs (defScope s_law_pairs) (fun _ => true) X Wx) (hp : HP X) : QL g X Wx (defBody s_law_pairs) (m_law_pairs cl) :=
  (ql_cons (qasgName (qe_lst qa_nil) (G.qtgt 1 (by decide +kernel)) rfl)
    (ql_cons (qsf hp.p G (G.qen (by decide +kernel) G.fs.fr_enumerate rfl (G.qvar 0 (by decide +kernel))) (G.qtup (qgc (G.qtgt 2 (by decide +kernel)) (qgc (G.qtgt 3 (by decide +kernel)) qgs_nil rfl) rfl) rfl rfl) (ql_one (qs_if (qtv (G.qix (G.qcal (by decide +kernel) G.fs.fn_law_has bd_law_has rfl rfl (qac (G.qvar 3 (by decide +kernel)) qa_nil rfl)) qe_int rfl) rfl) (ql_one (qse (G.qk1 mf_extend G.mextendW rfl (by decide +kernel) rfl (G.qvar 1 (by decide +kernel)) (G.qlc [("_law_o", 4), ("_law_other", 5)] [4, 5] (by decide +kernel) (by rfl) (by rfl) rfl (G.qen (by decide +kernel) G.fs.fr_enumerate rfl (G.qvar 0 (by decide +kernel))) (fun X G => (G.qtup (qgc (G.qtgt 4 (by decide +kernel)) (qgc (G.qtgt 5 (by decide +kernel)) qgs_nil rfl) rfl) rfl rfl)) (.one (fun X G => (qtv (G.qix (G.qcal (by decide +kernel) G.fs.fn_law_has bd_law_has rfl rfl (qac (G.qvar 5 (by decide +kernel)) qa_nil rfl)) qe_int rfl) rfl))) (fun X G => (qe_tup (qac (G.qvar 2 (by decide +kernel)) (qac (G.qvar 4 (by decide +kernel)) qa_nil rfl) rfl))))) rfl)) ql_nil)) rfl)
    (ql_one (qs_ret (G.qvar 1 (by decide +kernel))))))
theorem sc_law_entries : FnScope N_law_entries ["_law_source_here", "_law_operators"] (defScope s_law_entries) := ⟨rfl, rfl, rfl, by decide +kernel, rfl, by decide +kernel, by decide +kernel⟩
theorem sl_law_entries {g : Gx} {k : Nat} {cl : Cll} (X : Cx) (Wx : WX) (G : Good FS g k cl N_law_entries (defScope s_law_entries) (fun _ => true) X Wx) (hp : HP X) : QL g X Wx (defBody s_law_entries) (m_law_entries cl) :=
  (ql_cons (G.qpar 2 3 (by decide +kernel) (by decide +kernel) (by decide) (qac (G.qcal (by decide +kernel) G.fs.fn_law_draw bd_law_draw rfl rfl (qac (G.qvar 0 (by decide +kernel)) (qac qe_int qa_nil rfl) rfl)) (qac (G.qlc [("_law_one", 4)] [4] (by decide +kernel) (by rfl) (by rfl) rfl (G.qsie (G.qvar 1 (by decide +kernel))) (fun X G => (G.qtgt 4 (by decide +kernel))) .nil (fun X G => (G.qcal (by decide +kernel) G.fs.fn_law_draw bd_law_draw rfl rfl (qac (G.qvar 0 (by decide +kernel)) (qac qe_int qa_nil rfl) rfl)))) qa_nil rfl) rfl) (by kernel_rfl))
    (ql_cons (qasgName (qe_lst qa_nil) (G.qtgt 5 (by decide +kernel)) rfl)
    (ql_cons (qsf hp.p G (G.qsie (G.qcal (by decide +kernel) G.fs.fn_law_pairs bd_law_pairs rfl rfl (qac (G.qvar 1 (by decide +kernel)) qa_nil rfl))) (G.qtup (qgc (G.qtgt 6 (by decide +kernel)) (qgc (G.qtgt 7 (by decide +kernel)) qgs_nil rfl) rfl) rfl rfl) (ql_cons (qasgName (G.qcal (by decide +kernel) G.fs.fn_law_pick bd_law_pick rfl rfl (qac (G.qvar 0 (by decide +kernel)) (qac (qe_lst (qac qe_str (qac qe_str (qac qe_str qa_nil rfl) rfl) rfl)) qa_nil rfl) rfl)) (G.qtgt 8 (by decide +kernel)) rfl)
    (ql_cons (qs_if (qt_cmp G.oeqW (G.qvar 2 (by decide +kernel)) qe_int (by rfl)) (ql_one (qasgName (qe_ife (qt_cmp G.ogtW (G.qix (G.qvar 3 (by decide +kernel)) (G.qvar 6 (by decide +kernel)) rfl) (G.qix (G.qvar 3 (by decide +kernel)) (G.qvar 7 (by decide +kernel)) rfl) (by rfl)) qe_str (qe_ife (qt_cmp G.oltW (G.qix (G.qvar 3 (by decide +kernel)) (G.qvar 6 (by decide +kernel)) rfl) (G.qix (G.qvar 3 (by decide +kernel)) (G.qvar 7 (by decide +kernel)) rfl) (by rfl)) qe_str (G.qvar 8 (by decide +kernel)))) (G.qtgt 8 (by decide +kernel)) rfl)) (ql_one (qs_if (QW.te (qw_and (qt_cmp G.oeqW (G.qvar 2 (by decide +kernel)) qe_int (by rfl)) (qw_and1 (qt_cmp G.oeqW (G.qvar 8 (by decide +kernel)) qe_str (by rfl))))) (ql_one (qasgName (G.qcal (by decide +kernel) G.fs.fn_law_pick bd_law_pick rfl rfl (qac (G.qvar 0 (by decide +kernel)) (qac (qe_lst (qac qe_str (qac qe_str (qac qe_str qa_nil rfl) rfl) rfl)) qa_nil rfl) rfl)) (G.qtgt 8 (by decide +kernel)) rfl)) (ql_one (qs_if (QW.te (qw_and (qt_cmp G.oeqW (G.qvar 2 (by decide +kernel)) qe_int (by rfl)) (qw_and1 (qt_cmp G.ogtW (G.qcal (by decide +kernel) G.fs.fn_law_draw bd_law_draw rfl rfl (qac (G.qvar 0 (by decide +kernel)) (qac qe_int qa_nil rfl) rfl)) qe_int (by rfl))))) (ql_one (qasgName qe_str (G.qtgt 8 (by decide +kernel)) rfl)) (ql_one (qs_if (qt_cmp G.oeqW (G.qvar 2 (by decide +kernel)) qe_int (by rfl)) (ql_one (qasgName (G.qix (qe_lst (qac qe_str (qac qe_str qa_nil rfl) rfl)) (qe_bin G.omodW (G.qix (G.qvar 3 (by decide +kernel)) qe_int rfl) qe_int) rfl) (G.qtgt 8 (by decide +kernel)) rfl)) ql_nil)))))))
    (ql_one (qs_if (qt_cmp G.oneW (G.qvar 8 (by decide +kernel)) qe_str (by rfl)) (ql_one (qse (G.qk1 mf_append G.mappendW rfl (by decide +kernel) rfl (G.qvar 5 (by decide +kernel)) (qe_tup (qac (G.qvar 6 (by decide +kernel)) (qac (G.qvar 7 (by decide +kernel)) (qac (G.qvar 8 (by decide +kernel)) qa_nil rfl) rfl) rfl))) rfl)) ql_nil)))) rfl)
    (ql_one (qs_ret (G.qf1 (by decide +kernel) G.fs.fr_tuple (by kernel_rfl) rfl G.ctupleW rfl (G.qvar 5 (by decide +kernel))))))))
theorem sc_law_told : FnScope N_law_told ["_law_operators", "_law_entries_here"] (defScope s_law_told) := ⟨rfl, rfl, rfl, by decide +kernel, rfl, by decide +kernel, by decide +kernel⟩
theorem sl_law_told {g : Gx} {k : Nat} {cl : Cll} (X : Cx) (Wx : WX) (G : Good FS g k cl N_law_told (defScope s_law_told) (fun _ => true) X Wx) (hp : HP X) : QL g X Wx (defBody s_law_told) (m_law_told cl) :=
  (ql_cons (qasgName (G.qf1 (by decide +kernel) G.fs.fr_dict (by kernel_rfl) rfl G.cdictTW rfl (G.qlc [("_law_pair", 3)] [3] (by decide +kernel) (by rfl) (by rfl) rfl (G.qsie (G.qcal (by decide +kernel) G.fs.fn_law_pairs bd_law_pairs rfl rfl (qac (G.qvar 0 (by decide +kernel)) qa_nil rfl))) (fun X G => (G.qtgt 3 (by decide +kernel))) .nil (fun X G => (qe_tup (qac (G.qvar 3 (by decide +kernel)) (qac qe_str qa_nil rfl) rfl))))) (G.qtgt 2 (by decide +kernel)) rfl)
    (ql_cons (qse (G.qk1 mf_update G.mupdateTW rfl (by decide +kernel) rfl (G.qvar 2 (by decide +kernel)) (G.qf1 (by decide +kernel) G.fs.fr_dict (by kernel_rfl) rfl G.cdictTW rfl (G.qlc [("_law_row", 4)] [4] (by decide +kernel) (by rfl) (by rfl) rfl (G.qsie (G.qvar 1 (by decide +kernel))) (fun X G => (G.qtgt 4 (by decide +kernel))) .nil (fun X G => (qe_tup (qac (G.qsl (G.qvar 4 (by decide +kernel)) qp_none (qp_some qe_int)) (qac (G.qix (G.qvar 4 (by decide +kernel)) qe_int rfl) qa_nil rfl) rfl)))))) rfl)
    (ql_one (qs_ret (G.qvar 2 (by decide +kernel))))))
theorem sc_law_table : FnScope N_law_table ["_law_source_here", "_law_size", "_law_sign"] (defScope s_law_table) := ⟨rfl, rfl, rfl, by decide +kernel, rfl, by decide +kernel, by decide +kernel⟩
theorem sl_law_table {g : Gx} {k : Nat} {cl : Cll} (X : Cx) (Wx : WX) (G : Good FS g k cl N_law_table (defScope s_law_table) (fun _ => true) X Wx) (hp : HP X) : QL g X Wx (defBody s_law_table) (m_law_table cl) :=
  (ql_cons (qasgName (qe_lst qa_nil) (G.qtgt 3 (by decide +kernel)) rfl)
    (ql_cons (qsf hp.p G (G.qr1 (by decide +kernel) G.fs.fr_range rfl (G.qvar 1 (by decide +kernel))) (G.qtgt 4 (by decide +kernel)) (ql_cons (qasgName (G.qcal (by decide +kernel) G.fs.fn_law_pick bd_law_pick rfl rfl (qac (G.qvar 0 (by decide +kernel)) (qac (qe_lst (qac qe_str (qac qe_str (qac qe_str (qac qe_str (qac qe_str qa_nil rfl) rfl) rfl) rfl) rfl)) qa_nil rfl) rfl)) (G.qtgt 5 (by decide +kernel)) rfl)
    (ql_one (qse (G.qk1 mf_append G.mappendW rfl (by decide +kernel) rfl (G.qvar 3 (by decide +kernel)) (qe_tup (qac (G.qvar 5 (by decide +kernel)) (qac (qe_tup (qac (qe_bin G.oaddW (qe_bin G.oaddW qe_str (G.qf1 (by decide +kernel) G.fs.fr_str (by kernel_rfl) rfl G.cstrW rfl (G.qvar 4 (by decide +kernel)))) (G.qvar 2 (by decide +kernel))) qa_nil rfl)) qa_nil rfl) rfl))) rfl))) rfl)
    (ql_cons (qasgName (G.qcal (by decide +kernel) G.fs.fn_law_entries bd_law_entries rfl rfl (qac (G.qvar 0 (by decide +kernel)) (qac (G.qf1 (by decide +kernel) G.fs.fr_tuple (by kernel_rfl) rfl G.ctupleW rfl (G.qvar 3 (by decide +kernel))) qa_nil rfl) rfl)) (G.qtgt 6 (by decide +kernel)) rfl)
    (ql_one (qs_ret (qe_tup (qac (G.qmk (by decide +kernel) G.fs.mk_Table_2 rfl rfl (qac (G.qf1 (by decide +kernel) G.fs.fr_tuple (by kernel_rfl) rfl G.ctupleW rfl (G.qvar 3 (by decide +kernel))) (qac (G.qvar 6 (by decide +kernel)) qa_nil rfl) rfl)) (qac (G.qcal (by decide +kernel) G.fs.fn_law_told bd_law_told rfl rfl (qac (G.qf1 (by decide +kernel) G.fs.fr_tuple (by kernel_rfl) rfl G.ctupleW rfl (G.qvar 3 (by decide +kernel))) (qac (G.qvar 6 (by decide +kernel)) qa_nil rfl) rfl)) qa_nil rfl) rfl)))))))
theorem sc_law_right : FnScope N_law_right ["_law_one", "_law_told_here", "_law_other", "_law_its"] (defScope s_law_right) := ⟨rfl, rfl, rfl, by decide +kernel, rfl, by decide +kernel, by decide +kernel⟩
theorem sl_law_right {g : Gx} {k : Nat} {cl : Cll} (X : Cx) (Wx : WX) (G : Good FS g k cl N_law_right (defScope s_law_right) (fun _ => true) X Wx) (hp : HP X) : QL g X Wx (defBody s_law_right) (m_law_right cl) :=
  (ql_cons (G.qpar 4 5 (by decide +kernel) (by decide +kernel) (by decide) (qac (G.qf1 (by decide +kernel) G.fs.fr_len (by kernel_rfl) rfl G.clenW rfl (G.qfldX G.fs.at_operators rfl (G.qvar 0 (by decide +kernel)))) (qac (G.qcal (by decide +kernel) G.fs.fn_joined bd_joined rfl rfl (qac (G.qvar 0 (by decide +kernel)) (qac (G.qvar 2 (by decide +kernel)) qa_nil rfl) rfl)) qa_nil rfl) rfl) (by kernel_rfl))
    (ql_cons (qs_if (qt_cmp G.oneW (G.qfldX G.fs.at_operators rfl (G.qvar 5 (by decide +kernel))) (qe_bin G.oaddW (G.qfldX G.fs.at_operators rfl (G.qvar 0 (by decide +kernel))) (G.qfldX G.fs.at_operators rfl (G.qvar 2 (by decide +kernel)))) (by rfl)) (ql_one (qs_ret qe_bl)) ql_nil)
    (ql_cons (qsf hp.p G (G.qsie (G.qcal (by decide +kernel) G.fs.fn_law_pairs bd_law_pairs rfl rfl (qac (G.qfldX G.fs.at_operators rfl (G.qvar 5 (by decide +kernel))) qa_nil rfl))) (G.qtup (qgc (G.qtgt 6 (by decide +kernel)) (qgc (G.qtgt 7 (by decide +kernel)) qgs_nil rfl) rfl) rfl rfl) (ql_cons (qasgName (G.qk2 mf_get G.mget2W rfl (by decide +kernel) rfl (G.qvar 1 (by decide +kernel)) (qe_tup (qac (G.qvar 6 (by decide +kernel)) (qac (G.qvar 7 (by decide +kernel)) qa_nil rfl) rfl)) (G.qk2 mf_get G.mget2W rfl (by decide +kernel) rfl (G.qvar 3 (by decide +kernel)) (qe_tup (qac (qe_bin G.osubW (G.qvar 6 (by decide +kernel)) (G.qvar 4 (by decide +kernel))) (qac (qe_bin G.osubW (G.qvar 7 (by decide +kernel)) (G.qvar 4 (by decide +kernel))) qa_nil rfl) rfl)) qe_str)) (G.qtgt 8 (by decide +kernel)) rfl)
    (ql_one (qs_if (qt_cmp G.oneW (G.qmeth (mth_cons G.fs.me_Table_entry bm_Table_entry rfl mth_nil) rfl (by decide +kernel) rfl rfl rfl (G.qvar 5 (by decide +kernel)) (qac (G.qvar 6 (by decide +kernel)) (qac (G.qvar 7 (by decide +kernel)) qa_nil rfl) rfl)) (G.qvar 8 (by decide +kernel)) (by rfl)) (ql_one (qs_ret qe_bl)) ql_nil))) rfl)
    (ql_one (qs_ret (qe_cmp G.oeqW (G.qf1 (by decide +kernel) G.fs.fr_len (by kernel_rfl) rfl G.clenW rfl (G.qfldX G.fs.at_entries rfl (G.qvar 5 (by decide +kernel)))) (qe_bin G.oaddW (G.qf1 (by decide +kernel) G.fs.fr_len (by kernel_rfl) rfl G.clenW rfl (G.qfldX G.fs.at_entries rfl (G.qvar 0 (by decide +kernel)))) (G.qf1 (by decide +kernel) G.fs.fr_len (by kernel_rfl) rfl G.clenW rfl (G.qfldX G.fs.at_entries rfl (G.qvar 2 (by decide +kernel))))) (by rfl)))))))
theorem sc_law : FnScope N_law ["_law_script"] (defScope s_law) := ⟨rfl, rfl, rfl, by decide +kernel, rfl, by decide +kernel, by decide +kernel⟩
theorem sl_law {g : Gx} {k : Nat} {cl : Cll} (X : Cx) (Wx : WX) (G : Good FS g k cl N_law (defScope s_law) (fun _ => true) X Wx) (hp : HP X) : QL g X Wx (defBody s_law) (m_law cl) :=
  (ql_cons (qsf hp.p G (G.qr1 (by decide +kernel) G.fs.fr_range rfl (qe_bin G.oaddW qe_int (G.qf2 (by decide +kernel) G.fs.fr_min (by kernel_rfl) rfl G.cminW rfl qe_int (G.qf1 (by decide +kernel) G.fs.fr_len (by kernel_rfl) rfl G.clenW rfl (G.qvar 0 (by decide +kernel)))))) (G.qtgt 1 (by decide +kernel)) (ql_cons (qasgName (G.qcal (by decide +kernel) G.fs.fn_law_source bd_law_source rfl rfl (qac (G.qvar 0 (by decide +kernel)) (qac (G.qvar 1 (by decide +kernel)) qa_nil rfl) rfl)) (G.qtgt 2 (by decide +kernel)) rfl)
    (ql_cons (qsf hp.p G (G.qsie (qe_tup (qac (qe_tup (qac qe_int (qac qe_int qa_nil rfl) rfl)) (qac (qe_tup (qac qe_int (qac qe_int qa_nil rfl) rfl)) (qac (qe_tup (qac qe_int (qac qe_int qa_nil rfl) rfl)) (qac (qe_tup (qac qe_int (qac qe_int qa_nil rfl) rfl)) (qac (qe_tup (qac qe_int (qac qe_int qa_nil rfl) rfl)) (qac (qe_tup (qac qe_int (qac qe_int qa_nil rfl) rfl)) (qac (qe_tup (qac qe_int (qac qe_int qa_nil rfl) rfl)) qa_nil rfl) rfl) rfl) rfl) rfl) rfl) rfl))) (G.qtup (qgc (G.qtgt 3 (by decide +kernel)) (qgc (G.qtgt 4 (by decide +kernel)) qgs_nil rfl) rfl) rfl rfl) (ql_cons (qasgTup (G.qcal (by decide +kernel) G.fs.fn_law_table bd_law_table rfl rfl (qac (G.qvar 2 (by decide +kernel)) (qac (G.qvar 3 (by decide +kernel)) (qac qe_str qa_nil rfl) rfl) rfl)) (G.qtup (qgc (G.qtgt 5 (by decide +kernel)) (qgc (G.qtgt 6 (by decide +kernel)) qgs_nil rfl) rfl) rfl rfl) rfl rfl)
    (ql_cons (qasgTup (G.qcal (by decide +kernel) G.fs.fn_law_table bd_law_table rfl rfl (qac (G.qvar 2 (by decide +kernel)) (qac (G.qvar 4 (by decide +kernel)) (qac qe_str qa_nil rfl) rfl) rfl)) (G.qtup (qgc (G.qtgt 7 (by decide +kernel)) (qgc (G.qtgt 8 (by decide +kernel)) qgs_nil rfl) rfl) rfl rfl) rfl rfl)
    (ql_one (qs_if (qt_not (qtv (G.qcal (by decide +kernel) G.fs.fn_law_right bd_law_right rfl rfl (qac (G.qvar 5 (by decide +kernel)) (qac (G.qvar 6 (by decide +kernel)) (qac (G.qvar 7 (by decide +kernel)) (qac (G.qvar 8 (by decide +kernel)) qa_nil rfl) rfl) rfl) rfl)) rfl)) (ql_one (qs_ret qe_bl)) ql_nil)))) rfl)
    (ql_cons (qasgTup (G.qcal (by decide +kernel) G.fs.fn_law_table bd_law_table rfl rfl (qac (G.qvar 2 (by decide +kernel)) (qac qe_int (qac qe_str qa_nil rfl) rfl) rfl)) (G.qtup (qgc (G.qtgt 5 (by decide +kernel)) (qgc (G.qtgt 6 (by decide +kernel)) qgs_nil rfl) rfl) rfl rfl) rfl rfl)
    (ql_cons (qasgTup (G.qcal (by decide +kernel) G.fs.fn_law_table bd_law_table rfl rfl (qac (G.qvar 2 (by decide +kernel)) (qac qe_int (qac qe_str qa_nil rfl) rfl) rfl)) (G.qtup (qgc (G.qtgt 7 (by decide +kernel)) (qgc (G.qtgt 8 (by decide +kernel)) qgs_nil rfl) rfl) rfl rfl) rfl rfl)
    (ql_cons (qasgName qe_non (G.qtgt 9 (by decide +kernel)) rfl)
    (ql_cons (qs_try hp G (fun X Wx G hp => (ql_one (qse (G.qcal (by decide +kernel) G.fs.fn_joined bd_joined rfl rfl (qac (G.qvar 5 (by decide +kernel)) (qac (G.qvar 7 (by decide +kernel)) qa_nil rfl) rfl)) rfl))) (G.qhAs 10 (by decide +kernel) (by decide +kernel) G.fs.ch_BadOperators (fun X G => (ql_one (qasgName (G.qfldX G.fs.at_value rfl (G.qvar 10 (by decide +kernel))) (G.qtgt 9 (by decide +kernel)) rfl))) .nil))
    (ql_one (qs_if (qt_cmp G.oneW (G.qvar 9 (by decide +kernel)) (qe_bin G.oaddW (G.qfldX G.fs.at_operators rfl (G.qvar 5 (by decide +kernel))) (G.qfldX G.fs.at_operators rfl (G.qvar 7 (by decide +kernel)))) (by rfl)) (ql_one (qs_ret qe_bl)) ql_nil)))))))) rfl)
    (ql_one (qs_ret qe_bl)))
/-- the plain law: what the defs compute is True -/
def Plain : Prop := ∀ ns : List Int, ns.length ≤ 63 → ∃ h, callF T 200 i_law [.fl (ns.map D.int)] [] = .ok (.bl true) h
end LW
end
section
namespace LW
open PV PySem PySem.Spec PyProof.Rows L2
/-! B0: draws, picks, words. -/
theorem c_draw (k : Nat) {h : Hh} {i c : Nat} {n : Int} (e : Sr h i c) (hn : 0 < n) (hn2 : n < 1073741824) (hc : c < 1000000000) :
    ∃ (r : Nat) (h' : Hh), (r : Int) < n ∧ Sr h' i (c + 1) ∧ Up [i] h h' ∧ callF T (k + 1) i_law_draw [.ref i, .int n] h = .ok (.int r) h' := by
  obtain ⟨a, b, d, e, hd, hd2⟩ := e
  have hl := lt_of_get e
  have hs : ∀ x, (h.set i x)[i]? = some x := fun x => List.getElem?_set_self hl
  rw [callF_s (d := ⟨7, 2, m_law_draw⟩) rfl]
  by_cases ha : 0 < a
  · have z := Int.emod_nonneg a (b := n) (by omega)
    obtain ⟨r, er⟩ := Int.eq_ofNat_of_zero_le z
    refine ⟨r, h.set i (.lst [.int (a / n), .int b, .int d]), by rw [← er]; exact Int.emod_lt_of_pos _ hn, ⟨_, _, _, hs _, hd, by omega⟩, .set (by simp), ?_⟩
    simp [m_law_draw, startW, ixW, asL, asT, atI, ixN, e, ha, hn, hn2, setW, lstAt, D.isTl, er]
  · have m1 : CMul 15485863 (d + 1) := cmulL (by decide) (by decide)
    have m2 : CMul 32452867 (d + 1) := cmulL (by decide) (by decide)
    have m3 : CMul 6700417 (d + 1) := cmulL (by decide) (by decide)
    have m4 : ∀ z : Int, CMul z (b % 7919 + 32452867 * (d + 1) + 29) := fun z => by
      have := Int.emod_nonneg b (b := 7919) (by decide)
      have := Int.emod_lt_of_pos b (b := 7919) (by decide)
      exact cmulR (by omega) (by omega)
    have m5 : ∀ y z : Int, CMul z (y % 1000003 + 6700417 * (d + 1) + 5) := fun y z => by
      have := Int.emod_nonneg y (b := 1000003) (by decide)
      have := Int.emod_lt_of_pos y (b := 1000003) (by decide)
      exact cmulR (by omega) (by omega)
    have key : ∃ y : Int, outR (m_law_draw (callF T k) (startW 7 [.ref i, .int n]) h) = .ok (.int (y % n)) (h.set i (.lst [.int a, .int b, .int (d + 1)])) := by
      refine ⟨?_, ?e⟩
      case e =>
        simp [m_law_draw, startW, ixW, asL, asT, atI, ixN, e, ha, hn, hn2, setW, lstAt, D.isTl, m1, m2, m3, m4, m5, hs]
        rfl
    obtain ⟨y, ey⟩ := key
    have z := Int.emod_nonneg y (b := n) (by omega)
    obtain ⟨r, er⟩ := Int.eq_ofNat_of_zero_le z
    refine ⟨r, h.set i (.lst [.int a, .int b, .int (d + 1)]), by rw [← er]; exact Int.emod_lt_of_pos _ hn, ⟨_, _, _, hs _, by omega, by omega⟩, .set (by simp), ?_⟩
    simp only [List.length_cons, List.length_nil, if_true]
    rw [ey, er]
theorem c_pick (k : Nat) {h : Hh} {i j c : Nat} {ws : List D} (e : Sr h i c) (ej : h[j]? = some (.lst ws)) (hij : j ≠ i) (h0 : 0 < ws.length) (h1 : ws.length < 1073741824) (hc : c < 1000000000) :
    ∃ (r : Nat) (h' : Hh) (hr : r < ws.length), Sr h' i (c + 1) ∧ Up [i] h h' ∧ callF T (k + 2) i_law_pick [.ref i, .ref j] h = .ok ws[r] h' := by
  obtain ⟨r, h', r1, es, u, ed⟩ := c_draw k (n := (ws.length : Int)) e (by omega) (by omega) hc
  have hlt : r < ws.length := by omega
  refine ⟨r, h', hlt, es, u, ?_⟩
  rw [callF_s (d := ⟨2, 2, m_law_pick⟩) rfl]
  have e2 : h'[j]? = some (.lst ws) := u.get ej (by simpa using hij)
  have e3 : ixW (.ref j) (.int (r : Int)) h' = .ok ws[r] h' := ixW_rn e2 (by simp [List.getElem?_eq_getElem hlt])
  simp [m_law_pick, startW, lenW_ref ej, ed, e3, u.len]
/-- a pick from a list just written -/
theorem p_pick (k : Nat) {h : Hh} {i c : Nat} {ws : List D} (e : Sr h i c) (h0 : 0 < ws.length) (h1 : ws.length < 1073741824) (hc : c < 1000000000) (hw : ∀ w ∈ ws, ∀ n, w.lim n = true) :
    ∃ (w : D) (h' : Hh), w ∈ ws ∧ Sr h' i (c + 1) ∧ Up [i] h h' ∧ gcR h (callF T (k + 2) i_law_pick [.ref i, .ref h.length] (h ++ [.lst ws])) = .ok w h' := by
  obtain ⟨r, h', hr, es, u, ep⟩ := c_pick k (j := h.length) (ws := ws) (e.app (e := [.lst ws])) app_last (by have := e.lt; omega) h0 h1 hc
  refine ⟨ws[r], h'.take h.length, List.getElem_mem hr, es.cut e.lt, u.cut, ?_⟩
  rw [ep, gcR_src u es (hw _ (List.getElem_mem hr) _)]

end LW
end
section
namespace LW
open PV PySem PySem.Spec PyProof.Rows L2
/-! B3: the source of a cell. -/
theorem c_source (k : Nat) {h : Hh} {ns : List Int} {j : Nat} (hj : j ≤ 3) : ∃ a b : Int, callF T (k + 1) i_law_source [.fl (ns.map .int), .int j] h = .ok (.tl [.int a, .int b, .int 0]) h := by
  rw [callF_s (d := ⟨4, 2, m_law_source⟩) rfl]
  obtain ⟨z, hz, ez, y, hy, ey⟩ := pow60 (h := h)
  have m1 : ∀ x : Int, CMul x 1000003 := fun x => cmulR (by decide) (by decide)
  have m2 : ∀ x : Int, CMul 7919 x := fun x => cmulL (by decide) (by decide)
  have m3 : ∀ x : Int, CMul x (j : Int) := fun x => cmulR (by omega) (by omega)
  obtain ⟨cell, ec⟩ : ∃ cell : Int, (if j < ns.length then ixW (.fl (ns.map .int)) (.int j) h else .ok (.int 0) h) = .ok (.int cell) h := by
    split
    · rename_i hl
      refine ⟨ns[j], ixW_fn (by simp [hl])⟩
    · exact ⟨0, rfl⟩
  obtain ⟨ab, eab⟩ : ∃ ab : Int, ∀ h, absW (.int cell) h = .ok (.int ab) h := ⟨_, fun h => rfl⟩
  obtain ⟨d, ed⟩ : ∃ d : Int, (if 1000000000000000000 ≤ ab then R.ok (D.int (ab % y)) h else .ok (.int 0) h) = .ok (.int d) h := by
    split
    · exact ⟨_, rfl⟩
    · exact ⟨_, rfl⟩
  refine ⟨d, (cell % 2305843009213693951 * 1000003 + 7919 * j * j + 97) % 2305843009213693921, ?_⟩
  simp [-absW_i, m_law_source, startW, ec, eab, pow18, ez, ey, hy, ed, m1, m2, m3]

end LW
end
section
namespace LW
open PV PySem PySem.Spec PyProof.Rows L2
/-! B4a: the law's own look at holes. -/
theorem c_lhas (k : Nat) (o : Opr) (ho : o.kind ∈ kinds) (h : Hh) : callF T (k + 1) i_law_has [o.enc] h = .ok (.tup [.bl o.L, .bl o.Rr]) h := by
  rw [callF_s (d := ⟨1, 1, m_law_has⟩) rfl]
  have e := inW_strs (h := h) (x := o.kind) (ss := [("infix" : Str), "postfix"]) (kinds_ok _ ho) (by decide +kernel)
  have e2 := inW_strs (h := h) (x := o.kind) (ss := [("infix" : Str), "prefix"]) (kinds_ok _ ho) (by decide +kernel)
  have ei : ixW o.enc (.int 0) h = .ok (.str o.kind) h := by simp [Opr.enc]
  simp only [List.map_cons, List.map_nil] at e e2
  simp [m_law_has, startW, ei, e, e2, Opr.L, Opr.Rr]

end LW
end
section
namespace LW
open PV PySem PySem.Spec PyProof.Rows L2
/-! OL: has_left. -/
theorem c_has_left (k : Nat) (o : Opr) (ho : o.kind ∈ kinds) (h : Hh) : callF T (k + 1) i_has_left [o.enc] h = .ok (.bl o.L) h := by
  rw [callF_s (d := ⟨1, 1, m_has_left⟩) rfl]
  have e := inW_strs (h := h) (x := o.kind) (ss := [("infix" : Str), "postfix"]) (kinds_ok _ ho) (by decide +kernel)
  have ei : ixW o.enc (.int 0) h = .ok (.str o.kind) h := by simp [Opr.enc]
  simp only [List.map_cons, List.map_nil] at e
  simp [m_has_left, startW, ei, e, Opr.L]

end LW
end
section
namespace LW
open PV PySem PySem.Spec PyProof.Rows L2
/-! OR: has_right. -/
theorem c_has_right (k : Nat) (o : Opr) (ho : o.kind ∈ kinds) (h : Hh) : callF T (k + 1) i_has_right [o.enc] h = .ok (.bl o.Rr) h := by
  rw [callF_s (d := ⟨1, 1, m_has_right⟩) rfl]
  have e := inW_strs (h := h) (x := o.kind) (ss := [("infix" : Str), "prefix"]) (kinds_ok _ ho) (by decide +kernel)
  have ei : ixW o.enc (.int 0) h = .ok (.str o.kind) h := by simp [Opr.enc]
  simp only [List.map_cons, List.map_nil] at e
  simp [m_has_right, startW, ei, e, Opr.Rr]

end LW
end
section
namespace LW
open PV PySem PySem.Spec PyProof.Rows L2
/-! O2: pairs. -/
theorem c_pairs (k : Nat) (ops : List Opr) (hl : ops.length ≤ 1000) (hk : ∀ o ∈ ops, o.kind ∈ kinds) (h : Hh) : ∃ h', Ux [] h h' ∧ callF T (k + 2) i_pairs [.tup (ops.map Opr.enc)] h = .ok (.tup ((pairL ops).map encP)) h' := by
  refine ⟨h ++ [.lst ((idxs Opr.Rr ops).map .int), .lst ((idxs Opr.L ops).map .int)], .app, ?_⟩
  rw [callF_s (d := ⟨6, 1, m_pairs⟩) rfl]
  have e1 : mLc (miEn (mV 0)) (.tu [(.nm 2), (.nm 3)]) (mB (mCall (callF T (k + 1)) i_has_right (mArgs [(mV 3)]))) (mV 2) [2, 3] [some (.tup (ops.map Opr.enc)), none, none, none, none, none] h = .ok (.tl ((idxs Opr.Rr ops).map .int)) h := by
    rw [lc_pure (src := srcE (srcT (ops.map Opr.enc))) (ws := enumD (ops.map Opr.enc)) (gI dR) rfl (fun j => srcE_at (fun _ => rfl) j) (by simp [enumD]; exact szl (by omega)) ?_]
    · rw [gI_idxs dR Opr.Rr (fun o => rfl)]
    · intro w hw
      unfold enumD at hw
      obtain ⟨i, hi, rfl⟩ := List.mem_mapIdx.mp hw
      simp only [List.getElem_map]
      have hm : ops[i]'(by simpa using hi) ∈ ops := List.getElem_mem _
      generalize ops[i]'(by simpa using hi) = o at hm
      have ec := c_has_right k o (hk o hm) h
      refine ⟨_, rfl, ?_⟩
      have hd : dR o.enc = o.Rr := rfl
      cases hR : o.Rr with
      | true => exact .inl ⟨.int i, by simp [gI, hd, hR], by simp [wipeW, ec, hR], rfl, rfl⟩
      | false => exact .inr ⟨by simp [gI, hd, hR], by simp [wipeW, ec, hR]⟩
  have e2 : ∀ (h : Hh) (w1 : D), mLc (miEn (mV 0)) (.tu [(.nm 5), (.nm 3)]) (mB (mCall (callF T (k + 1)) i_has_left (mArgs [(mV 3)]))) (mV 5) [5, 3] [some (.tup (ops.map Opr.enc)), some w1, none, none, none, none] h = .ok (.tl ((idxs Opr.L ops).map .int)) h := by
    intro h w1
    rw [lc_pure (src := srcE (srcT (ops.map Opr.enc))) (ws := enumD (ops.map Opr.enc)) (gI dL) rfl (fun j => srcE_at (fun _ => rfl) j) (by simp [enumD]; exact szl (by omega)) ?_]
    · rw [gI_idxs dL Opr.L (fun o => rfl)]
    · intro w hw
      unfold enumD at hw
      obtain ⟨i, hi, rfl⟩ := List.mem_mapIdx.mp hw
      simp only [List.getElem_map]
      have hm : ops[i]'(by simpa using hi) ∈ ops := List.getElem_mem _
      generalize ops[i]'(by simpa using hi) = o at hm
      have ec := c_has_left k o (hk o hm) h
      refine ⟨_, rfl, ?_⟩
      have hd : dL o.enc = o.L := rfl
      cases hR : o.L with
      | true => exact .inl ⟨.int i, by simp [gI, hd, hR], by simp [wipeW, ec, hR], rfl, rfl⟩
      | false => exact .inr ⟨by simp [gI, hd, hR], by simp [wipeW, ec, hR]⟩
  have e3 : mLc2 (miE (mV 1)) (.nm 2) (fun _ h => .ok true h) (miE (mV 4)) (.nm 5) (fun _ h => .ok true h) (mTup (mArgs [(mV 2), (mV 5)])) [2, 5] [5] [some (.tup (ops.map Opr.enc)), some (.ref h.length), none, none, some (.ref (h.length + 1)), none] (h ++ [.lst ((idxs Opr.Rr ops).map .int), .lst ((idxs Opr.L ops).map .int)]) = .ok (.tl ((pairL ops).map encP)) (h ++ [.lst ((idxs Opr.Rr ops).map .int), .lst ((idxs Opr.L ops).map .int)]) := by
    have g1 : (h ++ [Cl.lst ((idxs Opr.Rr ops).map .int), .lst ((idxs Opr.L ops).map .int)])[h.length]? = some (.lst ((idxs Opr.Rr ops).map .int)) := by simp
    have g2 : (h ++ [Cl.lst ((idxs Opr.Rr ops).map .int), .lst ((idxs Opr.L ops).map .int)])[h.length + 1]? = some (.lst ((idxs Opr.L ops).map .int)) := by simp [List.getElem?_append_right]
    have lR := idxs_len Opr.Rr ops
    have lL := idxs_len Opr.L ops
    generalize (h ++ [Cl.lst ((idxs Opr.Rr ops).map .int), .lst ((idxs Opr.L ops).map .int)]) = h2 at g1 g2
    rw [lc2_pure (src := srcL (.ref h.length)) (ws := (idxs Opr.Rr ops).map .int) (fun _ => true) (fun _ => (idxs Opr.L ops).map .int) (fun w u => some (.tup [w, u])) 1000 (by simp [miE, srcOf, asT, asL, g1]) (fun j => srcL_ref g1 j) (fun w _ => by simp; omega)
      (by simp only [List.length_map]; exact szl (by omega)) (by simp only [List.length_map]; exact szl (by omega)) ?_]
    · congr 2
      simp [pairL, List.flatMap_map, List.map_flatMap, encP, Function.comp_def]
    · intro w hw
      obtain ⟨i, _, rfl⟩ := List.mem_map.mp hw
      refine ⟨_, rfl, .inr ⟨rfl, rfl, srcL (.ref (h.length + 1)), by simp [wipeW, miE, srcOf, asT, asL, g2], fun j => srcL_ref g2 j, fun u hu => ?_⟩⟩
      obtain ⟨j, _, rfl⟩ := List.mem_map.mp hu
      exact ⟨_, rfl, .inl ⟨_, rfl, rfl, by simp [wipeW], rfl⟩⟩
  simp [m_pairs, startW, e1, e2, e3]

end LW
end
section
namespace LW
open PV PySem PySem.Spec PyProof.Rows L2
/-! IDT: is_token. -/
theorem ofNat_sp : ((" " : Str)).cps.toList = [32] := by decide +kernel
theorem ofNat_ti : (("~" : Str)).cps.toList = [126] := by decide +kernel
theorem c_is_token (k : Nat) {z : Str} (hz : z.length ≤ 16777215) (h : Hh) : callF T (k + 1) i_is_token [.str z] h = .ok (.bl (isTok z)) h := by
  rw [callF_s (d := ⟨2, 1, m_is_token⟩) rfl]
  have ln := lenW_str (h := h) (z := z) (by omega)
  have al := all_lc (mi := miE (mV 0)) (t := .nm 1) (me := mChain ltW leW (mC (.str " ")) (mV 1) (mC (.str "~"))) (vs := [1]) (σ := [some (.str z), none]) (h := h) (h1 := h) (src := srcS z) (ws := signs z) (gC okC) (miE_str (by simp)) (fun j => srcS_at j) (by rw [signs_len]; exact szl (by omega)) (fun w hw => by
    obtain ⟨c, hc, rfl⟩ := signs_mem hw
    refine ⟨[some (.str z), some (.str ⟨#[c]⟩)], rfl, ?_⟩
    have e1 : ltW (.str " ") (.str ⟨#[c]⟩) h = .ok (.bl (decide (32 < c))) h := by
      show R.ok (D.bl (decide (((" " : Str)).cps.toList < [c]))) h = _
      rw [ofNat_sp, lt1]
    have e2 : leW (.str ⟨#[c]⟩) (.str "~") h = .ok (.bl (decide (c ≤ 126))) h := by
      show R.ok (D.bl (!decide ((("~" : Str)).cps.toList < [c]))) h = _
      rw [ofNat_ti, lt1]
      congr 2
      rw [Bool.eq_iff_iff]
      simp
    have e3 : gC okC (.str ⟨#[c]⟩) = (decide (32 < c) && decide (c ≤ 126)) := rfl
    rw [e3]
    simp only [mChain, mC_ap, mV_ap, List.getElem?_cons_succ, List.getElem?_cons_zero, R.bind_ok, e1]
    cases decide (32 < c)
    · rfl
    · simp only [Bool.true_and, R.bind_ok, e2])
  rw [signs_all] at al
  unfold isTok
  simp only [m_is_token, startW, List.map_cons, List.map_nil, List.length_cons, List.length_nil, if_true, msSeq_ap, msIf_ap, mOrB_ap, mNotB_ap, mB_ap, mOp_ap, mC_ap, mV_0, R.bind_ok, isi_ss, List.replicate, List.cons_append, List.nil_append, Nat.reduceAdd, Nat.reduceSub, Bool.not_true, Bool.false_eq_true, if_false, mChain, mF1_ap, ln, leW_i]
  have i1 : decide ((1 : Int) ≤ (z.length : Int)) = decide (1 ≤ z.length) := by rw [decide_eq_decide]; omega
  have i2 : decide ((z.length : Int) ≤ 8) = decide (z.length ≤ 8) := by rw [decide_eq_decide]; omega
  rw [i1, i2]
  cases decide (1 ≤ z.length)
  · simp
  · cases decide (z.length ≤ 8)
    · simp
    · simp only [mF1_ap] at al
      simp [al]
theorem c_is_token_not (k : Nat) {x : D} (h : Hh) (hx : isiW x (.ty "str") h = .ok (.bl false) h) : callF T (k + 1) i_is_token [x] h = .ok (.bl false) h := by
  rw [callF_s (d := ⟨2, 1, m_is_token⟩) rfl]
  simp [m_is_token, startW, hx]

end LW
end
section
namespace LW
open PV PySem PySem.Spec PyProof.Rows L2
/-! OPR: is_word, is_operator. -/
theorem c_is_word (k : Nat) {w : D} {h : Hh} (t : Ty h w) : callF T (k + 2) i_is_word [w] h = .ok (.bl (wordD w)) h := by
  rw [callF_s (d := ⟨1, 1, m_is_word⟩) rfl]
  by_cases hs : w.isStr = true
  · cases w <;> first | cases hs | skip
    rename_i z
    have e1 := c_is_token k (z := z) (by have := t.1; omega) h
    have e2 := niW_kt (h := h) (x := z) (ss := [("(" : Str), ")"]) t.2 (by decide +kernel)
    have wd : wordD (.str z) = (isTok z && !decide (z ∈ [("(" : Str), ")"])) := rfl
    rw [wd]
    generalize isTok z = b at e1 ⊢
    cases b
    · simp [m_is_word, startW, mAndV, e1]
    · simp only [Bool.true_and]
      simp only [List.map_cons, List.map_nil] at e2
      generalize decide (z ∈ [("(" : Str), ")"]) = b at e2 ⊢
      have : m_is_word (callF T (k + 1)) (startW 1 [.str z]) h = .ret (.bl (!b)) h := by
        simp only [m_is_word, startW, List.map_cons, List.map_nil, List.replicate, List.append_nil, List.length_cons, List.length_nil, Nat.sub_self, msRet_ap, mAndV, mCall_ap, mArgs_cons, mArgs_nil, mV_0, R.bind_ok, stash_str, e1, gcR_len, lim_bl, mOp_ap, mC_ap]
        rw [e2]
        rfl
      simp [this]
  · have hs' : w.isStr = false := by simpa using hs
    have e0 := isi_str t
    rw [hs'] at e0
    have e1 := c_is_token_not k h e0
    have nt : w.isTl = false := by cases w <;> first | rfl | exact t.elim
    have e3 : wordD w = false := by cases w <;> first | rfl | cases hs'
    rw [e3]
    simp [m_is_word, startW, mAndV, stash_of nt, e1]
theorem TyT.isTl {h : Hh} {w : D} (t : Ty h w) : w.isTl = false := by cases w <;> first | rfl | exact t.elim
def op_tail (cl : Cll) : MS :=
    (msSeq (msAsg (.tu [(.nm 1), (.nm 2)]) (mV 0))
    (msSeq (msIf (mOrB (mNotB (mB (mOp isiW (mV 2) (mC (.ty "tuple"))))) (mNotB (mB (mF1 allW (mLc (miE (mV 2)) (.nm 3) (fun _ h => .ok true h) (mCall cl i_is_word (mArgs [(mV 3)])) [3]))))) (msRet (mC (.bl false))) msNil)
    (msRet (mChain leW leW (mIf (mB (mOp eqW (mV 1) (mC (.str "closed")))) (mC (.int 2)) (mC (.int 1))) (mF1 lenW (mV 2)) (mC (.int 3))))))
def op_cond (cl : Cll) : M Bool := (mOrB (mNotB (mB (mOp isiW (mV 0) (mC (.ty "tuple"))))) (mOrB (mB (mOp neW (mF1 lenW (mV 0)) (mC (.int 2)))) (mOrB (mNotB (mB (mOp isiW (mOp ixW (mV 0) (mC (.int 0))) (mC (.ty "str"))))) (mB (mOp niW (mOp ixW (mV 0) (mC (.int 0))) (mC (.kt ((["closed", "infix", "postfix", "prefix"] : List Str).map D.str))))))))
theorem op_split (cl : Cll) : m_is_operator cl = msSeq (msIf (op_cond cl) (msRet (mC (.bl false))) msNil) (op_tail cl) := rfl
def opVal (kd : Str) (y : D) : Bool := match y with
  | .tup ws => ws.all wordD && decide ((if kd = "closed" then 2 else 1) ≤ ws.length) && decide (ws.length ≤ 3)
  | _ => false
theorem op_tail_ok (k : Nat) {kd : Str} {y : D} {h : Hh} (hy : TyT h y) : outR (op_tail (callF T (k + 2)) [some (.tup [.str kd, y]), none, none, none] h) = .ok (.bl (opVal kd y)) h := by
  have e0 := isi_tuple hy.1
  by_cases ht : y.isTup = true
  · cases y <;> first | cases ht | skip
    rename_i ws
    obtain ⟨hl, he⟩ := hy.2 ws rfl
    have al := all_lc (mi := miE (mV 2)) (t := .nm 3) (me := mCall (callF T (k + 2)) i_is_word (mArgs [(mV 3)])) (vs := [3]) (σ := [some (.tup [.str kd, .tup ws]), some (.str kd), some (.tup ws), none]) (h := h) (h1 := h) (src := srcT ws) (ws := ws) wordD (by simp [miE, srcOf, asT]) (fun j => rfl) (szl (by omega)) (fun w hw => by
      refine ⟨[some (.tup [.str kd, .tup ws]), some (.str kd), some (.tup ws), some w], rfl, ?_⟩
      have := c_is_word k (he w hw)
      simp [stash_of (TyT.isTl (he w hw)), this])
    have i3 : decide ((ws.length : Int) ≤ 3) = decide (ws.length ≤ 3) := by rw [decide_eq_decide]; omega
    have e1 : eqW (.str kd) (.str "closed") h = .ok (.bl (decide (kd = "closed"))) h := eqW_str
    have e2 : isiW (.tup ws) (.ty "tuple") h = .ok (.bl true) h := isi_tt
    simp only [op_tail, msSeq_ap, msAsgT_ap, mV_0, R.then_ok, stash_tup, tgset_tup, tgsets_cons, tgset_nm, tgsets_nil, Option.bind_some, List.set_cons_succ, List.set_cons_zero, RT.seq_nx, msIf_ap, mOrB_ap, mNotB_ap, mB_ap, mOp_ap, mC_ap, mV_ap, List.getElem?_cons_succ, List.getElem?_cons_zero, R.bind_ok, e2, Bool.not_true, Bool.false_eq_true, if_false]
    erw [al]
    simp only [opVal]
    generalize ws.all wordD = ba
    cases ba
    · simp
    · simp only [R.bind_ok, Bool.not_true, R.then_ok, Bool.false_eq_true, if_false, msNil_ap, RT.seq_nx, msRet_ap, mChain, mIf_ap, mB_ap, mOp_ap, mC_ap, mF1_ap, mV_ap, List.getElem?_cons_succ, List.getElem?_cons_zero, e1, lenW_tup, leW_i, Bool.true_and]
      by_cases hc : kd = "closed"
      · simp only [decide_eq_true hc, if_pos hc, if_true, R.bind_ok, leW_i]
        have : decide ((2 : Int) ≤ (ws.length : Int)) = decide (2 ≤ ws.length) := by rw [decide_eq_decide]; omega
        rw [this, i3]
        cases decide (2 ≤ ws.length) <;> simp
      · simp only [decide_eq_false hc, if_neg hc, Bool.false_eq_true, if_false, R.bind_ok, leW_i]
        have : decide ((1 : Int) ≤ (ws.length : Int)) = decide (1 ≤ ws.length) := by rw [decide_eq_decide]; omega
        rw [this, i3]
        cases decide (1 ≤ ws.length) <;> simp
  · have ht' : y.isTup = false := by simpa using ht
    rw [ht'] at e0
    have nt := TyT.isTl hy.1
    have : opVal kd y = false := by cases y <;> first | rfl | cases ht'
    rw [this]
    simp [op_tail, e0]
theorem c_is_operator (k : Nat) {w : D} {h : Hh} (v : OpV h w) : callF T (k + 3) i_is_operator [w] h = .ok (.bl (isOp w)) h := by
  rw [callF_s (d := ⟨4, 1, m_is_operator⟩) rfl]
  simp only [List.length_cons, List.length_nil, if_true]
  have e0 := isi_tuple v.1
  by_cases ht : w.isTup = true
  · cases w <;> first | cases ht | skip
    rename_i ws
    obtain ⟨hl, he⟩ := v.2 ws rfl
    have e2 : isiW (.tup ws) (.ty "tuple") h = .ok (.bl true) h := isi_tt
    have en := neW_ni (h := h) (i := (ws.length : Int)) (j := 2)
    match ws, hl, he, e2, en with
    | [], _, _, e2, en =>
      have en0 : neW (.int 0) (.int 2) h = .ok (.bl true) h := by rw [neW_ni]; rfl
      simp [op_split, op_cond, startW, e2, en0, isOp]
    | [a], _, _, e2, en =>
      have en0 : neW (.int 1) (.int 2) h = .ok (.bl true) h := by rw [neW_ni]; rfl
      simp [op_split, op_cond, startW, e2, en0, isOp]
    | a :: b :: c :: r, _, _, e2, en =>
      have : ¬ ((((a :: b :: c :: r).length : Nat) : Int) = 2) := by simp; omega
      rw [decide_eq_false this] at en
      generalize hL : a :: b :: c :: r = L at e2 en ⊢
      have : isOp (.tup L) = false := by
        rw [← hL]
        unfold isOp
        split
        · rename_i z
          injection z with z
          simp at z
        · rfl
      rw [this]
      simp [op_split, op_cond, startW, e2, en]
    | [a, b], _, he, e2, en =>
      have en : neW (.int 2) (.int 2) h = .ok (.bl false) h := by rw [neW_ni]; rfl
      have ta := (he a (by simp)).1
      have tb := he b (by simp)
      have es := isi_str ta
      by_cases hs : a.isStr = true
      · obtain ⟨kd, rfl⟩ : ∃ kd, a = .str kd := by cases a <;> first | exact ⟨_, rfl⟩ | cases hs
        have ek : niW (.str kd) (.kt ((["closed", "infix", "postfix", "prefix"] : List Str).map D.str)) h = .ok (.bl (!decide (kd ∈ kinds))) h := niW_kt (h := h) (x := kd) (ss := kinds) ta.2 (by decide +kernel)
        have es2 : isiW (.str kd) (.ty "str") h = .ok (.bl true) h := isi_ss
        have ot := op_tail_ok k (kd := kd) tb
        by_cases hk : kd ∈ kinds
        · rw [decide_eq_true hk] at ek
          have cond : op_cond (callF T (k + 2)) [some (.tup [.str kd, b]), none, none, none] h = .ok false h := by
            simp only [op_cond, mOrB_ap, mNotB_ap, mB_ap, mOp_ap, mC_ap, mF1_ap, mV_0, R.bind_ok, e2, Bool.not_true, Bool.false_eq_true, if_false, lenW_tup, List.length_cons, List.length_nil, ixW_t0, es2]
            have en' : neW (.int (((0 + 1 + 1 : Nat)) : Int)) (.int 2) h = .ok (.bl false) h := en
            simp only [en', R.bind_ok, Bool.false_eq_true, if_false, es2, Bool.not_true, ek, Bool.not_false]
          have st : startW 4 [.tup [.str kd, b]] = [some (.tup [.str kd, b]), none, none, none] := rfl
          rw [op_split, msSeq_ap, st, msIf_ap, cond, R.then_ok]
          simp only [Bool.false_eq_true, if_false, msNil_ap, RT.seq_nx]
          rw [ot]
          congr 2
          cases b <;> simp [isOp, opVal, hk]
        · rw [decide_eq_false hk] at ek
          have cond : op_cond (callF T (k + 2)) [some (.tup [.str kd, b]), none, none, none] h = .ok true h := by
            simp only [op_cond, mOrB_ap, mNotB_ap, mB_ap, mOp_ap, mC_ap, mF1_ap, mV_0, R.bind_ok, e2, Bool.not_true, Bool.false_eq_true, if_false, lenW_tup, List.length_cons, List.length_nil, ixW_t0, es2]
            have en' : neW (.int (((0 + 1 + 1 : Nat)) : Int)) (.int 2) h = .ok (.bl false) h := en
            simp only [en', R.bind_ok, Bool.false_eq_true, if_false, es2, Bool.not_true, ek, Bool.not_false]
          have st : startW 4 [.tup [.str kd, b]] = [some (.tup [.str kd, b]), none, none, none] := rfl
          rw [op_split, msSeq_ap, st, msIf_ap, cond, R.then_ok]
          have : isOp (.tup [.str kd, b]) = false := by cases b <;> simp [isOp, hk]
          rw [this]
          rfl
      · have hs' : a.isStr = false := by simpa using hs
        rw [hs'] at es
        have : isOp (.tup [a, b]) = false := by cases a <;> first | rfl | cases hs'
        rw [this]
        simp [op_split, op_cond, startW, e2, en, es]
  · have ht' : w.isTup = false := by simpa using ht
    rw [ht'] at e0
    have : isOp w = false := by cases w <;> first | rfl | cases ht'
    rw [this]
    simp [op_split, op_cond, startW, e0]

end LW
end
section
namespace LW
open PV PySem PySem.Spec PyProof.Rows L2
/-! OPL: is_operator_list of a list that is one. -/
theorem c_starts_operand (k : Nat) (o : Opr) (ho : o.kind ∈ kinds) (h : Hh) : callF T (k + 1) i_starts_operand [o.enc] h = .ok (.bl o.S) h := by
  rw [callF_s (d := ⟨1, 1, m_starts_operand⟩) rfl]
  have e := inW_strs (h := h) (x := o.kind) (ss := [("prefix" : Str), "closed"]) (kinds_ok _ ho) (by decide +kernel)
  have ei : ixW o.enc (.int 0) h = .ok (.str o.kind) h := by simp [Opr.enc]
  simp only [List.map_cons, List.map_nil] at e
  simp [m_starts_operand, startW, ei, e, Opr.S]
theorem c_are_distinct (k : Nat) {q : Nat} {xs : List Str} {h : Hh} (e : h[q]? = some (.lst (xs.map .str))) (hn : xs.Nodup) (hl : xs.length ≤ 100000) : callF T (k + 1) i_are_distinct [.ref q] h = .ok (.bl true) (h ++ [.dK (wcell xs)]) := by
  rw [callF_s (d := ⟨2, 1, m_are_distinct⟩) rfl]
  have key := dc_pure (K := kK) (mi := miE (mV 0)) (t := .nm 1) (mk := mV 1) (mv := mC (.bl true)) (vs := [1]) (σ := [some (.ref q), none]) (h := h) (h1 := h) (src := srcL (.ref q)) (ws := xs.map .str) (fun w => match w with
    | .str x => ((.inr x : Key), .bl true)
    | _ => ((.inl 0 : Key), .bl true)) (by simp [miE, srcOf, asT, asL, e]) (fun j => srcL_ref e j) (by rw [List.length_map]; exact szl (by omega)) (fun w hw => by
      obtain ⟨x, hx, rfl⟩ := List.mem_map.mp hw
      exact ⟨[some (.ref q), some (.str x)], .str x, rfl, rfl, rfl, rfl, rfl⟩)
  rw [List.map_map] at key
  have ew : (xs.map ((fun w => match w with
    | .str x => ((.inr x : Key), D.bl true)
    | _ => ((.inl 0 : Key), .bl true)) ∘ D.str)) = xs.map fun x => ((.inr x : Key), D.bl true) := rfl
  rw [ew, putAll_words] at key
  have l1 := lenW_ref e
  have l2 := lenW_dK (h := h ++ [.dK (wcell xs)]) (i := h.length) (kvs := wcell xs) (by simp)
  have e2 := eqW_int (i := (xs.length : Int)) (j := (xs.length : Int)) (h := h ++ [.dK (wcell xs)])
  rw [wcell_len hn] at l2
  have kc : KKind.cell kK (wcell xs) = .dK (wcell xs) := rfl
  rw [kc] at key
  simp [m_are_distinct, startW, l1, key, l2, e2]
theorem Opr.opV {o : Opr} (ho : OprOk o) {h : Hh} : OpV h o.enc := (Opr.nv ho (bad := []) (h := h) (n := 2)).opV
theorem isOp_ok {o : Opr} (ho : OprOk o) : isOp o.enc = true := by
  have pw : ∀ x ∈ pool0, isTok x = true ∧ x ∉ [("(" : Str), ")"] := by decide +kernel
  unfold isOp
  have hk : o.kind ∈ kinds := ho.kd
  have hw : (o.words.map D.str).all wordD = true := by
    rw [List.all_map, List.all_eq_true]
    intro x hx
    obtain ⟨a, b⟩ := pw x (ho.w0 x hx)
    simp [Function.comp, wordD, a]
    simpa using b
  have l1 := ho.l1
  have l3 := ho.l3
  have l2 := ho.l2
  simp only [Opr.enc, hw, List.length_map, Bool.true_and, decide_eq_true hk, Bool.and_eq_true, decide_eq_true_eq]
  refine ⟨?_, l3⟩
  split
  · exact l2 ‹_›
  · exact l1
def hd1 (o : Opr) : Str := o.words.head?.getD ""
theorem ix_first {o : Opr} (ho : OprOk o) {h : Hh} : ixW (.tup (o.words.map .str)) (.int 0) h = .ok (.str (hd1 o)) h := by
  have l := ho.l1
  unfold hd1
  cases hw : o.words with
  | nil => rw [hw] at l; simp at l
  | cons x r => simp
theorem firsts_map {b : Bool} {ops : List Opr} (O : OpsOk ops) : firsts b ops = (ops.filter fun o => o.S == b).map hd1 := by
  unfold firsts
  have : ∀ l : List Opr, (∀ o ∈ l, OprOk o) → l.filterMap (fun o => if o.S = b then o.words.head? else none) = (l.filter fun o => o.S == b).map hd1 := by
    intro l
    induction l with
    | nil => intro _; rfl
    | cons o l ih =>
      intro hl
      have ho := hl o (by simp)
      rw [List.filterMap_cons, List.filter_cons]
      have l1 := ho.l1
      have hw : o.words.head? = some (hd1 o) := by
        unfold hd1
        cases hw : o.words with
        | nil => rw [hw] at l1; simp at l1
        | cons x r => rfl
      by_cases hS : o.S = b
      · simp only [hS, if_true, hw, beq_self_eq_true, List.map_cons]
        rw [ih fun o' h' => hl o' (by simp [h'])]
      · have hS2 : (o.S == b) = false := by simpa using hS
        simp only [hS, if_false, hS2]
        exact ih fun o' h' => hl o' (by simp [h'])
  exact this ops O.ok
theorem c_is_operator_list (k : Nat) {ops : List Opr} (O : OpsOk ops) (hol : ops.length ≤ 12) (h : Hh) : ∃ h', Ux [] h h' ∧ callF T (k + 5) i_is_operator_list [.tup (ops.map Opr.enc)] h = .ok (.bl true) h' := by
  rw [callF_s (d := ⟨7, 1, m_is_operator_list⟩) rfl]
  have e0 : isiW (.tup (ops.map Opr.enc)) (.ty "tuple") h = .ok (.bl true) h := isi_tt
  have tl : laters ops = (ops.flatMap fun o => o.words.tail) := rfl
  have ll : (laters ops).length ≤ 36 := by
    have : ∀ l : List Opr, (∀ o ∈ l, OprOk o) → (laters l).length ≤ 3 * l.length := by
      intro l
      induction l with
      | nil => intro _; simp [laters]
      | cons o l ih =>
        intro hl
        have h1 := (hl o (by simp)).l3
        have h2 := ih fun o' h' => hl o' (by simp [h'])
        simp only [laters, List.flatMap_cons, List.length_append, List.length_tail, List.length_cons] at h2 ⊢
        omega
    have := this ops O.ok
    omega
  -- all are operators
  have a1 := all_lc (mi := miE (mV 0)) (t := .nm 1) (me := mCall (callF T (k + 4)) i_is_operator (mArgs [(mV 1)])) (vs := [1]) (σ := [some (.tup (ops.map Opr.enc)), none, none, none, none, none, none]) (h := h) (h1 := h) (src := srcT (ops.map Opr.enc)) (ws := ops.map Opr.enc) isOp (by simp [miE, srcOf, asT]) (fun j => rfl) (by rw [List.length_map]; exact szl (by omega)) (fun w hw => by
    obtain ⟨o, ho, rfl⟩ := List.mem_map.mp hw
    have := c_is_operator (k + 1) (Opr.opV (O.ok o ho) (h := h))
    refine ⟨[some (.tup (ops.map Opr.enc)), some o.enc, none, none, none, none, none], rfl, ?_⟩
    simp [this])
  have at' : (ops.map Opr.enc).all isOp = true := by
    rw [List.all_map, List.all_eq_true]
    exact fun o ho => isOp_ok (O.ok o ho)
  rw [at'] at a1
  -- first words
  have f1 := lc_map (mi := miE (mV 0)) (t := .nm 1) (me := mOp ixW (mOp ixW (mV 1) (mC (.int 1))) (mC (.int 0))) (vs := [1]) (σ := [some (.tup (ops.map Opr.enc)), none, none, none, none, none, none]) (h := h) (h1 := h) (src := srcT (ops.map Opr.enc)) (ws := ops.map Opr.enc) (fun w => match w with
    | .tup [_, .tup (x :: _)] => x
    | _ => .non) (by simp [miE, srcOf, asT]) (fun j => rfl) (by rw [List.length_map]; exact szl (by omega)) (fun w hw => by
    obtain ⟨o, ho, rfl⟩ := List.mem_map.mp hw
    have l := (O.ok o ho).l1
    cases hw : o.words with
    | nil => rw [hw] at l; simp at l
    | cons x r => exact ⟨[some (.tup (ops.map Opr.enc)), some o.enc, none, none, none, none, none], rfl, by simp [Opr.enc, hw], by simp [Opr.enc, hw]; rfl⟩)
  have f1' : (ops.map Opr.enc).map (fun w => match w with
    | .tup [_, .tup (x :: _)] => x
    | _ => .non) = (ops.map hd1).map D.str := by
    rw [List.map_map, List.map_map]
    apply List.map_congr_left
    intro o ho
    have l := (O.ok o ho).l1
    cases hw : o.words with
    | nil => rw [hw] at l; simp at l
    | cons x r => simp [Function.comp, Opr.enc, hw, hd1]
  rw [f1'] at f1
  generalize hF : ops.map hd1 = F at f1
  -- later words
  have l1 := lc2_pure (mi := miE (mV 0)) (t := .nm 1) (mt := fun _ h => .ok true h) (mi1 := miE (mSl (mOp ixW (mV 1) (mC (.int 1))) (some (mC (.int 1))) none)) (t1 := .nm 4) (mt1 := fun _ h => .ok true h) (me := mV 4) (vs := [1, 4]) (vs1 := [4]) (σ := [some (.tup (ops.map Opr.enc)), none, some (.ref h.length), none, none, none, none]) (h := h ++ [.lst (F.map .str)]) (h1 := h ++ [.lst (F.map .str)]) (src := srcT (ops.map Opr.enc)) (ws := ops.map Opr.enc) (fun _ => true) (fun w => match w with
    | .tup [_, .tup (_ :: r)] => r
    | _ => []) (fun _ u => some u) 3 (by simp [miE, srcOf, asT]) (fun j => rfl) (fun w hw => by
    obtain ⟨o, ho, rfl⟩ := List.mem_map.mp hw
    have l := (O.ok o ho).l3
    cases hw : o.words with
    | nil => simp [Opr.enc, hw]
    | cons x r => rw [hw] at l; simp at l; simp [Opr.enc, hw]; omega) (by rw [List.length_map]; exact szl (by omega)) (by rw [List.length_map]; exact szl (by omega)) (fun w hw => by
    obtain ⟨o, ho, rfl⟩ := List.mem_map.mp hw
    have l := (O.ok o ho).l1
    cases hw : o.words with
    | nil => rw [hw] at l; simp at l
    | cons x r =>
      have sl := slT_1 (h := h ++ [.lst (F.map .str)]) (w := .str x) (ws := r.map .str)
      refine ⟨[some (.tup (ops.map Opr.enc)), some o.enc, some (.ref h.length), none, none, none, none], rfl, .inr ⟨rfl, rfl, srcT (r.map .str), by simp [miE, Opr.enc, hw, sl, srcOf, asT], fun j => by rw [srcT_at]; simp [Opr.enc, hw], fun u hu => ?_⟩⟩
      simp [Opr.enc, hw] at hu
      obtain ⟨y, hy, rfl⟩ := hu
      exact ⟨_, rfl, .inl ⟨.str y, rfl, rfl, by simp [wipeW], rfl⟩⟩)
  have l1' : ((ops.map Opr.enc).flatMap fun w => if true = true then ((match w with
    | .tup [_, .tup (_ :: r)] => r
    | _ => [] : List D)).filterMap (fun u => some u) else []) = (laters ops).map D.str := by
    unfold laters
    rw [List.flatMap_map, List.map_flatMap]
    congr 1
    funext o
    cases hw : o.words with
    | nil => simp [Opr.enc, hw]
    | cons x r => simp [Opr.enc, hw]
  rw [l1'] at l1
  generalize hL : laters ops = L at l1 ll
  have ln : L.Nodup := by rw [← hL]; exact O.lt
  generalize hC : h ++ [Cl.lst (F.map .str)] ++ [.lst (L.map .str)] = C
  have cF : C[h.length]? = some (.lst (F.map .str)) := by rw [← hC]; simp
  have cL : C[h.length + 1]? = some (.lst (L.map .str)) := by rw [← hC]; simp
  have mF : ∀ x ∈ L, x ∉ F := fun x hx hf => by
    rw [← hF] at hf
    obtain ⟨o, ho, rfl⟩ := List.mem_map.mp hf
    rw [← hL] at hx
    refine O.ld _ hx o.S ?_
    rw [firsts_map O]
    exact List.mem_map.mpr ⟨o, List.mem_filter.mpr ⟨ho, by simp⟩, rfl⟩
  have fOk : ∀ s ∈ F, PyData.strOk s = true := fun s hs => by
    rw [← hF] at hs
    obtain ⟨o, ho, rfl⟩ := List.mem_map.mp hs
    have l := (O.ok o ho).l1
    cases hw : o.words with
    | nil => rw [hw] at l; simp at l
    | cons x r =>
      have : hd1 o = x := by simp [hd1, hw]
      rw [this]
      exact pool0_ok x ((O.ok o ho).w0 x (by simp [hw]))
  have lOk : ∀ s ∈ L, PyData.strOk s = true := fun s hs => by
    rw [← hL] at hs
    obtain ⟨o, ho, hm⟩ := laters_word hs
    exact pool0_ok s ((O.ok o ho).w0 s hm)
  have d1 : callF T (k + 4) i_are_distinct [.ref (h.length + 1)] C = .ok (.bl true) (C ++ [.dK (wcell L)]) := c_are_distinct (k + 3) cL ln (by omega)
  have an := any_lc (mi := miE (mV 3)) (t := .nm 4) (me := mOp inW (mV 4) (mV 2)) (vs := [4]) (σ := [some (.tup (ops.map Opr.enc)), none, some (.ref h.length), some (.ref (h.length + 1)), none, none, none]) (h := C) (h1 := C) (src := srcL (.ref (h.length + 1))) (ws := L.map .str) (fun _ => false) (by simp [miE, srcOf, asT, asL, cL]) (fun j => srcL_ref cL j) (by rw [List.length_map]; exact szl (by omega)) (fun w hw => by
    obtain ⟨x, hx, rfl⟩ := List.mem_map.mp hw
    have := inW_refS (x := x) cF (lOk x hx) fOk
    rw [decide_eq_false (mF x hx)] at this
    exact ⟨[some (.tup (ops.map Opr.enc)), none, some (.ref h.length), some (.ref (h.length + 1)), some (.str x), none, none], rfl, by simp [this]⟩)
  have ae : (L.map D.str).any (fun _ => false) = false := by simp
  rw [ae] at an
  have role : ∀ (b : Bool) (C : Hh) (mt : M Bool) (a5 : Option D), (∀ o ∈ ops, mt [some (.tup (ops.map Opr.enc)), some o.enc, some (.ref h.length), some (.ref (h.length + 1)), none, a5, none] C = .ok (o.S == b) C) →
      mLc (miE (mV 0)) (.nm 1) mt (mOp ixW (mOp ixW (mV 1) (mC (.int 1))) (mC (.int 0))) [1] [some (.tup (ops.map Opr.enc)), none, some (.ref h.length), some (.ref (h.length + 1)), none, a5, none] C = .ok (.tl ((firsts b ops).map .str)) C := fun b C mt a5 hmt => by
    rw [lc_pure (src := srcT (ops.map Opr.enc)) (ws := ops.map Opr.enc) (h1 := C) (fun w => match w with
      | .tup [.str kd, .tup (x :: _)] => if (decide (kd ∈ [("prefix" : Str), "closed"]) == b) = true then some x else none
      | _ => none) (by simp [miE, srcOf, asT]) (fun j => rfl) (by rw [List.length_map]; exact szl (by omega)) (fun w hw => by
      obtain ⟨o, ho, rfl⟩ := List.mem_map.mp hw
      have l := (O.ok o ho).l1
      have hm := hmt o ho
      cases hw : o.words with
      | nil => rw [hw] at l; simp at l
      | cons x r =>
        refine ⟨[some (.tup (ops.map Opr.enc)), some o.enc, some (.ref h.length), some (.ref (h.length + 1)), none, a5, none], by simp [wipeW], ?_⟩
        have eS : decide (o.kind ∈ [("prefix" : Str), "closed"]) = o.S := rfl
        simp only [Opr.enc, hw, List.map_cons, eS] at hm ⊢
        cases hb : (o.S == b)
        · rw [hb] at hm
          exact .inr ⟨by simp, hm⟩
        · rw [hb] at hm
          exact .inl ⟨.str x, by simp, hm, by simp, rfl⟩)]
    congr 2
    rw [firsts_map O, List.filterMap_map, List.map_map]
    have : ∀ l : List Opr, (∀ o ∈ l, OprOk o) → l.filterMap ((fun w => match w with
      | .tup [.str kd, .tup (x :: _)] => if (decide (kd ∈ [("prefix" : Str), "closed"]) == b) = true then some x else none
      | _ => none) ∘ Opr.enc) = (l.filter fun o => o.S == b).map (D.str ∘ hd1) := by
      intro l
      induction l with
      | nil => intro _; rfl
      | cons o l ih =>
        intro hl
        have l1 := (hl o (by simp)).l1
        have ih' := ih fun o' h' => hl o' (by simp [h'])
        cases hw : o.words with
        | nil => rw [hw] at l1; simp at l1
        | cons x r =>
          have eS : decide (o.kind ∈ [("prefix" : Str), "closed"]) = o.S := rfl
          rw [List.filterMap_cons, List.filter_cons, ih']
          simp only [Function.comp, Opr.enc, hw, List.map_cons, eS]
          cases hb : (o.S == b)
          · simp
          · simp [hd1, hw]
    exact this ops O.ok
  have so : ∀ (C : Hh) (o : Opr), o ∈ ops → callF T (k + 4) i_starts_operand [o.enc] C = .ok (.bl o.S) C := fun C o ho => c_starts_operand (k + 3) o (O.ok o ho).kd C
  have r1 := role true C (mB (mCall (callF T (k + 4)) i_starts_operand (mArgs [(mV 1)]))) none (fun o ho => by
    have := so C o ho
    simp [this])
  generalize hS1 : firsts true ops = S1 at r1
  have n1 : S1.Nodup := by rw [← hS1]; exact O.nd true
  have s1l : S1.length ≤ 12 := by rw [← hS1, firsts_map O, List.length_map]; exact Nat.le_trans (List.length_filter_le _ _) hol
  have r2 := role false (C ++ [.lst (S1.map .str)]) (mNotB (mB (mCall (callF T (k + 4)) i_starts_operand (mArgs [(mV 1)])))) (some (.ref C.length)) (fun o ho => by
    have := so (C ++ [.lst (S1.map .str)]) o ho
    simp [this])
  generalize hS2 : firsts false ops = S2 at r2
  have n2 : S2.Nodup := by rw [← hS2]; exact O.nd false
  have s2l : S2.length ≤ 12 := by rw [← hS2, firsts_map O, List.length_map]; exact Nat.le_trans (List.length_filter_le _ _) hol
  have d2 : callF T (k + 4) i_are_distinct [.ref C.length] (C ++ [.lst (S1.map .str), .lst (S2.map .str)]) = .ok (.bl true) (C ++ [.lst (S1.map .str), .lst (S2.map .str)] ++ [.dK (wcell S1)]) := c_are_distinct (k + 3) (by simp) n1 (by omega)
  have d3 : callF T (k + 4) i_are_distinct [.ref (C.length + 1)] (C ++ [.lst (S1.map .str), .lst (S2.map .str)]) = .ok (.bl true) (C ++ [.lst (S1.map .str), .lst (S2.map .str)] ++ [.dK (wcell S2)]) := c_are_distinct (k + 3) (by simp [List.getElem?_append_right]) n2 (by omega)
  have cl12 : decide ((12 : Int) < (ops.length : Int)) = false := by rw [decide_eq_false_iff_not]; omega
  refine ⟨C ++ [.lst (S1.map .str), .lst (S2.map .str)], by rw [← hC]; exact .trans .app (.trans .app .app), ?_⟩
  simp only [mF1_ap] at a1 an
  have hC2 : h ++ [Cl.lst (F.map .str), .lst (L.map .str)] = C := by rw [← hC]; simp
  simp only [List.length_append, List.length_cons, List.length_nil] at l1
  generalize F.map D.str = FD at *
  generalize L.map D.str = LD at *
  generalize S1.map D.str = SD1 at *
  generalize S2.map D.str = SD2 at *
  have g2 := gcR_app (h := C ++ [.lst SD1, .lst SD2]) (e := [.dK (wcell S1)]) (w := .bl true) (by simp)
  have g3 := gcR_app (h := C ++ [.lst SD1, .lst SD2]) (e := [.dK (wcell S2)]) (w := .bl true) (by simp)
  have gL := gcR_app (h := C) (e := [.dK (wcell L)]) (w := .bl true) (by simp)
  generalize wcell S1 = W1 at *
  generalize wcell S2 = W2 at *
  generalize wcell L = W3 at *
  have g2' : gcR (C ++ [Cl.lst SD1, Cl.lst SD2]) (.ok (.bl true) (C ++ [Cl.lst SD1, Cl.lst SD2, Cl.dK W1])) = .ok (.bl true) (C ++ [Cl.lst SD1, Cl.lst SD2]) := by
    rw [show C ++ [Cl.lst SD1, Cl.lst SD2, Cl.dK W1] = C ++ [Cl.lst SD1, Cl.lst SD2] ++ [Cl.dK W1] by simp]; exact g2
  have g3' : gcR (C ++ [Cl.lst SD1, Cl.lst SD2]) (.ok (.bl true) (C ++ [Cl.lst SD1, Cl.lst SD2, Cl.dK W2])) = .ok (.bl true) (C ++ [Cl.lst SD1, Cl.lst SD2]) := by
    rw [show C ++ [Cl.lst SD1, Cl.lst SD2, Cl.dK W2] = C ++ [Cl.lst SD1, Cl.lst SD2] ++ [Cl.dK W2] by simp]; exact g3
  simp only [m_is_operator_list, startW, List.map_cons, List.map_nil, List.length_cons, List.length_nil, if_true, List.replicate, List.cons_append, List.nil_append, Nat.reduceAdd, Nat.reduceSub]
  generalize hOD : ops.map Opr.enc = OD at *
  have eOD : OD.length = ops.length := by rw [← hOD]; simp
  simp [e0, eOD, cl12, a1, f1, l1, hC2, d1, gL, an, r1, r2, d2, g2', d3, g3']

end LW
end
section
namespace LW
open PV PySem PySem.Spec PyProof.Rows L2
/-! TB: tables made and asked, where all is well. -/
theorem isi_ii {h : Hh} {n : Int} : isiW (.int n) (.ty "int") h = .ok (.bl true) h := by simp only [isiW, isiTy, tyD]; rfl
theorem isi_ib {h : Hh} {n : Int} : isiW (.int n) (.ty "bool") h = .ok (.bl false) h := by simp only [isiW, isiTy, tyD]; rfl
theorem c_is_number (k : Nat) {n : Int} {h : Hh} : callF T (k + 1) i_is_number [.int n] h = .ok (.bl (decide (0 ≤ n))) h := by
  rw [callF_s (d := ⟨1, 1, m_is_number⟩) rfl]
  simp [m_is_number, startW, isi_ii, isi_ib, mNotV]
theorem c_is_row (k : Nat) {x : Ent} {h : Hh} {v : Nat} {kvs : List (List Key × D)} (ev : h[v]? = some (.dT kvs)) (hs : 0 ≤ x.s) (ho : 0 ≤ x.o) (hk : (getK kvs (kOf x.s x.o)).isSome = true) (he : x.e = "reduce" ∨ x.e = "shift") : callF T (k + 2) i_is_row [x.enc, .ref v] h = .ok (.bl true) h := by
  rw [callF_s (d := ⟨2, 2, m_is_row⟩) rfl]
  have n1 := c_is_number k (n := x.s) (h := h)
  have n2 := c_is_number k (n := x.o) (h := h)
  rw [decide_eq_true hs] at n1
  rw [decide_eq_true ho] at n2
  have sl := slT_to (h := h) (ws := [.int x.s, .int x.o, .str x.e]) (n := 2) (by simp)
  have iT := inW_T (s := x.s) (o := x.o) ev
  rw [hk] at iT
  have ok : PyData.strOk x.e = true := by rcases he with z | z <;> rw [z] <;> decide +kernel
  have iS := inW_strs (h := h) (x := x.e) (ss := [("reduce" : Str), "shift"]) ok (by decide +kernel)
  have hm : x.e ∈ [("reduce" : Str), "shift"] := by rcases he with z | z <;> rw [z] <;> simp
  rw [decide_eq_true hm] at iS
  have e3 := neW_ni (h := h) (i := 3) (j := 3)
  simp only [List.map_cons, List.map_nil] at iS
  simp at sl
  simp [m_is_row, startW, Ent.enc, isi_tt, isi_ss, e3, n1, n2, sl, iT, iS]
theorem pairL_len {ops : List Opr} : (pairL ops).length ≤ ops.length * ops.length := by
  unfold pairL
  have h1 := idxs_len Opr.Rr ops
  have h2 := idxs_len Opr.L ops
  have : ∀ l : List Int, (l.flatMap fun s => (idxs Opr.L ops).map fun o => (s, o)).length ≤ l.length * ops.length := by
    intro l
    induction l with
    | nil => simp
    | cons a l ih =>
      simp only [List.flatMap_cons, List.length_append, List.length_map, List.length_cons]
      rw [Nat.add_mul]
      omega
  exact Nat.le_trans (this _) (Nat.mul_le_mul_right _ h1)
/-- {pair: v for pair in pairs(operators)} -/
def pcell (ops : List Opr) (v : D) : List (List Key × D) := putAll [] ((pairL ops).map fun q => (kOf q.1 q.2, v))
theorem pcell_get {ops : List Opr} {v : D} {s o : Int} : getK (pcell ops v) (kOf s o) = if (s, o) ∈ pairL ops then some v else none := by
  unfold pcell
  rw [getK_putAll (f := fun q : Int × Int => kOf q.1 q.2)]
  have : kOf s o ∈ (pairL ops).map (fun q => kOf q.1 q.2) ↔ (s, o) ∈ pairL ops := by
    constructor
    · intro h
      obtain ⟨q, hq, e⟩ := List.mem_map.mp h
      obtain ⟨e1, e2⟩ := kOf_inj.mp e
      rw [← e1, ← e2]; exact hq
    · intro h
      exact List.mem_map.mpr ⟨_, h, rfl⟩
  by_cases hm : (s, o) ∈ pairL ops
  · rw [if_pos (this.mpr hm), if_pos hm]
  · rw [if_neg (fun z => hm (this.mp z)), if_neg hm]; rfl
theorem pcell_len {ops : List Opr} {v : D} : (pcell ops v).length ≤ ops.length * ops.length := by
  unfold pcell
  have := putAll_len (acc := ([] : List (List Key × D))) (ps := (pairL ops).map fun q => (kOf q.1 q.2, v))
  have := pairL_len (ops := ops)
  simp at *
  omega
theorem pcell_dc (k : Nat) {ops : List Opr} (O : OpsOk ops) (hol : ops.length ≤ 12) {v : D} (hv : v.isTl = false) {t : Nat} {σ : Sg} {a0 : Nat} (ha : σ[a0]? = some (some (.tup (ops.map Opr.enc)))) (ht : t < σ.length) {h : Hh} :
    mDc kT (miE (mCall (callF T (k + 2)) i_pairs (mArgs [(mV a0)]))) (.nm t) (fun _ h => .ok true h) (mV t) (mC v) [t] σ h = .ok (.ref h.length) (h ++ [.dT (pcell ops v)]) := by
  obtain ⟨h1, u1, q1⟩ := c_pairs k ops (by omega) (fun o ho => (O.ok o ho).kd) h
  have g1 := gcR_ro0 (w := .tup ((pairL ops).map encP)) u1 (by rw [lim_tup]; exact lims_pairs)
  have mp : miE (mCall (callF T (k + 2)) i_pairs (mArgs [(mV a0)])) σ h = .ok (srcT ((pairL ops).map encP)) h := by
    have : mV a0 σ h = .ok (.tup (ops.map Opr.enc)) h := by rw [mV_ap, ha]
    simp [miE, this, q1, g1, srcOf, asT]
  have pl := pairL_len (ops := ops)
  have hm : ops.length * ops.length ≤ 12 * 12 := Nat.mul_le_mul hol hol
  have key := dc_pure (K := kT) (mi := miE (mCall (callF T (k + 2)) i_pairs (mArgs [(mV a0)]))) (t := .nm t) (mk := mV t) (mv := mC v) (vs := [t]) (σ := σ) (h := h) (h1 := h) (src := srcT ((pairL ops).map encP)) (ws := (pairL ops).map encP) (fun w => match w with
    | .tup [.int s, .int o] => (kOf s o, v)
    | _ => ([], v)) mp (fun j => rfl) (by rw [List.length_map]; exact szl (by omega)) (fun w hw => by
      obtain ⟨q, hq, rfl⟩ := List.mem_map.mp hw
      refine ⟨(wipeW σ [t]).set t (some (encP q)), encP q, rfl, ?_, rfl, rfl, hv⟩
      rw [mV_ap, List.getElem?_set_self (by simp [wipeW]; exact ht)])
  rw [List.map_map] at key
  exact key
theorem c_are_entries (k : Nat) {ops : List Opr} (O : OpsOk ops) (hol : ops.length ≤ 12) {es : List Ent} (E : EntsOk ops es) (hel : es.length ≤ 1000) (h : Hh) : ∃ h', Ux [] h h' ∧ callF T (k + 3) i_are_entries [.tup (ops.map Opr.enc), .tup (es.map Ent.enc)] h = .ok (.bl true) h' := by
  rw [callF_s (d := ⟨6, 2, m_are_entries⟩) rfl]
  have dc := pcell_dc k O hol (v := .bl true) rfl (t := 3) (σ := [some (.tup (ops.map Opr.enc)), some (.tup (es.map Ent.enc)), none, none, none, none]) (a0 := 0) rfl (by simp) (h := h)
  generalize hC : h ++ [Cl.dT (pcell ops (.bl true))] = C at dc
  have cv : C[h.length]? = some (.dT (pcell ops (.bl true))) := by rw [← hC]; simp
  have a1 := all_lc (mi := miE (mV 1)) (t := .nm 4) (me := mCall (callF T (k + 2)) i_is_row (mArgs [(mV 4), (mV 2)])) (vs := [4]) (σ := [some (.tup (ops.map Opr.enc)), some (.tup (es.map Ent.enc)), some (.ref h.length), none, none, none]) (h := C) (h1 := C) (src := srcT (es.map Ent.enc)) (ws := es.map Ent.enc) (fun _ => true) (by simp [miE, srcOf, asT]) (fun j => rfl) (by rw [List.length_map]; exact szl (by omega)) (fun w hw => by
    obtain ⟨x, hx, rfl⟩ := List.mem_map.mp hw
    have pn := pairL_nat (E.mem x hx)
    have r := c_is_row k (x := x) cv pn.1 pn.2.1 (by rw [pcell_get, if_pos (E.mem x hx)]; rfl) (E.val x hx)
    refine ⟨[some (.tup (ops.map Opr.enc)), some (.tup (es.map Ent.enc)), some (.ref h.length), none, some x.enc, none], rfl, ?_⟩
    have st : ∀ h, stash x.enc h = (x.enc, h) := fun _ => rfl
    simp [st, r])
  have a1' : (es.map Ent.enc).all (fun _ => true) = true := by simp
  rw [a1'] at a1
  have zs : ∀ w ∈ ((es.map Ent.enc).zip (es.map Ent.enc).tail).map (fun q => D.tup [q.1, q.2]), ∃ x y : Ent, w = .tup [x.enc, y.enc] ∧ HT.lexLt [x.s, x.o] [y.s, y.o] = true := fun w hw => by
    obtain ⟨q, hq, rfl⟩ := List.mem_map.mp hw
    obtain ⟨j, hj, e⟩ := List.getElem_of_mem hq
    simp only [List.length_zip, List.length_map, List.length_tail] at hj
    refine ⟨es[j]'(by omega), es[j + 1]'(by omega), ?_, List.pairwise_iff_getElem.mp E.asc j (j + 1) (by omega) (by omega) (by omega)⟩
    rw [← e, List.getElem_zip]
    simp [List.getElem_tail]
  have st : ∀ (x : Ent) (h : Hh), stash x.enc h = (x.enc, h) := fun _ _ => rfl
  have sl := slT_tail (h := C) (ws := es.map Ent.enc)
  have a2 := all_lc (mi := miZ (mV 1) (mSl (mV 1) (some (mC (.int 1))) none)) (t := .tu [(.nm 4), (.nm 5)]) (me := mOp ltW (mSl (mV 4) none (some (mC (.int 2)))) (mSl (mV 5) none (some (mC (.int 2))))) (vs := [4, 5]) (σ := [some (.tup (ops.map Opr.enc)), some (.tup (es.map Ent.enc)), some (.ref h.length), none, none, none]) (h := C) (h1 := C) (src := srcZ (srcT (es.map Ent.enc)) (srcT (es.map Ent.enc).tail)) (ws := ((es.map Ent.enc).zip (es.map Ent.enc).tail).map (fun q => D.tup [q.1, q.2])) (fun _ => true) (by simp [miZ, sl, asT]) (fun j => srcZ_at (fun j => srcT_at j) (fun j => srcT_at j) j) (by simp; exact szl (by omega)) (fun w hw => by
    obtain ⟨x, y, rfl, hlt⟩ := zs w hw
    have s1 := slT_to (h := C) (ws := [.int x.s, .int x.o, .str x.e]) (n := 2) (by simp)
    have s2 := slT_to (h := C) (ws := [.int y.s, .int y.o, .str y.e]) (n := 2) (by simp)
    have l := ltW_2 (h := C) (a := x.s) (b := x.o) (c := y.s) (d := y.o)
    rw [hlt] at l
    simp at s1 s2
    refine ⟨[some (.tup (ops.map Opr.enc)), some (.tup (es.map Ent.enc)), some (.ref h.length), none, some x.enc, some y.enc], by simp [wipeW], ?_⟩
    simp [Ent.enc, s1, s2, l])
  have a2' : (((es.map Ent.enc).zip (es.map Ent.enc).tail).map (fun q => D.tup [q.1, q.2])).all (fun _ => true) = true := by simp
  rw [a2'] at a2
  refine ⟨C, by rw [← hC]; exact .app, ?_⟩
  simp only [mF1_ap] at a1 a2
  simp only [m_are_entries, startW, List.map_cons, List.map_nil, List.length_cons, List.length_nil, if_true, List.replicate, List.cons_append, List.nil_append, Nat.reduceAdd, Nat.reduceSub]
  generalize ops.map Opr.enc = OD at *
  generalize es.map Ent.enc = ED at *
  simp [dc, isi_tt, a1, a2]
theorem c_table_init (k : Nat) {ops : List Opr} (O : OpsOk ops) (hol : ops.length ≤ 12) {es : List Ent} (E : EntsOk ops es) (hel : es.length ≤ 1000) (h : Hh) :
    ∃ kvs, TabAt (h ++ [.ins 0 (tf3 (.tup (ops.map Opr.enc)) (.tup (es.map Ent.enc)) (h.length + 1)), .dT kvs]) h.length ops es (h.length + 1) kvs ∧
      callF T (k + 6) i_Table___init__ [.ref h.length, .tup (ops.map Opr.enc), .tup (es.map Ent.enc)] (h ++ [.ins 0 []]) = .ok .non (h ++ [.ins 0 (tf3 (.tup (ops.map Opr.enc)) (.tup (es.map Ent.enc)) (h.length + 1)), .dT kvs]) := by
  rw [callF_s (d := ⟨7, 3, m_Table___init__⟩) rfl]
  obtain ⟨h1, u1, q1⟩ := c_is_operator_list k O hol (h ++ [.ins 0 []])
  have g1 := gcR_ro0 (w := .bl true) u1 (by simp)
  obtain ⟨h2, u2, q2⟩ := c_are_entries (k + 2) O hol E hel (h ++ [.ins 0 []])
  have g2 := gcR_ro0 (w := .bl true) u2 (by simp)
  have w1 := setFW_at (f := "operators") (k := h.length) (c := 0) (fs := []) (w := .tup (ops.map Opr.enc)) (h := h ++ [.ins 0 []]) (by simp) (by decide) (by simp) rfl
  have w2 := setFW_at (f := "entries") (k := h.length) (c := 0) (fs := (tf1 (.tup (ops.map Opr.enc)))) (w := .tup (es.map Ent.enc)) (h := h ++ [.ins 0 (tf1 (.tup (ops.map Opr.enc)))]) (by simp) (by decide) (by simp [tf1]) rfl
  have dc := pcell_dc (k + 3) O hol (v := .str "error") rfl (t := 3) (σ := [some (.ref h.length), some (.tup (ops.map Opr.enc)), some (.tup (es.map Ent.enc)), none, none, none, none]) (a0 := 1) rfl (by simp) (h := h ++ [.ins 0 (tf2 (.tup (ops.map Opr.enc)) (.tup (es.map Ent.enc)))])
  have w3 := setFW_at (f := "entry_by_pair") (k := h.length) (c := 0) (fs := (tf2 (.tup (ops.map Opr.enc)) (.tup (es.map Ent.enc)))) (w := .ref (h.length + 1)) (h := h ++ [.ins 0 (tf2 (.tup (ops.map Opr.enc)) (.tup (es.map Ent.enc))), .dT (pcell ops (.str "error"))]) (by simp) (by decide) (by simp [tf2]) rfl
  rw [tf_1] at w1
  rw [tf_2] at w2
  rw [tf_3] at w3
  have pl := pcell_len (ops := ops) (v := .str "error")
  have hm : ops.length * ops.length ≤ 12 * 12 := Nat.mul_le_mul hol hol
  obtain ⟨σ4, h4, q4, kvs, a3, a4, a5, a6, rfl, rfl, hg, hl⟩ := msFor_ok (mi := miE (mV 2)) (src := srcT (es.map Ent.enc)) (t := .tu [(.nm 4), (.nm 5), (.nm 6)]) (b := b_Table___init___1 (callF T (k + 5))) (ws := es.map Ent.enc)
    (σ := [some (.ref h.length), some (.tup (ops.map Opr.enc)), some (.tup (es.map Ent.enc)), none, none, none, none]) (h := h ++ [.ins 0 (tf3 (.tup (ops.map Opr.enc)) (.tup (es.map Ent.enc)) (h.length + 1)), .dT (pcell ops (.str "error"))]) (h1 := h ++ [.ins 0 (tf3 (.tup (ops.map Opr.enc)) (.tup (es.map Ent.enc)) (h.length + 1)), .dT (pcell ops (.str "error"))])
    (fun i σ h' => ∃ kvs a3 a4 a5 a6, σ = [some (.ref h.length), some (.tup (ops.map Opr.enc)), some (.tup (es.map Ent.enc)), a3, a4, a5, a6] ∧ h' = h ++ [.ins 0 (tf3 (.tup (ops.map Opr.enc)) (.tup (es.map Ent.enc)) (h.length + 1)), .dT kvs] ∧
      (∀ s o, getK kvs (kOf s o) = if (s, o) ∈ pairL ops then some (.str (entF (es.take i) s o)) else none) ∧ kvs.length ≤ 144 + i)
    (by simp [miE, srcOf, asT]) (fun j σ h' _ => srcT_at j)
    (by
      rintro i w σ h' ⟨kvs, a3, a4, a5, a6, rfl, rfl, hg, hl⟩ ej
      rw [List.getElem?_map] at ej
      obtain ⟨x, ex, rfl⟩ := Option.map_eq_some_iff.mp ej
      have hi := lt_of_get ex
      have cj : (h ++ [Cl.ins 0 (tf3 (.tup (ops.map Opr.enc)) (.tup (es.map Ent.enc)) (h.length + 1)), .dT kvs])[h.length + 1]? = some (.dT kvs) := by simp [List.getElem?_append_right]
      have ck : (h ++ [Cl.ins 0 (tf3 (.tup (ops.map Opr.enc)) (.tup (es.map Ent.enc)) (h.length + 1)), .dT kvs])[h.length]? = some (.ins 0 (tf3 (.tup (ops.map Opr.enc)) (.tup (es.map Ent.enc)) (h.length + 1))) := by simp
      have fl := fldX_at (f := "entry_by_pair") (w := .ref (h.length + 1)) ck (by decide) tf_p
      refine ⟨[some (.ref h.length), some (.tup (ops.map Opr.enc)), some (.tup (es.map Ent.enc)), a3, some (.int x.s), some (.int x.o), some (.str x.e)], [some (.ref h.length), some (.tup (ops.map Opr.enc)), some (.tup (es.map Ent.enc)), a3, some (.int x.s), some (.int x.o), some (.str x.e)], h ++ [.ins 0 (tf3 (.tup (ops.map Opr.enc)) (.tup (es.map Ent.enc)) (h.length + 1)), .dT (putD kvs (kOf x.s x.o) (.str x.e))], by simp [Ent.enc], .inl ?_, putD kvs (kOf x.s x.o) (.str x.e), a3, some (.int x.s), some (.int x.o), some (.str x.e), rfl, rfl, fun s o => ?_, ?_⟩
      · have sw : setW (.ref (h.length + 1)) (.tup [.int x.s, .int x.o]) (.str x.e) (h ++ [Cl.ins 0 (tf3 (.tup (ops.map Opr.enc)) (.tup (es.map Ent.enc)) (h.length + 1)), .dT kvs]) = some (h ++ [Cl.ins 0 (tf3 (.tup (ops.map Opr.enc)) (.tup (es.map Ent.enc)) (h.length + 1)), .dT (putD kvs (kOf x.s x.o) (.str x.e))]) := by
          have hz : kvs.length < sizeLine := szl (by omega)
          have m : mapO toK [D.int x.s, .int x.o] = some (kOf x.s x.o) := rfl
          simp only [setW, lstAt, cj, m, hz, D.isTl, and_self, if_true]
          congr 1
          rw [List.set_append_right _ _ (by omega)]
          simp
        simp [b_Table___init___1, fl, sw]
      · have hno : ∀ y ∈ es.take i, ¬ (y.s = x.s ∧ y.o = x.o) := fun y hy z => by
          obtain ⟨j, hj, e⟩ := List.getElem_of_mem hy
          have hj' : j < i := by simp at hj; omega
          have : HT.lexLt [(es[j]'(by omega)).s, (es[j]'(by omega)).o] [es[i].s, es[i].o] = true := List.pairwise_iff_getElem.mp E.asc j i (by omega) hi hj'
          have ey : es[j]'(by omega) = y := by rw [← e]; simp
          have exi : es[i] = x := by rw [List.getElem?_eq_getElem hi] at ex; exact Option.some.inj ex
          rw [ey, exi, z.1, z.2, lexLt_irr] at this
          cases this
        have tk : es.take (i + 1) = es.take i ++ [x] := by rw [List.take_succ, ex]; rfl
        rw [getK_put, hg, tk, entF_snoc hno]
        by_cases hx : s = x.s ∧ o = x.o
        · rw [if_pos hx, if_pos (kOf_inj.mpr hx), if_pos]
          rw [hx.1, hx.2]
          exact E.mem x (List.mem_of_getElem? ex)
        · rw [if_neg hx, if_neg (fun z => hx (kOf_inj.mp z))]
      · have := putD_len (kvs := kvs) (k := kOf x.s x.o) (w := .str x.e)
        omega)
    ⟨pcell ops (.str "error"), none, none, none, none, rfl, rfl, fun s o => by rw [pcell_get]; rfl, by omega⟩ (by simp; omega)
  have ht : es.take (es.map Ent.enc).length = es := by simp
  rw [ht] at hg
  refine ⟨kvs, ⟨by simp, by simp [List.getElem?_append_right], hg⟩, ?_⟩
  simp only [m_Table___init__, startW, List.map_cons, List.map_nil, List.length_cons, List.length_nil, if_true, List.replicate, List.cons_append, List.nil_append, Nat.reduceAdd, Nat.reduceSub]
  generalize ops.map Opr.enc = OD at *
  generalize es.map Ent.enc = ED at *
  simp at w1 w2 w3 dc
  simp [q1, g1, q2, g2, w1, w2, dc, w3, q4]
theorem c_mk_table (k : Nat) {ops : List Opr} (O : OpsOk ops) (hol : ops.length ≤ 12) {es : List Ent} (E : EntsOk ops es) (hel : es.length ≤ 1000) (h : Hh) :
    ∃ kvs, TabAt (h ++ [.ins 0 (tf3 (.tup (ops.map Opr.enc)) (.tup (es.map Ent.enc)) (h.length + 1)), .dT kvs]) h.length ops es (h.length + 1) kvs ∧
      callF T (k + 7) i_mk_Table_2 [.tup (ops.map Opr.enc), .tup (es.map Ent.enc)] h = .ok (.ref h.length) (h ++ [.ins 0 (tf3 (.tup (ops.map Opr.enc)) (.tup (es.map Ent.enc)) (h.length + 1)), .dT kvs]) := by
  obtain ⟨kvs, t, q⟩ := c_table_init k O hol E hel h
  refine ⟨kvs, t, ?_⟩
  rw [callF_mk (n := 2) (c := 0) (f' := i_Table___init__) (dws := []) rfl rfl]
  simp only [List.append_nil]
  rw [q]
  rfl
theorem c_entry (k : Nat) {h : Hh} {t j : Nat} {ops : List Opr} {es : List Ent} {kvs : List (List Key × D)} (ta : TabAt h t ops es j kvs) {s o : Int} (hm : (s, o) ∈ pairL ops) : callF T (k + 2) i_Table_entry [.ref t, .int s, .int o] h = .ok (.str (entF es s o)) h := by
  rw [callF_s (d := ⟨3, 3, m_Table_entry⟩) rfl]
  have pn := pairL_nat hm
  have n1 := c_is_number k (n := s) (h := h)
  have n2 := c_is_number k (n := o) (h := h)
  rw [decide_eq_true pn.1] at n1
  rw [decide_eq_true pn.2.1] at n2
  have fl := fldX_at (f := "entry_by_pair") (w := .ref j) ta.at_ (by decide) tf_p
  have hg := ta.get s o
  rw [if_pos hm] at hg
  have ni := niW_T (s := s) (o := o) ta.dic
  rw [hg] at ni
  have ix := ixW_T ta.dic hg
  simp at ni
  simp [m_Table_entry, startW, n1, n2, fl, ni, ix]

end LW
end
section
namespace LW
open PV PySem PySem.Spec PyProof.Rows L2
/-! LE: the law's own pairs; entries drawn. -/
theorem c_lpairs (k : Nat) {ops : List Opr} (hl : ops.length ≤ 1000) (hk : ∀ o ∈ ops, o.kind ∈ kinds) (h : Hh) : callF T (k + 2) i_law_pairs [.tup (ops.map Opr.enc)] h = .ok (.ref h.length) (h ++ [.lst ((pairL ops).map encP)]) := by
  rw [callF_s (d := ⟨6, 1, m_law_pairs⟩) rfl]
  have lL := idxs_len Opr.L ops
  obtain ⟨σ2, h2, e2, ⟨a2, a3, rfl⟩, rfl⟩ := msFor_ok (mi := miEn (mV 0)) (src := srcE (srcT (ops.map Opr.enc))) (t := .tu [(.nm 2), (.nm 3)]) (b := b_law_pairs_1 (callF T (k + 1))) (ws := enumD (ops.map Opr.enc))
    (σ := [some (.tup (ops.map Opr.enc)), some (.ref h.length), none, none, none, none]) (h := h ++ [.lst []]) (h1 := h ++ [.lst []])
    (fun j σ h' => (∃ a2 a3, σ = [some (.tup (ops.map Opr.enc)), some (.ref h.length), a2, a3, none, none]) ∧ h' = h ++ [.lst (((idxs Opr.Rr (ops.take j)).flatMap fun s => (idxs Opr.L ops).map fun o => (s, o)).map encP)])
    rfl (fun j σ h' _ => srcE_at (fun _ => rfl) j)
    (by
      rintro j w σ h' ⟨⟨a2, a3, rfl⟩, rfl⟩ ej
      unfold enumD at ej
      rw [List.getElem?_mapIdx, List.getElem?_map] at ej
      obtain ⟨y, ey, rfl⟩ := Option.map_eq_some_iff.mp ej
      obtain ⟨o, eo, rfl⟩ := Option.map_eq_some_iff.mp ey
      have hj := lt_of_get eo
      have ho := hk o (List.mem_of_getElem? eo)
      have tk : ops.take (j + 1) = ops.take j ++ [o] := by rw [List.take_succ, eo]; rfl
      have tl : (ops.take j).length = j := by simp; omega
      have lR := idxs_len Opr.Rr (ops.take j)
      have hlen : ((idxs Opr.Rr (ops.take j)).flatMap fun s => (idxs Opr.L ops).map fun o => (s, o)).length ≤ j * 1000 := by
        have : ∀ l : List Int, (l.flatMap fun s => (idxs Opr.L ops).map fun o => (s, o)).length ≤ l.length * 1000 := by
          intro l
          induction l with
          | nil => simp
          | cons a l ih => simp only [List.flatMap_cons, List.length_append, List.length_map, List.length_cons]; omega
        have := this (idxs Opr.Rr (ops.take j))
        omega
      rw [tk, idxs_snoc, tl, List.flatMap_append]
      generalize hP : (idxs Opr.Rr (ops.take j)).flatMap (fun s => (idxs Opr.L ops).map fun o => (s, o)) = P at hlen
      have hh := c_lhas k o ho (h ++ [Cl.lst (P.map encP)])
      have cq : (h ++ [Cl.lst (P.map encP)])[h.length]? = some (.lst (P.map encP)) := by simp
      cases hR : o.Rr with
      | false =>
        refine ⟨_, [some (.tup (ops.map Opr.enc)), some (.ref h.length), some (.int j), some o.enc, none, none], h ++ [.lst (P.map encP)], rfl, .inl ?_, ⟨_, _, rfl⟩, by simp⟩
        rw [hR] at hh
        have st : stash o.enc (h ++ [Cl.lst (P.map encP)]) = (o.enc, h ++ [Cl.lst (P.map encP)]) := rfl
        generalize o.enc = oe at *
        simp [b_law_pairs_1, st, hh]
      | true =>
        rw [hR] at hh
        have lc := lc_pure (mi := miEn (mV 0)) (t := .tu [(.nm 4), (.nm 5)]) (mt := mB (mOp ixW (mCall (callF T (k + 1)) i_law_has (mArgs [(mV 5)])) (mC (.int 0)))) (me := mTup (mArgs [(mV 2), (mV 4)])) (vs := [4, 5]) (σ := [some (.tup (ops.map Opr.enc)), some (.ref h.length), some (.int j), some o.enc, none, none]) (h := h ++ [Cl.lst (P.map encP)]) (h1 := h ++ [Cl.lst (P.map encP)]) (src := srcE (srcT (ops.map Opr.enc))) (ws := enumD (ops.map Opr.enc)) (fun w => (gI dL w).map fun x => D.tup [.int j, x]) rfl (fun j => srcE_at (fun _ => rfl) j) (by simp [enumD]; exact szl (by omega)) (by
          intro w hw
          unfold enumD at hw
          obtain ⟨i, hi, rfl⟩ := List.mem_mapIdx.mp hw
          simp only [List.getElem_map]
          have hm : ops[i]'(by simpa using hi) ∈ ops := List.getElem_mem _
          generalize ops[i]'(by simpa using hi) = o2 at hm
          have ec := c_lhas k o2 (hk o2 hm) (h ++ [Cl.lst (P.map encP)])
          refine ⟨_, rfl, ?_⟩
          have hd : dL o2.enc = o2.L := rfl
          have st : stash o2.enc (h ++ [Cl.lst (P.map encP)]) = (o2.enc, h ++ [Cl.lst (P.map encP)]) := rfl
          cases hL : o2.L with
          | true =>
            rw [hL] at ec hd
            refine .inl ⟨.tup [.int j, .int i], by simp [gI, hd], ?_, by simp [wipeW], rfl⟩
            generalize o2.enc = oe at *
            simp [wipeW, st, ec]
          | false =>
            rw [hL] at ec hd
            refine .inr ⟨by simp [gI, hd], ?_⟩
            generalize o2.enc = oe at *
            simp [wipeW, st, ec])
        have fm : (enumD (ops.map Opr.enc)).filterMap (fun w => (gI dL w).map fun x => D.tup [.int j, x]) = ((idxs Opr.L ops).map fun o => ((j : Int), o)).map encP := by
          have := gI_idxs dL Opr.L (fun o => rfl) ops
          rw [List.map_map, ← List.map_filterMap, this, List.map_map]
          rfl
        rw [fm] at lc
        refine ⟨[some (.tup (ops.map Opr.enc)), some (.ref h.length), some (.int j), some o.enc, none, none], [some (.tup (ops.map Opr.enc)), some (.ref h.length), some (.int j), some o.enc, none, none], h ++ [.lst ((P ++ (idxs Opr.L ops).map fun o => ((j : Int), o)).map encP)], rfl, .inl ?_, ⟨_, _, rfl⟩, by simp⟩
        have m := mM1_l (op := extendW) (o := mV 1) (a := mLc (miEn (mV 0)) (.tu [(.nm 4), (.nm 5)]) (mB (mOp ixW (mCall (callF T (k + 1)) i_law_has (mArgs [(mV 5)])) (mC (.int 0)))) (mTup (mArgs [(mV 2), (mV 4)])) [4, 5]) (σ := [some (.tup (ops.map Opr.enc)), some (.ref h.length), some (.int j), some o.enc, none, none]) (h := h ++ [Cl.lst (P.map encP)]) (p := h.length) rfl cq
        have ex : extendW (.ref h.length) (.tl (((idxs Opr.L ops).map fun o => ((j : Int), o)).map encP)) (h ++ [Cl.lst (P.map encP)]) = .ok .non (h ++ [.lst ((P ++ (idxs Opr.L ops).map fun o => ((j : Int), o)).map encP)]) := by
          have : (P.map encP).length + (((idxs Opr.L ops).map fun o => ((j : Int), o)).map encP).length ≤ sizeLine := by simp only [List.length_map]; exact sz (by omega)
          simp only [extendW, lstAt, cq, asM, this, if_true]
          simp
        have tst : mB (mOp ixW (mCall (callF T (k + 1)) i_law_has (mArgs [(mV 3)])) (mC (.int 1))) [some (.tup (ops.map Opr.enc)), some (.ref h.length), some (.int j), some o.enc, none, none] (h ++ [Cl.lst (P.map encP)]) = .ok true (h ++ [Cl.lst (P.map encP)]) := by
          have st : stash o.enc (h ++ [Cl.lst (P.map encP)]) = (o.enc, h ++ [Cl.lst (P.map encP)]) := rfl
          generalize o.enc = oe at *
          simp [st, hh]
        simp only [b_law_pairs_1, msIf_ap, tst, R.then_ok, if_true]
        show (mM1 (on1 "list" extendW) (mV 1) _ _ _).then _ _ = _
        rw [m, lc, R.bind_ok, ex]
        rfl)
    ⟨⟨none, none, rfl⟩, by simp [idxs_nil]⟩ (by simp [enumD]; omega)
  have tk : ops.take (enumD (ops.map Opr.enc)).length = ops := by simp [enumD]
  rw [tk] at e2
  simp [m_law_pairs, startW, e2, pairL]
def lent (kd : Int) : Prop := kd = 0 ∨ kd = 1 ∨ kd = 2 ∨ kd = 3 ∨ kd = 4
/-- one entry drawn -/
theorem lent_turn (k : Nat) {h : Hh} {i c qw qe : Nat} {kd : Nat} {wt : List Nat} {es : List Ent} {s o : Int} {a1 a4 a8 : Option D} (e : Sr h i c) (hc : c < 1000000) (ew : h[qw]? = some (.lst (wt.map fun n : Nat => D.int n))) (ee : h[qe]? = some (.lst (es.map Ent.enc))) (hwi : qw ≠ i) (hei : qe ≠ i) (hwe : qw ≠ qe) (hs : 0 ≤ s ∧ s < wt.length) (ho : 0 ≤ o ∧ o < wt.length) (hel : es.length ≤ 1000) (hkd : kd < 5) :
    ∃ (es' : List Ent) (a8' : Option D) (h' : Hh), (es' = es ∨ ∃ v : Str, (v = "reduce" ∨ v = "shift") ∧ es' = es ++ [⟨s, o, v⟩]) ∧ Sr h' i (c + 2) ∧ h'[qe]? = some (.lst (es'.map Ent.enc)) ∧ Up [i, qe] h h' ∧
      b_law_entries_1 (callF T (k + 3)) [some (.ref i), a1, some (.int kd), some (.ref qw), a4, some (.ref qe), some (.int s), some (.int o), a8] h = .nx [some (.ref i), a1, some (.int kd), some (.ref qw), a4, some (.ref qe), some (.int s), some (.int o), a8'] h' := by
  have vals : ∀ {w : D}, w ∈ [D.str "reduce", .str "shift", .str "error"] → ∃ v : Str, w = .str v ∧ (v = "reduce" ∨ v = "shift" ∨ v = "error") := fun {w} hw => by
    simp at hw; rcases hw with rfl | rfl | rfl
    · exact ⟨_, rfl, .inl rfl⟩
    · exact ⟨_, rfl, .inr (.inl rfl)⟩
    · exact ⟨_, rfl, .inr (.inr rfl)⟩
  obtain ⟨w1, h1, hw1, e1, u1, q1⟩ := p_pick (k + 1) (ws := [.str "reduce", .str "shift", .str "error"]) e (by decide) (by decide) (by omega) (fun w hw n => by
    simp at hw; rcases hw with rfl | rfl | rfl <;> rfl)
  obtain ⟨v1, rfl, hv1⟩ := vals hw1
  have ew1 := u1.get ew (by simpa using hwi)
  have ee1 := u1.get ee (by simpa using hei)
  have wi : ∀ {x : Int}, 0 ≤ x ∧ x < wt.length → ∃ n : Nat, ∀ h2, h2[qw]? = some (.lst (wt.map fun n : Nat => D.int n)) → ixW (.ref qw) (.int x) h2 = .ok (.int n) h2 := fun {x} hx => by
    have hlt : x.toNat < wt.length := by omega
    refine ⟨wt[x.toNat], fun h2 ew2 => ?_⟩
    have := ixW_rn (n := x.toNat) (w := .int wt[x.toNat]) ew2 (by rw [List.getElem?_map, List.getElem?_eq_getElem hlt]; rfl)
    rwa [Int.toNat_of_nonneg hx.1] at this
  obtain ⟨ns, ixs⟩ := wi hs
  obtain ⟨no, ixo⟩ := wi ho
  obtain ⟨n0, ix0⟩ := wi (x := 0) (by omega)
  -- the second step
  have S2 : ∃ (v : Str) (h2 : Hh), (v = "reduce" ∨ v = "shift" ∨ v = "error") ∧ Sr h2 i (c + 2) ∧ Up [i] h1 h2 ∧ (msIf (mB (mOp eqW (mV 2) (mC (.int 0)))) (msAsg (.nm 8) (mIf (mB (mOp gtW (mOp ixW (mV 3) (mV 6)) (mOp ixW (mV 3) (mV 7)))) (mC (.str "reduce")) (mIf (mB (mOp ltW (mOp ixW (mV 3) (mV 6)) (mOp ixW (mV 3) (mV 7)))) (mC (.str "shift")) (mV 8)))) (msIf (mAndB (mB (mOp eqW (mV 2) (mC (.int 1)))) (mB (mOp eqW (mV 8) (mC (.str "error"))))) (msAsg (.nm 8) (mCall (callF T (k + 3)) i_law_pick (mArgs [(mV 0), (mLst (mArgs [(mC (.str "reduce")), (mC (.str "shift")), (mC (.str "shift"))]))]))) (msIf (mAndB (mB (mOp eqW (mV 2) (mC (.int 2)))) (mB (mOp gtW (mCall (callF T (k + 3)) i_law_draw (mArgs [(mV 0), (mC (.int 3))])) (mC (.int 0))))) (msAsg (.nm 8) (mC (.str "error"))) (msIf (mB (mOp eqW (mV 2) (mC (.int 3)))) (msAsg (.nm 8) (mOp ixW (mLst (mArgs [(mC (.str "reduce")), (mC (.str "shift"))])) (mOp modW (mOp ixW (mV 3) (mC (.int 0))) (mC (.int 2))))) msNil)))) [some (.ref i), a1, some (.int kd), some (.ref qw), a4, some (.ref qe), some (.int s), some (.int o), some (.str v1)] h1 = .nx [some (.ref i), a1, some (.int kd), some (.ref qw), a4, some (.ref qe), some (.int s), some (.int o), some (.str v)] h2 := by
    have i1 := ixs h1 ew1
    have i2 := ixo h1 ew1
    have i3 := ix0 h1 ew1
    have t0 : ixW (.tl [.str "reduce", .str "shift"]) (.int 0) h1 = .ok (.str "reduce") h1 := by simp [ixW, asL, asT, atI, ixN]
    have t1 : ixW (.tl [.str "reduce", .str "shift"]) (.int 1) h1 = .ok (.str "shift") h1 := by simp [ixW, asL, asT, atI, ixN]
    have hk : kd = 0 ∨ kd = 1 ∨ kd = 2 ∨ kd = 3 ∨ kd = 4 := by omega
    rcases hk with rfl | rfl | rfl | rfl | rfl
    · by_cases hg : (ns : Int) > no
      · exact ⟨"reduce", h1, .inl rfl, e1.mono (by omega), .rfl', by simp [eqW_int, i1, i2, hg]⟩
      · by_cases hl : (ns : Int) < no
        · exact ⟨"shift", h1, .inr (.inl rfl), e1.mono (by omega), .rfl', by simp [eqW_int, i1, i2, hg, hl]⟩
        · exact ⟨v1, h1, hv1, e1.mono (by omega), .rfl', by simp [eqW_int, i1, i2, hg, hl]⟩
    · by_cases hv : v1 = "error"
      · obtain ⟨w2, h2, hw2, e2, u2, q2⟩ := p_pick (k + 1) (ws := [.str "reduce", .str "shift", .str "shift"]) e1 (by decide) (by decide) (by omega) (fun w hw n => by
          simp at hw; rcases hw with rfl | rfl | rfl <;> rfl)
        obtain ⟨v2, rfl, hv2⟩ := vals (w := w2) (by simp at hw2 ⊢; rcases hw2 with rfl | rfl <;> simp)
        exact ⟨v2, h2, hv2, e2, u2, by simp [eqW_int, hv, q2]⟩
      · exact ⟨v1, h1, hv1, e1.mono (by omega), .rfl', by simp [eqW_int, hv]⟩
    · obtain ⟨r, h2, hr, e2, u2, q2⟩ := c_draw (k + 2) (n := 3) e1 (by decide) (by decide) (by omega)
      have g2 := gcR_up0 u2 (w := .int r) (by simp)
      by_cases hg : r = 0
      · have g3 := gcR_up0 u2 (w := .int 0) (by simp)
        exact ⟨v1, h2, hv1, e2, u2, by simp [eqW_int, q2, g3, hg]⟩
      · exact ⟨"error", h2, .inr (.inr rfl), e2, u2, by simp [eqW_int, q2, g2, hg]⟩
    · have hm : (n0 : Int) % 2 = 0 ∨ (n0 : Int) % 2 = 1 := by omega
      rcases hm with hm | hm
      · exact ⟨"reduce", h1, .inl rfl, e1.mono (by omega), .rfl', by simp [eqW_int, i3, hm, t0]⟩
      · exact ⟨"shift", h1, .inr (.inl rfl), e1.mono (by omega), .rfl', by simp [eqW_int, i3, hm, t1]⟩
    · exact ⟨v1, h1, hv1, e1.mono (by omega), .rfl', by simp [eqW_int]⟩
  obtain ⟨v, h2, hv, e2, u2, q2⟩ := S2
  have ee2 := u2.get ee1 (by simpa using hei)
  have s1 : msAsg (.nm 8) (mCall (callF T (k + 3)) i_law_pick (mArgs [(mV 0), (mLst (mArgs [(mC (.str "reduce")), (mC (.str "shift")), (mC (.str "error"))]))])) [some (.ref i), a1, some (.int kd), some (.ref qw), a4, some (.ref qe), some (.int s), some (.int o), a8] h = .nx [some (.ref i), a1, some (.int kd), some (.ref qw), a4, some (.ref qe), some (.int s), some (.int o), some (.str v1)] h1 := by simp [q1]
  by_cases hve : v = "error"
  · refine ⟨es, some (.str v), h2, .inl rfl, e2, ee2, (u1.trans u2).mono (by simp), ?_⟩
    simp only [b_law_entries_1, msSeq_ap, s1, RT.seq_nx, q2]
    simp [hve]
  · have hv' : v = "reduce" ∨ v = "shift" := by
      rcases hv with h | h | h
      · exact .inl h
      · exact .inr h
      · exact absurd h hve
    have ap := append_ref (y := Ent.enc ⟨s, o, v⟩) ee2 (by rw [List.length_map]; exact szl (by omega)) rfl
    have tf := tyM_ref ee2
    refine ⟨es ++ [⟨s, o, v⟩], some (.str v), h2.set qe (.lst (es.map Ent.enc ++ [Ent.enc ⟨s, o, v⟩])), .inr ⟨v, hv', rfl⟩, e2.up (Up.set (is := [qe]) (by simp)) (by simpa using fun z => hei z.symm), ?_, ((u1.trans u2).mono (by simp)).trans (.set (by simp)), ?_⟩
    · rw [set_get (lt_of_get ee2)]; simp
    · simp only [b_law_entries_1, msSeq_ap, s1, RT.seq_nx, q2]
      simp only [Ent.enc] at ap
      simp [hve, tf, ap, Ent.enc]
theorem c_lentries (k : Nat) {ops : List Opr} (O : OpsOk ops) (hol : ops.length ≤ 12) {h : Hh} {i c : Nat} (e : Sr h i c) (hc : c < 100000) :
    ∃ (es : List Ent) (h' : Hh), EntsOk ops es ∧ es.length ≤ 144 ∧ Sr h' i (c + 400) ∧ Ux [i] h h' ∧ callF T (k + 4) i_law_entries [.ref i, .tup (ops.map Opr.enc)] h = .ok (.tup (es.map Ent.enc)) h' := by
  rw [callF_s (d := ⟨9, 2, m_law_entries⟩) rfl]
  have lt0 := e.lt
  obtain ⟨kd, h1, hk1, e1, u1, q1⟩ := c_draw (k + 2) (n := 5) e (by decide) (by decide) (by omega)
  have g1 := gcR_up0 u1 (w := .int kd) (by simp)
  obtain ⟨acc, h2, q2, al, wt, rfl, wl, e2, u2⟩ := lc_inv (mi := miE (mV 1)) (t := .nm 4) (me := mCall (callF T (k + 3)) i_law_draw (mArgs [(mV 0), (mC (.int 4))])) (vs := [4]) (σ := [some (.ref i), some (.tup (ops.map Opr.enc)), none, none, none, none, none, none, none]) (h := h1) (h1 := h1) (src := srcT (ops.map Opr.enc)) (ws := ops.map Opr.enc)
    (fun j acc h' => ∃ wt : List Nat, acc = wt.map (fun n : Nat => D.int n) ∧ wt.length = j ∧ Sr h' i (c + 1 + j) ∧ Up [i] h1 h')
    (by simp [miE, srcOf, asT]) (fun j acc h' _ => srcT_at j) (by rw [List.length_map]; exact szl (by omega))
    ⟨[], rfl, rfl, e1, .rfl'⟩ (by
      rintro j w acc h' ⟨wt, rfl, wl, e', u'⟩ _ ej
      have hj := lt_of_get ej
      simp at hj
      obtain ⟨r, h3, hr, e3, u3, q3⟩ := c_draw (k + 2) (n := 4) e' (by decide) (by decide) (by omega)
      have g3 := gcR_up0 u3 (w := .int r) (by simp)
      exact ⟨_, .int r, h3, rfl, by simp [wipeW, q3, g3], wt ++ [r], by simp, by simp [wl], e3, u'.trans u3⟩)
  simp only [List.length_map] at wl e2
  have hpl := pairL_len (ops := ops)
  have hm : ops.length * ops.length ≤ 12 * 12 := Nat.mul_le_mul hol hol
  have lp := c_lpairs (k + 1) (ops := ops) (by omega) (fun o ho => (O.ok o ho).kd) (h2 ++ [Cl.lst (wt.map fun n : Nat => D.int n), .lst []])
  have gp : gcR (h2 ++ [Cl.lst (wt.map fun n : Nat => D.int n), .lst []]) (callF T (k + 3) i_law_pairs [.tup (ops.map Opr.enc)] (h2 ++ [Cl.lst (wt.map fun n : Nat => D.int n), .lst []])) = .ok (.tl ((pairL ops).map encP)) (h2 ++ [Cl.lst (wt.map fun n : Nat => D.int n), .lst []]) :=
    gcR_ret0 (ws := (pairL ops).map encP) ⟨_, _, lp, .app, .inr ⟨_, rfl, Nat.le_refl _, by simp⟩⟩ lims_pairs
  have li2 := e2.lt
  have lu1 := u1.len
  have lu2 := u2.len
  obtain ⟨σ3, h3, q3, es, a6, a7, a8, rfl, hsub, hval, e3, ee3, u3⟩ := msFor_ok (mi := miE (mCall (callF T (k + 3)) i_law_pairs (mArgs [(mV 1)]))) (src := srcL (.tl ((pairL ops).map encP))) (t := .tu [(.nm 6), (.nm 7)]) (b := b_law_entries_1 (callF T (k + 3))) (ws := (pairL ops).map encP)
    (σ := [some (.ref i), some (.tup (ops.map Opr.enc)), some (.int kd), some (.ref h2.length), none, some (.ref (h2.length + 1)), none, none, none]) (h := h2 ++ [Cl.lst (wt.map fun n : Nat => D.int n), .lst []]) (h1 := h2 ++ [Cl.lst (wt.map fun n : Nat => D.int n), .lst []])
    (fun j σ h' => ∃ (es : List Ent) (a6 a7 a8 : Option D), σ = [some (.ref i), some (.tup (ops.map Opr.enc)), some (.int kd), some (.ref h2.length), none, some (.ref (h2.length + 1)), a6, a7, a8] ∧ (es.map Ent.key).Sublist ((pairL ops).take j) ∧ (∀ x ∈ es, x.e = "reduce" ∨ x.e = "shift") ∧ Sr h' i (c + 1 + ops.length + 2 * j) ∧ h'[h2.length + 1]? = some (.lst (es.map Ent.enc)) ∧ Up [i, h2.length + 1] (h2 ++ [Cl.lst (wt.map fun n : Nat => D.int n), .lst []]) h')
    (by simp [miE, gp, srcOf, asT, asL]) (fun j σ h' _ => srcL_tl j)
    (by
      rintro j w σ h' ⟨es, a6, a7, a8, rfl, hsub, hval, e', ee', u'⟩ ej
      rw [List.getElem?_map] at ej
      obtain ⟨⟨s, o⟩, eq, rfl⟩ := Option.map_eq_some_iff.mp ej
      have hj := lt_of_get eq
      have pn := pairL_nat (List.mem_of_getElem? eq)
      have tk : (pairL ops).take (j + 1) = (pairL ops).take j ++ [(s, o)] := by rw [List.take_succ, eq]; rfl
      have hel := hsub.length_le
      simp at hel
      have ew' : h'[h2.length]? = some (.lst (wt.map fun n : Nat => D.int n)) := u'.get (by simp) (by simp; omega)
      obtain ⟨es', a8', h4, hes, e4, ee4, u4, q4⟩ := lent_turn k (kd := kd) (wt := wt) (es := es) (s := s) (o := o) (a1 := some (.tup (ops.map Opr.enc))) (a4 := none) (a8 := a8) e' (by omega) ew' ee' (by omega) (by omega) (by omega) (by simp at pn; omega) (by simp at pn; omega) (by omega) (by omega)
      refine ⟨_, _, h4, rfl, .inl q4, es', _, _, a8', rfl, ?_, ?_, e4.mono (by omega), ee4, u'.trans u4⟩
      · rw [tk]
        rcases hes with rfl | ⟨v, _, rfl⟩
        · exact hsub.trans (List.sublist_append_left _ _)
        · rw [List.map_append]
          exact List.Sublist.append hsub (List.Sublist.refl _)
      · rcases hes with rfl | ⟨v, hv, rfl⟩
        · exact hval
        · intro x hx
          rcases List.mem_append.mp hx with hx | hx
          · exact hval x hx
          · have : x = ⟨s, o, v⟩ := by simpa using hx
            subst this; exact hv)
    ⟨[], none, none, none, rfl, by simp, by simp, (e2.app).mono (by omega), by simp [List.getElem?_append_right], .rfl'⟩ (by simp; omega)
  have tk : (pairL ops).take ((pairL ops).map encP).length = pairL ops := by simp
  rw [tk] at hsub
  have hel := hsub.length_le
  simp only [List.length_map] at hel e3
  have tp := tupleW_ref ee3
  refine ⟨es, h3, ents_of hsub hval, by omega, e3.mono (by omega), ?_, ?_⟩
  · have x1 : Ux [i] h h2 := (u1.trans u2).ux
    have x3 : Ux [i] h2 h3 := u3.loc (by
      intro j hj hlt
      simp at hj ⊢
      omega)
    exact x1.trans x3
  · have s1 : msAsg (.tu [(.nm 2), (.nm 3)]) (mTup (mArgs [(mCall (callF T (k + 3)) i_law_draw (mArgs [(mV 0), (mC (.int 5))])), (mLc (miE (mV 1)) (.nm 4) (fun _ h => .ok true h) (mCall (callF T (k + 3)) i_law_draw (mArgs [(mV 0), (mC (.int 4))])) [4])])) [some (.ref i), some (.tup (ops.map Opr.enc)), none, none, none, none, none, none, none] h = .nx [some (.ref i), some (.tup (ops.map Opr.enc)), some (.int kd), some (.ref h2.length), none, none, none, none, none] (h2 ++ [Cl.lst (wt.map fun n : Nat => D.int n)]) := by
      simp [q1, g1, q2]
    simp only [m_law_entries, startW, List.map_cons, List.map_nil, List.length_cons, List.length_nil, if_true, List.replicate, List.cons_append, List.nil_append, Nat.reduceAdd, Nat.reduceSub, msSeq_ap, s1, RT.seq_nx]
    simp [q3, tp]

end LW
end
section
namespace LW
open PV PySem PySem.Spec PyProof.Rows L2
/-! TD: the entry of each pair, in a dict; what stands after a call. -/
theorem gcR_ref {h h' : Hh} {kvs : List (List Key × D)} (u : Ux [] h h') (e : h'[h.length]? = some (.dT kvs)) : ∃ h2, gcR h (.ok (.ref h.length) h') = .ok (.ref h.length) h2 ∧ Ux [] h h2 ∧ h2[h.length]? = some (.dT kvs) := by
  have e1 : (D.ref h.length).lim h.length = false := by simp [D.lim]
  simp only [gcR, gc, e1, e, Bool.false_eq_true, if_false]
  split
  · split
    · refine ⟨_, rfl, ?_, ?_⟩
      · have hl := u.len
        refine ⟨by simp; omega, fun j hj hm => ?_⟩
        rw [List.getElem?_append_left (by simp; omega), List.getElem?_take, if_pos hj]
        exact u.same j hj hm
      · have hl := lt_of_get e
        have : (h'.take h.length).length = h.length := by simp; omega
        rw [List.getElem?_append_right (by omega), this]
        simp
    · exact ⟨_, rfl, u, e⟩
  · exact ⟨_, rfl, u, e⟩
theorem gcR_ins {h h' : Hh} {i c : Nat} {fs : List (Str × D)} (e : h'[i]? = some (.ins c fs)) (hi : h.length ≤ i) (hf : limK h.length fs = false) : gcR h (.ok (.ref i) h') = .ok (.ref i) h' := by
  have e1 : (D.ref i).lim h.length = false := by simp [D.lim]; omega
  have e3 : (Cl.ins c fs).lim h.length = false := hf
  simp only [gcR, gc, e1, e, e3, Bool.false_eq_true, if_false, false_and]
  split <;> rfl
theorem gcR_tab' {h : Hh} {od ed : D} {kvs : List (List Key × D)} : gcR h (.ok (.ref h.length) (h ++ [.ins 0 (tf3 od ed (h.length + 1)), .dT kvs])) = .ok (.ref h.length) (h ++ [.ins 0 (tf3 od ed (h.length + 1)), .dT kvs]) := by
  refine gcR_ins (c := 0) (fs := tf3 od ed (h.length + 1)) (by simp) (Nat.le_refl _) ?_
  have : (D.ref (h.length + 1)).lim h.length = false := by simp [D.lim]
  simp [limK, tf3, this]
theorem gcR_two {h h' : Hh} {a b : Nat} (ha : h.length ≤ a) : gcR h (.ok (.tup [.ref a, .ref b]) h') = .ok (.tup [.ref a, .ref b]) h' := by
  have e1 : (D.tup [.ref a, .ref b]).lim h.length = false := by simp [D.lim, D.lims]; omega
  simp only [gcR, gc, e1, Bool.false_eq_true, if_false]
  split <;> rfl
theorem slE2 {x : Ent} {h : Hh} : slW x.enc none (some 2) h = .ok (.tup [.int x.s, .int x.o]) h := by
  have := slT_to (h := h) (ws := [.int x.s, .int x.o, .str x.e]) (n := 2) (by simp)
  simpa [Ent.enc] using this
theorem ixE2 {x : Ent} {h : Hh} : ixW x.enc (.int 2) h = .ok (.str x.e) h := by simp [Ent.enc]
theorem dictTW_es {h : Hh} {es : List Ent} : dictTW (.tl (es.map fun x => .tup [.tup [.int x.s, .int x.o], .str x.e])) h = .ok (.ref h.length) (h ++ [.dT (ecell es)]) := by
  have : mapO pairT (es.map fun x => D.tup [.tup [.int x.s, .int x.o], .str x.e]) = some (es.map fun x => (kOf x.s x.o, .str x.e)) := mapO_map fun x _ => rfl
  simp only [dictTW, asL, this, ecell]
theorem mrg_len : ∀ {kvs acc : List (List Key × D)}, (mergeTD acc kvs).length ≤ acc.length + kvs.length
  | [], acc => by simp [mergeTD]
  | p :: kvs, acc => by
    have h1 := mrg_len (kvs := kvs) (acc := putD acc p.1 p.2)
    have h2 := putD_len (kvs := acc) (k := p.1) (w := p.2)
    show (mergeTD (putD acc p.1 p.2) kvs).length ≤ _
    simp only [List.length_cons]
    omega
theorem c_told (k : Nat) {ops : List Opr} (O : OpsOk ops) (hol : ops.length ≤ 12) {es : List Ent} (E : EntsOk ops es) (hel : es.length ≤ 1000) (h : Hh) : ∃ h', Ux [] h h' ∧ TdAt h' h.length ops es ∧ gcR h (callF T (k + 3) i_law_told [.tup (ops.map Opr.enc), .tup (es.map Ent.enc)] h) = .ok (.ref h.length) h' := by
  have lp := c_lpairs k (ops := ops) (by omega) (fun o ho => (O.ok o ho).kd) h
  have gp : gcR h (callF T (k + 2) i_law_pairs [.tup (ops.map Opr.enc)] h) = .ok (.tl ((pairL ops).map encP)) h := gcR_ret0 (ws := (pairL ops).map encP) ⟨_, _, lp, .app, .inr ⟨_, rfl, Nat.le_refl _, by simp⟩⟩ lims_pairs
  have hpl := pairL_len (ops := ops)
  have hm : ops.length * ops.length ≤ 12 * 12 := Nat.mul_le_mul hol hol
  have sto : ∀ h, stash (.tup (ops.map Opr.enc)) h = (.tup (ops.map Opr.enc), h) := fun h => rfl
  have l1 := lc_map (mi := miE (mCall (callF T (k + 2)) i_law_pairs (mArgs [(mV 0)]))) (t := .nm 3) (me := mTup (mArgs [(mV 3), (mC (.str "error"))])) (vs := [3]) (σ := [some (.tup (ops.map Opr.enc)), some (.tup (es.map Ent.enc)), none, none, none]) (h := h) (h1 := h) (src := srcL (.tl ((pairL ops).map encP))) (ws := (pairL ops).map encP) (fun w => .tup [w, .str "error"]) (by simp [miE, gp, sto, srcOf, asT, asL]) (fun j => srcL_tl j) (by rw [List.length_map]; exact szl (by omega)) (fun w hw => by
    obtain ⟨q, _, rfl⟩ := List.mem_map.mp hw
    refine ⟨[some (.tup (ops.map Opr.enc)), some (.tup (es.map Ent.enc)), none, some (encP q), none], rfl, ?_, rfl⟩
    have : ∀ h, stash (encP q) h = (encP q, h) := fun h => rfl
    simp [this])
  have d1 : dictTW (.tl (((pairL ops).map encP).map fun w => .tup [w, .str "error"])) h = .ok (.ref h.length) (h ++ [.dT (mergeTD [] ((pairL ops).map fun q => (kOf q.1 q.2, D.str "error")))]) := by
    have : mapO pairT (((pairL ops).map encP).map fun w => D.tup [w, .str "error"]) = some ((pairL ops).map fun q => (kOf q.1 q.2, .str "error")) := by
      rw [List.map_map]; exact mapO_map fun x _ => rfl
    simp only [dictTW, asL, this]
  generalize hP : mergeTD [] ((pairL ops).map fun q => (kOf q.1 q.2, D.str "error")) = P at d1
  have Pl : P.length ≤ 144 := by
    have := mrg_len (acc := []) (kvs := (pairL ops).map fun q => (kOf q.1 q.2, D.str "error"))
    rw [hP] at this
    simp at this; omega
  have l2 := lc_map (mi := miE (mV 1)) (t := .nm 4) (me := mTup (mArgs [(mSl (mV 4) none (some (mC (.int 2)))), (mOp ixW (mV 4) (mC (.int 2)))])) (vs := [4]) (σ := [some (.tup (ops.map Opr.enc)), some (.tup (es.map Ent.enc)), some (.ref h.length), none, none]) (h := h ++ [.dT P]) (h1 := h ++ [.dT P]) (src := srcT (es.map Ent.enc)) (ws := es.map Ent.enc) (fun w => match w with
    | .tup [.int s, .int o, .str e] => .tup [.tup [.int s, .int o], .str e]
    | _ => .non) (by simp [miE, srcOf, asT]) (fun j => srcT_at j) (by rw [List.length_map]; exact szl (by omega)) (fun w hw => by
      obtain ⟨x, _, rfl⟩ := List.mem_map.mp hw
      have s2 := slE2 (x := x) (h := h ++ [.dT P])
      have i2 := ixE2 (x := x) (h := h ++ [.dT P])
      refine ⟨[some (.tup (ops.map Opr.enc)), some (.tup (es.map Ent.enc)), some (.ref h.length), none, some x.enc], rfl, ?_, rfl⟩
      have em : (match x.enc with | .tup [.int s, .int o, .str e] => D.tup [.tup [.int s, .int o], .str e] | _ => .non) = .tup [.tup [.int x.s, .int x.o], .str x.e] := rfl
      rw [em]
      generalize x.enc = xe at *
      simp [s2, i2])
  have em : (es.map Ent.enc).map (fun w => match w with
    | .tup [.int s, .int o, .str e] => D.tup [.tup [.int s, .int o], .str e]
    | _ => .non) = es.map fun x => .tup [.tup [.int x.s, .int x.o], .str x.e] := by rw [List.map_map]; rfl
  rw [em] at l2
  have d2 := dictTW_es (h := h ++ [.dT P]) (es := es)
  have El : (ecell es).length ≤ 1000 := by rw [ecell_eq E.asc, List.length_map]; omega
  have up : updateTW (.ref h.length) (.ref (h.length + 1)) (h ++ [.dT P, .dT (ecell es)]) = .ok .non (h ++ [.dT (tcell ops es), .dT (ecell es)]) := by
    have c1 : (h ++ [Cl.dT P, .dT (ecell es)])[h.length]? = some (.dT P) := by simp
    have c2 : (h ++ [Cl.dT P, .dT (ecell es)])[h.length + 1]? = some (.dT (ecell es)) := by simp [List.getElem?_append_right]
    have ne : P ≠ [] ∨ ecell es = [] := by
      cases hpe : pairL ops with
      | nil =>
        right
        cases es with
        | nil => rfl
        | cons x es => have := E.mem x (by simp); rw [hpe] at this; cases this
      | cons q ps =>
        left
        intro z
        have := tcell_get (ops := ops) (es := []) ⟨by simp, by simp, List.Pairwise.nil⟩ (s := q.1) (o := q.2)
        rw [if_pos (by rw [hpe]; simp)] at this
        unfold tcell at this
        rw [hP, z] at this
        cases this
    have : h.length ≠ h.length + 1 ∧ (P ≠ [] ∨ ecell es = []) ∧ P.length + (ecell es).length ≤ sizeLine := ⟨by omega, ne, sz (by omega)⟩
    simp only [updateTW, c1, c2]
    rw [if_pos this]
    congr 1
    rw [List.set_append_right _ _ (by omega)]
    simp [tcell, hP]
  have key : callF T (k + 3) i_law_told [.tup (ops.map Opr.enc), .tup (es.map Ent.enc)] h = .ok (.ref h.length) (h ++ [.dT (tcell ops es), .dT (ecell es)]) := by
    rw [callF_s (d := ⟨5, 2, m_law_told⟩) rfl]
    have ty : tyM (h ++ [Cl.dT P]) (.ref h.length) = some "dict" := by simp [tyM]
    simp only [List.append_assoc, List.cons_append, List.nil_append, List.length_append, List.length_cons, List.length_nil] at d2
    generalize (((pairL ops).map encP).map fun w => D.tup [w, .str "error"]) = L1 at l1 d1
    generalize (es.map fun x => D.tup [.tup [.int x.s, .int x.o], .str x.e]) = L2 at l2 d2
    simp [m_law_told, startW, l1, d1, ty, l2, d2, up]
  obtain ⟨h2, g, u, e⟩ := gcR_ref (h := h) (h' := h ++ [.dT (tcell ops es), .dT (ecell es)]) (kvs := tcell ops es) .app (by simp)
  exact ⟨h2, u, ⟨_, e, fun s o => tcell_get E⟩, by rw [key]; exact g⟩

end LW
end
section
namespace LW
open PV PySem PySem.Spec PyProof.Rows L2
/-! JN: two tables joined. -/
theorem c_list_long (k : Nat) {ops : List Opr} (hol : 12 < ops.length) (hl2 : ops.length ≤ 1000) (h : Hh) : callF T (k + 1) i_is_operator_list [.tup (ops.map Opr.enc)] h = .ok (.bl false) h := by
  rw [callF_s (d := ⟨7, 1, m_is_operator_list⟩) rfl]
  have e0 : isiW (.tup (ops.map Opr.enc)) (.ty "tuple") h = .ok (.bl true) h := isi_tt
  have ln : lenW (.tup (ops.map Opr.enc)) h = .ok (.int ops.length) h := by simp
  have gt : gtW (.int (ops.length : Int)) (.int 12) h = .ok (.bl true) h := by
    have : decide ((ops.length : Int) > 12) = true := by rw [decide_eq_true_eq]; omega
    rw [← this]; simp
  generalize D.tup (ops.map Opr.enc) = od at *
  simp [m_is_operator_list, startW, e0, ln, gt]
theorem tf_lim {od ed : D} {j n : Nat} (hj : n ≤ j) : limK n (tf3 od ed j) = false := by
  have : (D.ref j).lim n = false := by simp [D.lim]; omega
  simp [limK, tf3, this]
theorem up_lc {σ : Sg} {h : Hh} {es : List Ent} {n : Nat} (hl : es.length ≤ 100000) {mi : M Src} (hm : mi σ h = .ok (srcT (es.map Ent.enc)) h) (hσ : σ.length = 8) (h3 : σ[3]? = some (some (.int n))) :
    mLc mi (.tu [(.nm 5), (.nm 6), (.nm 7)]) (fun _ h => .ok true h) (mTup (mArgs [(mOp addW (mV 5) (mV 3)), (mOp addW (mV 6) (mV 3)), (mV 7)])) [5, 6, 7] σ h = .ok (.tl ((es.map (Ent.up n)).map Ent.enc)) h := by
  obtain ⟨s0, s1, s2, s3, s4, s5, s6, s7, rfl⟩ : ∃ s0 s1 s2 s3 s4 s5 s6 s7, σ = [s0, s1, s2, s3, s4, s5, s6, s7] := by
    match σ, hσ with
    | [s0, s1, s2, s3, s4, s5, s6, s7], _ => exact ⟨s0, s1, s2, s3, s4, s5, s6, s7, rfl⟩
  have : s3 = some (.int n) := by simpa using h3
  subst this
  have key := lc_map (mi := mi) (t := .tu [(.nm 5), (.nm 6), (.nm 7)]) (me := mTup (mArgs [(mOp addW (mV 5) (mV 3)), (mOp addW (mV 6) (mV 3)), (mV 7)])) (vs := [5, 6, 7]) (σ := [s0, s1, s2, some (.int n), s4, s5, s6, s7]) (h := h) (h1 := h) (src := srcT (es.map Ent.enc)) (ws := es.map Ent.enc) (fun w => match w with
    | .tup [.int s, .int o, .str e] => .tup [.int (s + n), .int (o + n), .str e]
    | _ => .non) hm (fun j => srcT_at j) (by rw [List.length_map]; exact szl (by omega)) (fun w hw => by
      obtain ⟨x, _, rfl⟩ := List.mem_map.mp hw
      refine ⟨[s0, s1, s2, some (.int n), s4, some (.int x.s), some (.int x.o), some (.str x.e)], by simp [wipeW, Ent.enc], ?_, rfl⟩
      simp [Ent.enc])
  rw [key]
  congr 2
  rw [List.map_map, List.map_map]
  rfl
theorem c_joined (k : Nat) {h : Hh} {t1 t2 j1 j2 : Nat} {a b : List Opr} {es1 es2 : List Ent} {kv1 kv2 : List (List Key × D)} (ta : TabAt h t1 a es1 j1 kv1) (tb : TabAt h t2 b es2 j2 kv2) (O : OpsOk (a ++ b)) (hol : (a ++ b).length ≤ 12) (E1 : EntsOk a es1) (E2 : EntsOk b es2) (l1 : es1.length ≤ 300) (l2 : es2.length ≤ 300) :
    ∃ (h' : Hh) (kvs : List (List Key × D)), Ux [] h h' ∧ TabAt h' (h.length + 1) (a ++ b) (es1 ++ es2.map (Ent.up a.length)) (h.length + 2) kvs ∧ gcR h (callF T (k + 8) i_joined [.ref t1, .ref t2] h) = .ok (.ref (h.length + 1)) h' := by
  obtain ⟨h1, u1, q1⟩ := c_is_operator_list (k + 2) O hol h
  have g1 := gcR_ro0 (w := .bl true) u1 (by simp)
  have hab : a.length ≤ 12 ∧ b.length ≤ 12 := by simp at hol; omega
  have f1 := fldX_at (f := "operators") (w := .tup (a.map Opr.enc)) ta.at_ (by decide) tf_o
  have f2 := fldX_at (f := "operators") (w := .tup (b.map Opr.enc)) tb.at_ (by decide) tf_o
  have f3 := fldX_at (f := "entries") (w := .tup (es2.map Ent.enc)) tb.at_ (by decide) tf_e
  have ad := addT (h := h) (xs := a.map Opr.enc) (ys := b.map Opr.enc) (by simp; omega)
  rw [← List.map_append] at ad
  have lc := up_lc (h := h) (es := es2) (n := a.length) (σ := [some (.ref t1), some (.ref t2), some (.tup ((a ++ b).map Opr.enc)), some (.int a.length), none, none, none, none]) (by omega) (mi := miE (mFldX "entries" (mV 1))) (by simp [miE, f3, srcOf, asT]) rfl rfl
  have f4 := fldX_at (f := "entries") (w := .tup (es1.map Ent.enc)) (ta.ux (is := []) (h' := h ++ [.lst ((es2.map (Ent.up a.length)).map Ent.enc)]) .app (by simp) (by simp)).at_ (by decide) tf_e
  have ad2 := addT (h := h ++ [.lst ((es2.map (Ent.up a.length)).map Ent.enc)]) (xs := es1.map Ent.enc) (ys := (es2.map (Ent.up a.length)).map Ent.enc) (by simp; omega)
  rw [← List.map_append] at ad2
  have E := ents_join E1 E2
  obtain ⟨kvs, t, q⟩ := c_mk_table k O hol E (by simp; omega) (h ++ [.lst ((es2.map (Ent.up a.length)).map Ent.enc)])
  have g2 := gcR_tab' (h := h ++ [.lst ((es2.map (Ent.up a.length)).map Ent.enc)]) (od := .tup ((a ++ b).map Opr.enc)) (ed := .tup ((es1 ++ es2.map (Ent.up a.length)).map Ent.enc)) (kvs := kvs)
  have tr : tupleW (.ref h.length) (h ++ [.lst ((es2.map (Ent.up a.length)).map Ent.enc)]) = .ok (.tup ((es2.map (Ent.up a.length)).map Ent.enc)) _ := tupleW_ref (by simp)
  have ln : lenW (.tup (a.map Opr.enc)) h = .ok (.int a.length) h := by simp
  have key : callF T (k + 8) i_joined [.ref t1, .ref t2] h = .ok (.ref (h.length + 1)) ((h ++ [.lst ((es2.map (Ent.up a.length)).map Ent.enc)]) ++ [.ins 0 (tf3 (.tup ((a ++ b).map Opr.enc)) (.tup ((es1 ++ es2.map (Ent.up a.length)).map Ent.enc)) (h.length + 2)), .dT kvs]) := by
    rw [callF_s (d := ⟨8, 2, m_joined⟩) rfl]
    have sto : ∀ h, stash (.tup ((a ++ b).map Opr.enc)) h = (.tup ((a ++ b).map Opr.enc), h) := fun h => rfl
    have ste : ∀ h, stash (.tup ((es1 ++ es2.map (Ent.up a.length)).map Ent.enc)) h = (.tup ((es1 ++ es2.map (Ent.up a.length)).map Ent.enc), h) := fun h => rfl
    simp only [List.length_append, List.length_cons, List.length_nil, Nat.zero_add, List.append_assoc, List.cons_append, List.nil_append] at q g2
    rw [List.append_assoc, List.cons_append, List.nil_append]
    generalize hq : h.length + 1 + 1 = n2 at q g2
    have hn2 : h.length + 2 = n2 := hq
    generalize (a ++ b).map Opr.enc = OD at *
    generalize (es1 ++ es2.map (Ent.up a.length)).map Ent.enc = ED at *
    generalize (es2.map (Ent.up a.length)).map Ent.enc = E2D at *
    generalize a.map Opr.enc = AD at *
    generalize b.map Opr.enc = BD at *
    simp only [m_joined, startW, List.map_cons, List.map_nil, List.length_cons, List.length_nil, if_true, List.replicate, List.cons_append, List.nil_append, Nat.reduceAdd, Nat.reduceSub]
    simp [f1, f2, ad, sto, q1, g1, ln, lc, tr, f4, ad2, ste, q, g2]
  rw [key]
  have g3 := gcR_ins (h := h) (i := h.length + 1) (h' := (h ++ [.lst ((es2.map (Ent.up a.length)).map Ent.enc)]) ++ [.ins 0 (tf3 (.tup ((a ++ b).map Opr.enc)) (.tup ((es1 ++ es2.map (Ent.up a.length)).map Ent.enc)) (h.length + 2)), .dT kvs]) (c := 0) (fs := tf3 (.tup ((a ++ b).map Opr.enc)) (.tup ((es1 ++ es2.map (Ent.up a.length)).map Ent.enc)) (h.length + 2)) (by simp [List.getElem?_append_right]) (by omega) (tf_lim (by omega))
  refine ⟨_, kvs, ?_, ?_, g3⟩
  · rw [List.append_assoc]; exact .app
  · simpa using t
theorem c_joined_bad (k : Nat) {h : Hh} {t1 t2 j1 j2 : Nat} {a b : List Opr} {es1 es2 : List Ent} {kv1 kv2 : List (List Key × D)} (ta : TabAt h t1 a es1 j1 kv1) (tb : TabAt h t2 b es2 j2 kv2) (hol : 12 < (a ++ b).length) (h2 : (a ++ b).length ≤ 1000) :
    gcR h (callF T (k + 2) i_joined [.ref t1, .ref t2] h) = .exc 101 [("value", .tup ((a ++ b).map Opr.enc))] h := by
  have q1 := c_list_long k hol h2 h
  have hab : a.length ≤ 1000 ∧ b.length ≤ 1000 := by simp at h2; omega
  have f1 := fldX_at (f := "operators") (w := .tup (a.map Opr.enc)) ta.at_ (by decide) tf_o
  have f2 := fldX_at (f := "operators") (w := .tup (b.map Opr.enc)) tb.at_ (by decide) tf_o
  have ad := addT (h := h) (xs := a.map Opr.enc) (ys := b.map Opr.enc) (by simp; omega)
  rw [← List.map_append] at ad
  have key : callF T (k + 2) i_joined [.ref t1, .ref t2] h = .exc 101 [("value", .tup ((a ++ b).map Opr.enc))] h := by
    rw [callF_s (d := ⟨8, 2, m_joined⟩) rfl]
    have sto : ∀ h, stash (.tup ((a ++ b).map Opr.enc)) h = (.tup ((a ++ b).map Opr.enc), h) := fun h => rfl
    generalize (a ++ b).map Opr.enc = OD at *
    generalize a.map Opr.enc = AD at *
    generalize b.map Opr.enc = BD at *
    simp [m_joined, startW, f1, f2, ad, sto, q1]
  rw [key]
  refine gcR_exc_same ?_
  have : D.lims h.length ((a ++ b).map Opr.enc) = true := lims_enc
  simp only [limK, lim_tup, this, Bool.and_self]

end LW
end
section
namespace LW
open PV PySem PySem.Spec PyProof.Rows L2
/-! K61T: k61's tables drawn. -/
theorem str_num {n : Nat} (hn : n < 12) {h : Hh} : strW (.int n) h = .ok (.str (nums12.getD n "")) h := by
  have : ∀ n : Nat, n < 12 → (n : Int).natAbs.log2 < 1920 ∧ (toString (n : Int) : Str) = nums12.getD n "" := by decide +kernel
  obtain ⟨h1, h2⟩ := this n hn
  simp only [strW, h1, if_true, h2]
theorem num_len {n : Nat} : (nums12.getD n "").length ≤ 2 := by
  by_cases hn : n < 12
  · have : ∀ n : Nat, n < 12 → (nums12.getD n "").length ≤ 2 := by decide +kernel
    exact this n hn
  · have : nums12.getD n "" = "" := by rw [List.getD_eq_getElem?_getD, List.getElem?_eq_none (by simp [nums12]; omega)]; rfl
    rw [this]; decide +kernel
theorem lkinds : ∀ x ∈ [("infix" : Str), "infix", "infix", "prefix", "postfix"], x ∈ kinds ∧ x ≠ "closed" := by decide +kernel
theorem nm_ok {sg : Str} (hsg : sg = "x" ∨ sg = "y") {n : Nat} (hn : n ≤ 12) : ((List.range n).map (nmS sg)).Nodup ∧ ∀ w ∈ (List.range n).map (nmS sg), w ∈ pool0 := by
  have hsub : ((List.range n).map (nmS sg)).Sublist (namesX 12 ++ namesY 12) := by
    rcases hsg with rfl | rfl
    · exact ((List.range_sublist.mpr hn).map _).trans (List.sublist_append_left _ _)
    · exact ((List.range_sublist.mpr hn).map _).trans (List.sublist_append_right _ _)
  exact ⟨names_all.sublist hsub, fun w hw => names_pool w (hsub.mem hw)⟩
theorem c_ltable (k : Nat) {h : Hh} {i c size : Nat} {sg : Str} (e : Sr h i c) (hc : c < 90000) (hs : size ≤ 12) (hsg : sg = "x" ∨ sg = "y") :
    ∃ (ops : List Opr) (es : List Ent) (tb j dj : Nat) (kvs : List (List Key × D)) (h' : Hh), Named ops ((List.range size).map (nmS sg)) ∧ ops.length = size ∧ EntsOk ops es ∧ es.length ≤ 144 ∧ TabAt h' tb ops es j kvs ∧ TdAt h' dj ops es ∧ h.length ≤ tb ∧ h.length ≤ j ∧ h.length ≤ dj ∧ Sr h' i (c + 500) ∧ Ux [i] h h' ∧ gcR h (callF T (k + 9) i_law_table [.ref i, .int size, .str sg] h) = .ok (.tup [.ref tb, .ref dj]) h' := by
  have lt0 := e.lt
  have sgl : sg.length ≤ 2 := by rcases hsg with rfl | rfl <;> decide +kernel
  have ol : ("o" : Str).length = 1 := by decide +kernel
  obtain ⟨σ2, h2, q2, ops, a4, a5, rfl, kd, wd, e2, el2, u2⟩ := msFor_ok (mi := miR1 (mV 1)) (src := srcR 0 size) (t := .nm 4) (b := b_law_table_1 (callF T (k + 8))) (ws := (List.range size).map fun (i : Nat) => D.int (0 + (i : Nat)))
    (σ := [some (.ref i), some (.int size), some (.str sg), some (.ref h.length), none, none, none]) (h := h ++ [.lst []]) (h1 := h ++ [.lst []])
    (fun n σ h' => ∃ (ops : List Opr) (a4 a5 : Option D), σ = [some (.ref i), some (.int size), some (.str sg), some (.ref h.length), a4, a5, none] ∧ (∀ o ∈ ops, o.kind ∈ kinds ∧ o.kind ≠ "closed") ∧ ops.map Opr.words = (((List.range n).map (nmS sg)).map fun w => [w]) ∧ Sr h' i (c + n) ∧ h'[h.length]? = some (.lst (ops.map Opr.enc)) ∧ Up [i, h.length] (h ++ [.lst []]) h')
    (miR1_nat (n := size) rfl (by omega)) (fun j σ h' _ => srcR_at j)
    (by
      rintro n w σ h' ⟨ops, a4, a5, rfl, kd, wd, e', el', u'⟩ ej
      have hn := lt_of_get ej
      simp at hn
      have ew : w = .int (n : Nat) := by
        simp [hn] at ej
        exact ej.symm
      subst ew
      have olen : ops.length = n := by
        have := congrArg List.length wd
        simpa using this
      obtain ⟨w3, h3, hw3, e3, u3, q3⟩ := p_pick (k + 6) (ws := [("infix" : Str), "infix", "infix", "prefix", "postfix"].map D.str) e' (by decide) (by decide) (by omega) (fun w hw n => by
        obtain ⟨x, _, rfl⟩ := List.mem_map.mp hw; simp)
      obtain ⟨kx, hkx, rfl⟩ := List.mem_map.mp hw3
      have hk := lkinds kx hkx
      have el3 := u3.get el' (by simp; omega)
      have sn := str_num (n := n) (by omega) (h := h3)
      have nl := num_len (n := n)
      have a1 := addStr (h := h3) (x := "o") (y := nums12.getD n "") (by omega)
      have al : (("o" : Str) ++ nums12.getD n "").length ≤ 3 := by
        have : (("o" : Str) ++ nums12.getD n "").length = ("o" : Str).length + (nums12.getD n "").length := by
          show (Array.append _ _).size = _
          simp [Str.length]
        omega
      have a2 := addStr (h := h3) (x := ("o" : Str) ++ nums12.getD n "") (y := sg) (by omega)
      have ap := append_ref (y := Opr.enc ⟨kx, [nmS sg n]⟩) el3 (by rw [List.length_map]; exact szl (by omega)) rfl
      have tf := tyM_ref el3
      refine ⟨_, [some (.ref i), some (.int size), some (.str sg), some (.ref h.length), some (.int n), some (.str kx), none], h3.set h.length (.lst (ops.map Opr.enc ++ [Opr.enc ⟨kx, [nmS sg n]⟩])), rfl, .inl ?_, ops ++ [⟨kx, [nmS sg n]⟩], some (.int n), some (.str kx), rfl, ?_, ?_, ?_, ?_, ?_⟩
      · simp only [List.map_cons, List.map_nil] at q3
        simp only [Opr.enc, List.map_cons, List.map_nil, nmS] at ap ⊢
        generalize nums12.getD n "" = ns at *
        simp [b_law_table_1, q3, tf, sn, a1, a2, ap]
      · intro o ho
        rcases List.mem_append.mp ho with ho | ho
        · exact kd o ho
        · have : o = ⟨kx, [nmS sg n]⟩ := by simpa using ho
          subst this; exact hk
      · rw [List.map_append, wd, List.range_succ]; simp
      · exact (e3.up (Up.set (is := [h.length]) (by simp)) (by simp; omega)).mono (by omega)
      · rw [set_get (lt_of_get el3)]; simp
      · exact u'.trans ((u3.mono (by simp)).trans (.set (by simp))))
    ⟨[], none, none, rfl, by simp, by simp, e.app, by simp, .rfl'⟩ (by simp; omega)
  simp only [List.length_map, List.length_range] at wd e2
  have olen : ops.length = size := by
    have := congrArg List.length wd
    simpa using this
  have N : Named ops ((List.range size).map (nmS sg)) := ⟨kd, wd⟩
  have O := N.ops (nm_ok hsg hs).1 (nm_ok hsg hs).2
  have lu2 := u2.len
  simp at lu2
  obtain ⟨es, h3, E, hel, e3, u3, q3⟩ := c_lentries (k + 4) O (by omega) e2 (by omega)
  obtain ⟨h4, g4, u4, e4⟩ := gcR_sx0 (w := .tup (es.map Ent.enc)) u3 e3 (by
    rw [lim_tup]; exact lims_all fun w hw => by obtain ⟨x, _, rfl⟩ := List.mem_map.mp hw; simp [Ent.enc]) e2.lt
  have lu4 := u4.len
  have el4 := u4.get el2 (by simp; omega)
  obtain ⟨kvs, ta, q5⟩ := c_mk_table (k + 1) O (by omega) E (by omega) h4
  have g5 := gcR_tab' (h := h4) (od := .tup (ops.map Opr.enc)) (ed := .tup (es.map Ent.enc)) (kvs := kvs)
  generalize hh5 : h4 ++ [Cl.ins 0 (tf3 (.tup (ops.map Opr.enc)) (.tup (es.map Ent.enc)) (h4.length + 1)), .dT kvs] = h5 at ta q5 g5
  have l5 : h5.length = h4.length + 2 := by rw [← hh5]; simp
  have el5 : h5[h.length]? = some (.lst (ops.map Opr.enc)) := by rw [← hh5]; exact app_get el4
  obtain ⟨h6, u6, td, q6⟩ := c_told (k + 5) O (by omega) E (by omega) h5
  have e5 : Sr h5 i (c + size + 400) := by rw [← hh5]; exact e4.app
  have x05 : Ux [i] h h5 := by
    have x1 : Ux [i] h h2 := u2.loc (by intro j hj hlt; simp at hj ⊢; omega)
    have x3 : Ux [i] h4 h5 := by rw [← hh5]; exact .app
    exact x1.trans (u4.ux.trans x3)
  have e6 : Sr h6 i (c + size + 400) := by
    obtain ⟨x, y, z, e1, e2, e3⟩ := e5
    exact ⟨x, y, z, u6.get e1 (by simp), e2, e3⟩
  have ta6 := ta.ux u6 (by simp) (by simp)
  refine ⟨ops, es, h4.length, h4.length + 1, h5.length, kvs, h6, N, olen, E, hel, ta6, td, by omega, by omega, by omega, e6.mono (by omega), x05.trans (u6.mono (by simp)), ?_⟩
  have t2 := tupleW_ref el2
  have t4 := tupleW_ref el4
  have t5 := tupleW_ref el5
  have key : callF T (k + 9) i_law_table [.ref i, .int size, .str sg] h = .ok (.tup [.ref h4.length, .ref h5.length]) h6 := by
    rw [callF_s (d := ⟨7, 3, m_law_table⟩) rfl]
    have sto : ∀ h, stash (.tup (ops.map Opr.enc)) h = (.tup (ops.map Opr.enc), h) := fun h => rfl
    have ste : ∀ h, stash (.tup (es.map Ent.enc)) h = (.tup (es.map Ent.enc), h) := fun h => rfl
    generalize ops.map Opr.enc = OD at *
    generalize es.map Ent.enc = ED at *
    simp [m_law_table, startW, q2, t2, sto, q3, g4, ste, t4, q5, g5, t5, q6]
  rw [key]
  exact gcR_two (by omega)

end LW
end
section
namespace LW
open PV PySem PySem.Spec PyProof.Rows L2
/-! K61R: k61's look at a joined table. -/
theorem ent_lookN (k n : Nat) {h : Hh} {tb j : Nat} {ops : List Opr} {es : List Ent} {kvs : List (List Key × D)} (ta : TabAt h tb ops es j kvs) {s o : Int} (hm : (s, o) ∈ pairL ops) {m1 m2 : M D} {σ : Sg} (e0 : σ[n]? = some (some (.ref tb))) (e1 : m1 σ h = .ok (.int s) h) (e2 : m2 σ h = .ok (.int o) h) :
    mMeth (callF T (k + 2)) (mtL [(0, i_Table_entry)]) "entry" (mV n) (mArgs [m1, m2]) σ h = .ok (.str (entF es s o)) h := by
  have ce := c_entry k ta hm
  have m0 : mV n σ h = .ok (.ref tb) h := by rw [mV_ap, e0]
  have hc := ta.at_
  have mt : mtL [(0, i_Table_entry)] 0 = some i_Table_entry := rfl
  have lm := tf_m (od := .tup (ops.map Opr.enc)) (ed := .tup (es.map Ent.enc)) (j := j)
  rw [mMeth_ap, m0]
  simp only [R.bind_ok, hc, mt, lm, and_true]
  rw [if_pos (by decide)]
  simp [e1, e2, ce]
theorem td_get {h : Hh} {j : Nat} {ops : List Opr} {es : List Ent} (d : TdAt h j ops es) {s o : Int} {z : Str} : get2W (.ref j) (.tup [.int s, .int o]) (.str z) h = .ok (.str (if (s, o) ∈ pairL ops then entF es s o else z)) h := by
  obtain ⟨kvs, e, hg⟩ := d
  simp only [get2W, dget_T e, D.isTl, if_true, hg]
  by_cases hm : (s, o) ∈ pairL ops <;> simp [hm]
theorem td_ty {h : Hh} {j : Nat} {ops : List Opr} {es : List Ent} (d : TdAt h j ops es) : tyM h (.ref j) = some "dict" := by
  obtain ⟨kvs, e, _⟩ := d
  simp [tyM, e]
theorem k61_right (k : Nat) {h : Hh} {t1 t2 j1 j2 d1 d2 : Nat} {a b : List Opr} {es1 es2 : List Ent} {kv1 kv2 : List (List Key × D)} (ta : TabAt h t1 a es1 j1 kv1) (tb : TabAt h t2 b es2 j2 kv2) (da : TdAt h d1 a es1) (db : TdAt h d2 b es2) (O : OpsOk (a ++ b)) (hol : (a ++ b).length ≤ 12) (E1 : EntsOk a es1) (E2 : EntsOk b es2) (l1 : es1.length ≤ 300) (l2 : es2.length ≤ 300) :
    ∃ h', Ux [] h h' ∧ callF T (k + 9) i_law_right [.ref t1, .ref d1, .ref t2, .ref d2] h = .ok (.bl true) h' := by
  obtain ⟨h1, kvs, u1, tj, q1⟩ := c_joined k ta tb O hol E1 E2 l1 l2
  refine ⟨h1, u1, ?_⟩
  rw [callF_s (d := ⟨9, 4, m_law_right⟩) rfl]
  have hab : a.length ≤ 12 ∧ b.length ≤ 12 := by simp at hol; omega
  have f0 := fldX_at (f := "operators") (w := .tup (a.map Opr.enc)) ta.at_ (by decide) tf_o
  have ta1 := ta.ux u1 (by simp) (by simp)
  have tb1 := tb.ux u1 (by simp) (by simp)
  have da1 := da.ux u1 (by simp)
  have db1 := db.ux u1 (by simp)
  have f1 := fldX_at (f := "operators") (w := .tup (a.map Opr.enc)) ta1.at_ (by decide) tf_o
  have f2 := fldX_at (f := "operators") (w := .tup (b.map Opr.enc)) tb1.at_ (by decide) tf_o
  have f3 := fldX_at (f := "operators") (w := .tup ((a ++ b).map Opr.enc)) tj.at_ (by decide) tf_o
  have f4 := fldX_at (f := "entries") (w := .tup (es1.map Ent.enc)) ta1.at_ (by decide) tf_e
  have f5 := fldX_at (f := "entries") (w := .tup (es2.map Ent.enc)) tb1.at_ (by decide) tf_e
  have f6 := fldX_at (f := "entries") (w := .tup ((es1 ++ es2.map (Ent.up a.length)).map Ent.enc)) tj.at_ (by decide) tf_e
  have ad := addT (h := h1) (xs := a.map Opr.enc) (ys := b.map Opr.enc) (by simp; omega)
  rw [← List.map_append] at ad
  have ne : neW (.tup ((a ++ b).map Opr.enc)) (.tup ((a ++ b).map Opr.enc)) h1 = .ok (.bl false) h1 := neW_same toP_ops toP_ops (ps_ops O).pn (by omega) (fun _ z => by cases z)
  have lp := c_lpairs (k + 6) (ops := a ++ b) (by omega) (fun o ho => (O.ok o ho).kd) h1
  have gp : gcR h1 (callF T (k + 8) i_law_pairs [.tup ((a ++ b).map Opr.enc)] h1) = .ok (.tl ((pairL (a ++ b)).map encP)) h1 := gcR_ret0 (ws := (pairL (a ++ b)).map encP) ⟨_, _, lp, .app, .inr ⟨_, rfl, Nat.le_refl _, by simp⟩⟩ lims_pairs
  have hpl := pairL_len (ops := a ++ b)
  have hm : (a ++ b).length * (a ++ b).length ≤ 12 * 12 := Nat.mul_le_mul hol hol
  have ln0 : lenW (.tup (a.map Opr.enc)) h = .ok (.int a.length) h := by simp
  have ln4 : lenW (.tup (es1.map Ent.enc)) h1 = .ok (.int es1.length) h1 := by simp
  have ln5 : lenW (.tup (es2.map Ent.enc)) h1 = .ok (.int es2.length) h1 := by simp
  have ln6 : lenW (.tup ((es1 ++ es2.map (Ent.up a.length)).map Ent.enc)) h1 = .ok (.int ((es1.length : Int) + es2.length)) h1 := by simp
  have sto : ∀ h, stash (.tup ((a ++ b).map Opr.enc)) h = (.tup ((a ++ b).map Opr.enc), h) := fun h => rfl
  have ty1 := td_ty da1
  have ty2 := td_ty db1
  obtain ⟨σ3, h3, q3, a6, a7, a8, rfl, eh⟩ := msFor_ok (mi := miE (mCall (callF T (k + 8)) i_law_pairs (mArgs [(mFldX "operators" (mV 5))]))) (src := srcL (.tl ((pairL (a ++ b)).map encP))) (t := .tu [(.nm 6), (.nm 7)]) (b := b_law_right_1 (callF T (k + 8))) (ws := (pairL (a ++ b)).map encP)
    (σ := [some (.ref t1), some (.ref d1), some (.ref t2), some (.ref d2), some (.int a.length), some (.ref (h.length + 1)), none, none, none]) (h := h1) (h1 := h1)
    (fun n σ h' => ∃ a6 a7 a8, σ = [some (.ref t1), some (.ref d1), some (.ref t2), some (.ref d2), some (.int a.length), some (.ref (h.length + 1)), a6, a7, a8] ∧ h' = h1)
    (by
      generalize (a ++ b).map Opr.enc = OD at *
      simp [miE, f3, sto, gp, srcOf, asT, asL]) (fun j σ h' _ => srcL_tl j)
    (by
      rintro n w σ h' ⟨a6, a7, a8, rfl, eh⟩ ej
      rw [eh]
      rw [List.getElem?_map] at ej
      obtain ⟨⟨s, o⟩, eq, rfl⟩ := Option.map_eq_some_iff.mp ej
      have hmem := List.mem_of_getElem? eq
      have g2 := td_get db1 (s := s - a.length) (o := o - a.length) (z := "error")
      have g1 := td_get da1 (s := s) (o := o) (z := if (s - a.length, o - a.length) ∈ pairL b then entF es2 (s - a.length) (o - a.length) else "error")
      rw [← entF_join E1 E2] at g1
      generalize hv : entF (es1 ++ es2.map (Ent.up a.length)) s o = v at g1
      have lk := ent_lookN (k + 6) 5 tj hmem (m1 := mV 6) (m2 := mV 7) (σ := [some (.ref t1), some (.ref d1), some (.ref t2), some (.ref d2), some (.int a.length), some (.ref (h.length + 1)), some (.int s), some (.int o), some (.str v)]) rfl rfl rfl
      rw [hv] at lk
      refine ⟨_, [some (.ref t1), some (.ref d1), some (.ref t2), some (.ref d2), some (.int a.length), some (.ref (h.length + 1)), some (.int s), some (.int o), some (.str v)], h1, rfl, .inl ?_, some (.int s), some (.int o), some (.str v), rfl, rfl⟩
      generalize (if (s - a.length, o - a.length) ∈ pairL b then entF es2 (s - a.length) (o - a.length) else "error") = z at g1 g2
      have s1 : msAsg (.nm 8) (mM2 (on2 "dict" get2W) (mV 1) (mTup (mArgs [(mV 6), (mV 7)])) (mM2 (on2 "dict" get2W) (mV 3) (mTup (mArgs [(mOp subW (mV 6) (mV 4)), (mOp subW (mV 7) (mV 4))])) (mC (.str "error")))) [some (.ref t1), some (.ref d1), some (.ref t2), some (.ref d2), some (.int a.length), some (.ref (h.length + 1)), some (.int s), some (.int o), a8] h1 = .nx [some (.ref t1), some (.ref d1), some (.ref t2), some (.ref d2), some (.int a.length), some (.ref (h.length + 1)), some (.int s), some (.int o), some (.str v)] h1 := by
        simp [ty1, ty2, g1, g2]
      show b_law_right_1 (callF T (k + 8)) [some (.ref t1), some (.ref d1), some (.ref t2), some (.ref d2), some (.int a.length), some (.ref (h.length + 1)), some (.int s), some (.int o), a8] h1 = _
      simp only [b_law_right_1, msSeq_ap, s1, RT.seq_nx, msIf_ap, mB_ap, mOp_ap, lk, R.bind_ok]
      simp)
    ⟨none, none, none, rfl, rfl⟩ (by simp; omega)
  rw [eh] at q3
  generalize (a ++ b).map Opr.enc = OD at *
  generalize (es1 ++ es2.map (Ent.up a.length)).map Ent.enc = ED at *
  generalize a.map Opr.enc = AD at *
  generalize b.map Opr.enc = BD at *
  generalize es1.map Ent.enc = E1D at *
  generalize es2.map Ent.enc = E2D at *
  simp [m_law_right, startW, f0, ln0, q1, f3, f1, f2, ad, ne, q3, f4, f5, f6, ln4, ln5, ln6, eqW_int]

end LW
end
section
namespace LW
open PV PySem PySem.Spec PyProof.Rows L2
/-! K61L: k61's law. -/
theorem ops_xy {a b : List Opr} {n m : Nat} (ha : Named a ((List.range n).map (nmS "x"))) (hb : Named b ((List.range m).map (nmS "y"))) (hn : n ≤ 12) (hm : m ≤ 12) : OpsOk (a ++ b) :=
  (ha.app hb).ops (names_all.sublist (names_sub hn hm)) (fun w hw => names_pool w ((names_sub hn hm).mem hw))
theorem k61_turn {h : Hh} {i c n m : Nat} (e : Sr h i c) (hc : c < 80000) (hnm : n + m ≤ 12) {a0 a1 a5 a6 a7 a8 a9 a10 : Option D} :
    ∃ a5' a6' a7' a8' h', Ux [i] h h' ∧ Sr h' i (c + 1000) ∧ b_law_2 (callF T 199) [a0, a1, some (.ref i), some (.int n), some (.int m), a5, a6, a7, a8, a9, a10] h = .nx [a0, a1, some (.ref i), some (.int n), some (.int m), a5', a6', a7', a8', a9, a10] h' := by
  have li := e.lt
  obtain ⟨a, es1, t1, j1, d1, kv1, h1, N1, ln1, E1, el1, ta, da, g1, g2, g3, e1, u1, q1⟩ := c_ltable 190 (size := n) (sg := "x") e (by omega) (by omega) (.inl rfl)
  have hl1 := u1.len
  obtain ⟨b, es2, t2, j2, d2, kv2, h2, N2, ln2, E2, el2, tb, db, g4, g5, g6, e2, u2, q2⟩ := c_ltable 190 (size := m) (sg := "y") e1 (by omega) (by omega) (.inr rfl)
  have ta2 := ta.ux u2 (by simp; omega) (by simp; omega)
  have da2 := da.ux u2 (by simp; omega)
  obtain ⟨h3, u3, q3⟩ := k61_right 190 ta2 tb da2 db (ops_xy N1 N2 (by omega) (by omega)) (by simp; omega) E1 E2 (by omega) (by omega)
  have gr := gcR_ro0 (w := .bl true) u3 (by simp)
  refine ⟨some (.ref t1), some (.ref d1), some (.ref t2), some (.ref d2), h2, u1.trans u2, e2.mono (by omega), ?_⟩
  have q1' : gcR h (callF T 199 i_law_table [.ref i, .int n, .str "x"] h) = _ := q1
  have q2' : gcR h1 (callF T 199 i_law_table [.ref i, .int m, .str "y"] h1) = _ := q2
  have q3' : callF T 199 i_law_right [.ref t1, .ref d1, .ref t2, .ref d2] h2 = _ := q3
  simp [b_law_2, q1', q2', q3', gr]
theorem k61_cell {h : Hh} {ns : List Int} {j : Nat} (hj : j ≤ 3) {a2 a3 a4 a5 a6 a7 a8 a9 a10 : Option D} :
    ∃ b2 b3 b4 b5 b6 b7 b8 b9 b10 h', b_law_1 (callF T 199) [some (.fl (ns.map .int)), some (.int j), a2, a3, a4, a5, a6, a7, a8, a9, a10] h = .nx [some (.fl (ns.map .int)), some (.int j), b2, b3, b4, b5, b6, b7, b8, b9, b10] h' := by
  obtain ⟨a, b, es⟩ := c_source 198 (h := h) (ns := ns) (j := j) hj
  have gs := gcR_tl (h := h) (h' := h) (ws := [.int a, .int b, .int 0]) (by simp) rfl
  have es' : callF T 199 i_law_source [.fl (ns.map .int), .int j] h = .ok (.tl [.int a, .int b, .int 0]) h := es
  have sr0 : Sr (h ++ [Cl.lst [.int a, .int b, .int 0]]) h.length 0 := ⟨a, b, 0, by simp, by omega, by omega⟩
  generalize hi : h.length = i at *
  obtain ⟨σ3, h3, q3, b3, b4, b5, b6, b7, b8, rfl, sr3⟩ := msFor_ok (mi := miE (mTup (mArgs [(mTup (mArgs [(mC (.int 1)), (mC (.int 11))])), (mTup (mArgs [(mC (.int 3)), (mC (.int 9))])), (mTup (mArgs [(mC (.int 6)), (mC (.int 6))])), (mTup (mArgs [(mC (.int 9)), (mC (.int 3))])), (mTup (mArgs [(mC (.int 11)), (mC (.int 1))])), (mTup (mArgs [(mC (.int 12)), (mC (.int 0))])), (mTup (mArgs [(mC (.int 0)), (mC (.int 12))]))]))) (src := srcT ([((1 : Nat), (11 : Nat)), (3, 9), (6, 6), (9, 3), (11, 1), (12, 0), (0, 12)].map fun q => D.tup [.int q.1, .int q.2])) (t := .tu [(.nm 3), (.nm 4)]) (b := b_law_2 (callF T 199)) (ws := [((1 : Nat), (11 : Nat)), (3, 9), (6, 6), (9, 3), (11, 1), (12, 0), (0, 12)].map fun q => D.tup [.int q.1, .int q.2])
    (σ := [some (.fl (ns.map .int)), some (.int j), some (.ref i), a3, a4, a5, a6, a7, a8, a9, a10]) (h := h ++ [Cl.lst [.int a, .int b, .int 0]]) (h1 := h ++ [Cl.lst [.int a, .int b, .int 0]])
    (fun n σ h' => ∃ b3 b4 b5 b6 b7 b8, σ = [some (.fl (ns.map .int)), some (.int j), some (.ref i), b3, b4, b5, b6, b7, b8, a9, a10] ∧ Sr h' i (1000 * n))
    (by simp [miE, srcOf, asT]) (fun j σ h' _ => srcT_at j)
    (by
      rintro n w σ h' ⟨b3, b4, b5, b6, b7, b8, rfl, s'⟩ ej
      have hn := lt_of_get ej
      simp at hn
      rw [List.getElem?_map] at ej
      obtain ⟨⟨x, y⟩, eq, rfl⟩ := Option.map_eq_some_iff.mp ej
      have hxy : x + y ≤ 12 := by
        have : ∀ q ∈ [((1 : Nat), (11 : Nat)), (3, 9), (6, 6), (9, 3), (11, 1), (12, 0), (0, 12)], q.1 + q.2 ≤ 12 := by decide
        exact this (x, y) (List.mem_of_getElem? eq)
      obtain ⟨c5, c6, c7, c8, h4, u4, s4, q4⟩ := k61_turn s' (by omega) hxy (a0 := some (.fl (ns.map .int))) (a1 := some (.int j)) (a5 := b5) (a6 := b6) (a7 := b7) (a8 := b8) (a9 := a9) (a10 := a10)
      exact ⟨[some (.fl (ns.map .int)), some (.int j), some (.ref i), some (.int x), some (.int y), b5, b6, b7, b8, a9, a10], _, h4, rfl, .inl q4, _, _, c5, c6, c7, c8, rfl, s4.mono (by omega)⟩)
    ⟨a3, a4, a5, a6, a7, a8, rfl, by simpa using sr0⟩ (by simp)
  simp only [List.length_map, List.length_cons, List.length_nil] at sr3
  have li := sr3.lt
  obtain ⟨A, es1, t1, j1, d1, kv1, h4, N1, ln1, E1, el1, ta, da, g1, g2, g3, e4, u4, q4⟩ := c_ltable 190 (size := 12) (sg := "x") sr3 (by omega) (by omega) (.inl rfl)
  have hl4 := u4.len
  obtain ⟨B, es2, t2, j2, d2, kv2, h5, N2, ln2, E2, el2, tb, db, g4, g5, g6, e5, u5, q5⟩ := c_ltable 190 (size := 1) (sg := "y") e4 (by omega) (by omega) (.inr rfl)
  have ta2 := ta.ux u5 (by simp; omega) (by simp; omega)
  have q6 := c_joined_bad 197 ta2 tb (by simp; omega) (by simp; omega)
  have O := ops_xy N1 N2 (by omega) (by omega)
  have ne : neW (.tup ((A ++ B).map Opr.enc)) (.tup ((A ++ B).map Opr.enc)) h5 = .ok (.bl false) h5 := neW_same toP_ops toP_ops (ps_ops O).pn (by omega) (fun _ z => by cases z)
  have f1 := fldX_at (f := "operators") (w := .tup (A.map Opr.enc)) ta2.at_ (by decide) tf_o
  have f2 := fldX_at (f := "operators") (w := .tup (B.map Opr.enc)) tb.at_ (by decide) tf_o
  have ad := addT (h := h5) (xs := A.map Opr.enc) (ys := B.map Opr.enc) (by simp; omega)
  rw [← List.map_append] at ad
  have q4' : gcR h3 (callF T 199 i_law_table [.ref i, .int 12, .str "x"] h3) = .ok (.tup [.ref t1, .ref d1]) h4 := q4
  have q5' : gcR h4 (callF T 199 i_law_table [.ref i, .int 1, .str "y"] h4) = .ok (.tup [.ref t2, .ref d2]) h5 := q5
  have q6' : gcR h5 (callF T 199 i_joined [.ref t1, .ref t2] h5) = .exc 101 [("value", .tup ((A ++ B).map Opr.enc))] h5 := q6
  refine ⟨some (.ref i), b3, b4, some (.ref t1), some (.ref d1), some (.ref t2), some (.ref d2), some (.tup ((A ++ B).map Opr.enc)), none, h5, ?_⟩
  have sto : ∀ h, stash (.tup ((A ++ B).map Opr.enc)) h = (.tup ((A ++ B).map Opr.enc), h) := fun h => rfl
  have s1 : msAsg (.nm 2) (mCall (callF T 199) i_law_source (mArgs [(mV 0), (mV 1)])) [some (.fl (ns.map .int)), some (.int j), a2, a3, a4, a5, a6, a7, a8, a9, a10] h = .nx [some (.fl (ns.map .int)), some (.int j), some (.ref i), a3, a4, a5, a6, a7, a8, a9, a10] (h ++ [Cl.lst [.int a, .int b, .int 0]]) := by simp [es', gs, hi]
  generalize (A ++ B).map Opr.enc = OD at *
  generalize A.map Opr.enc = AD at *
  generalize B.map Opr.enc = BD at *
  simp only [b_law_1, msSeq_ap, s1, RT.seq_nx, q3]
  simp [q4', q5', q6', f1, f2, ad, ne, sto, List.lookup]
theorem plain : Plain := by
  intro ns _
  rw [callF_s (d := ⟨11, 1, m_law⟩) rfl]
  obtain ⟨n, hn, en⟩ : ∃ n : Nat, n ≤ 3 ∧ ∀ h l, (mOp addW (mC (.int 1)) (mOp minW (mC (.int 1)) (mF1 lenW (mV 0)))) (some (.fl (ns.map .int)) :: l) h = .ok (.int n) h := by
    refine ⟨(1 + (if (ns.length : Int) < 1 then (ns.length : Int) else 1)).toNat, ?_, fun h l => ?_⟩
    · split <;> omega
    · simp
      split <;> omega
  obtain ⟨σ3, h3, q3, _⟩ := msFor_ok (mi := miR1 (mOp addW (mC (.int 1)) (mOp minW (mC (.int 1)) (mF1 lenW (mV 0))))) (src := srcR 0 n) (t := .nm 1) (b := b_law_1 (callF T 199)) (ws := (List.range n).map fun (i : Nat) => D.int (0 + (i : Nat)))
    (σ := [some (.fl (ns.map .int)), none, none, none, none, none, none, none, none, none, none]) (h := []) (h1 := [])
    (fun j σ h' => ∃ b1 b2 b3 b4 b5 b6 b7 b8 b9 b10, σ = [some (.fl (ns.map .int)), b1, b2, b3, b4, b5, b6, b7, b8, b9, b10])
    (miR1_nat (en [] _) (by omega)) (fun j σ h' _ => srcR_at j)
    (by
      rintro j w σ h' ⟨b1, b2, b3, b4, b5, b6, b7, b8, b9, b10, rfl⟩ ej
      have hj := lt_of_get ej
      simp at hj
      have ew : w = .int (j : Nat) := by
        simp [hj] at ej
        exact ej.symm
      subst ew
      obtain ⟨c2, c3, c4, c5, c6, c7, c8, c9, c10, h4, q4⟩ := k61_cell (ns := ns) (j := j) (by omega) (a2 := b2) (a3 := b3) (a4 := b4) (a5 := b5) (a6 := b6) (a7 := b7) (a8 := b8) (a9 := b9) (a10 := b10) (h := h')
      exact ⟨_, _, h4, rfl, .inl q4, some (.int j), c2, c3, c4, c5, c6, c7, c8, c9, c10, rfl⟩)
    ⟨none, none, none, none, none, none, none, none, none, none, rfl⟩ (by simp; omega)
  refine ⟨h3, ?_⟩
  simp [m_law, startW, q3]

end LW
end
section
namespace LW
open PV PySem PySem.Spec PyProof.Rows L2

def d_is_token : He.DefD := ⟨("is_token", none), "is_token", "is_token", defArgs s_is_token, defBody s_is_token, defScope s_is_token, [], []⟩
def d_is_word : He.DefD := ⟨("is_word", none), "is_word", "is_word", defArgs s_is_word, defBody s_is_word, defScope s_is_word, [], []⟩
def d_is_operator : He.DefD := ⟨("is_operator", none), "is_operator", "is_operator", defArgs s_is_operator, defBody s_is_operator, defScope s_is_operator, [], []⟩
def d_starts_operand : He.DefD := ⟨("starts_operand", none), "starts_operand", "starts_operand", defArgs s_starts_operand, defBody s_starts_operand, defScope s_starts_operand, [], []⟩
def d_are_distinct : He.DefD := ⟨("are_distinct", none), "are_distinct", "are_distinct", defArgs s_are_distinct, defBody s_are_distinct, defScope s_are_distinct, [], []⟩
def d_is_operator_list : He.DefD := ⟨("is_operator_list", none), "is_operator_list", "is_operator_list", defArgs s_is_operator_list, defBody s_is_operator_list, defScope s_is_operator_list, [], []⟩
def d_has_left : He.DefD := ⟨("has_left", none), "has_left", "has_left", defArgs s_has_left, defBody s_has_left, defScope s_has_left, [], []⟩
def d_has_right : He.DefD := ⟨("has_right", none), "has_right", "has_right", defArgs s_has_right, defBody s_has_right, defScope s_has_right, [], []⟩
def d_pairs : He.DefD := ⟨("pairs", none), "pairs", "pairs", defArgs s_pairs, defBody s_pairs, defScope s_pairs, [], []⟩
def d_is_number : He.DefD := ⟨("is_number", none), "is_number", "is_number", defArgs s_is_number, defBody s_is_number, defScope s_is_number, [], []⟩
def d_is_row : He.DefD := ⟨("is_row", none), "is_row", "is_row", defArgs s_is_row, defBody s_is_row, defScope s_is_row, [], []⟩
def d_are_entries : He.DefD := ⟨("are_entries", none), "are_entries", "are_entries", defArgs s_are_entries, defBody s_are_entries, defScope s_are_entries, [], []⟩
def d_Table___init__ : He.DefD := ⟨("Table", some "__init__"), "__init__", "Table.__init__", defArgs s_Table___init__, defBody s_Table___init__, defScope s_Table___init__, [.adr (He.dflAt ("Table", some "__init__") 0)], []⟩
def d_Table_entry : He.DefD := ⟨("Table", some "entry"), "entry", "Table.entry", defArgs s_Table_entry, defBody s_Table_entry, defScope s_Table_entry, [], []⟩
def d_joined : He.DefD := ⟨("joined", none), "joined", "joined", defArgs s_joined, defBody s_joined, defScope s_joined, [], []⟩
def d_law_source : He.DefD := ⟨("_law_source", none), "_law_source", "_law_source", defArgs s_law_source, defBody s_law_source, defScope s_law_source, [], []⟩
def d_law_draw : He.DefD := ⟨("_law_draw", none), "_law_draw", "_law_draw", defArgs s_law_draw, defBody s_law_draw, defScope s_law_draw, [], []⟩
def d_law_pick : He.DefD := ⟨("_law_pick", none), "_law_pick", "_law_pick", defArgs s_law_pick, defBody s_law_pick, defScope s_law_pick, [], []⟩
def d_law_has : He.DefD := ⟨("_law_has", none), "_law_has", "_law_has", defArgs s_law_has, defBody s_law_has, defScope s_law_has, [], []⟩
def d_law_pairs : He.DefD := ⟨("_law_pairs", none), "_law_pairs", "_law_pairs", defArgs s_law_pairs, defBody s_law_pairs, defScope s_law_pairs, [], []⟩
def d_law_entries : He.DefD := ⟨("_law_entries", none), "_law_entries", "_law_entries", defArgs s_law_entries, defBody s_law_entries, defScope s_law_entries, [], []⟩
def d_law_told : He.DefD := ⟨("_law_told", none), "_law_told", "_law_told", defArgs s_law_told, defBody s_law_told, defScope s_law_told, [], []⟩
def d_law_table : He.DefD := ⟨("_law_table", none), "_law_table", "_law_table", defArgs s_law_table, defBody s_law_table, defScope s_law_table, [], []⟩
def d_law_right : He.DefD := ⟨("_law_right", none), "_law_right", "_law_right", defArgs s_law_right, defBody s_law_right, defScope s_law_right, [], []⟩
def d_law : He.DefD := ⟨("law", none), "law", "law", defArgs s_law, defBody s_law, defScope s_law, [], []⟩
def d_x_BadOperators : He.DefD := ⟨("BadOperators", some "__init__"), "__init__", "BadOperators.__init__", defArgs s_x_BadOperators, defBody s_x_BadOperators, defScope s_x_BadOperators, [], []⟩
def d_x_BadEntries : He.DefD := ⟨("BadEntries", some "__init__"), "__init__", "BadEntries.__init__", defArgs s_x_BadEntries, defBody s_x_BadEntries, defScope s_x_BadEntries, [], []⟩
def d_x_NoPair : He.DefD := ⟨("NoPair", some "__init__"), "__init__", "NoPair.__init__", defArgs s_x_NoPair, defBody s_x_NoPair, defScope s_x_NoPair, [], []⟩
def fn : List He.DefD := [d_is_token, d_is_word, d_is_operator, d_starts_operand, d_are_distinct, d_is_operator_list, d_has_left, d_has_right, d_pairs, d_is_number, d_is_row, d_are_entries, d_Table___init__, d_Table_entry, d_joined, d_law_source, d_law_draw, d_law_pick, d_law_has, d_law_pairs, d_law_entries, d_law_told, d_law_table, d_law_right, d_law, d_x_BadOperators, d_x_BadEntries, d_x_NoPair]
def caL (K : PySem.W.Frag) : List (Nat × Addr) := [(0, He.ga K "Table"), (100, He.ga K "GroupingError"), (101, He.ga K "BadOperators"), (102, He.ga K "BadEntries"), (103, He.ga K "NoPair")]
def fa : List He.Fa := [.glo "is_token", .glo "is_word", .glo "is_operator", .glo "starts_operand", .glo "are_distinct", .glo "is_operator_list", .glo "has_left", .glo "has_right", .glo "pairs", .glo "is_number", .glo "is_row", .glo "are_entries", .glo "joined", .glo "_law_source", .glo "_law_draw", .glo "_law_pick", .glo "_law_has", .glo "_law_pairs", .glo "_law_entries", .glo "_law_told", .glo "_law_table", .glo "_law_right", .glo "law", .str "CLOSED" "closed", .str "ERROR" "error", .glo "GROUP_WORDS", .str "INFIX" "infix", .glo "KINDS", .int "MOST_CHARACTERS" 8, .int "MOST_OPERATORS" 12, .int "MOST_WORDS" 3, .str "POSTFIX" "postfix", .str "PREFIX" "prefix", .str "REDUCE" "reduce", .str "SHIFT" "shift", .free "abs", .free "all", .free "any", .free "bool", .free "dict", .free "enumerate", .free "int", .free "isinstance", .free "len", .free "min", .free "range", .free "str", .free "tuple", .free "zip", .glo "BadOperators", .glo "GroupingError", .glo "BadEntries", .glo "NoPair", .mkr "Table", .cls "Table", .meth "Table" "entry", .glo "Table"]
abbrev RW : PySem.W.OpenRow := PySem.W.OpenLaw.row PySem.Challenge.rw_operatortables_k61_joined_tables_of_all
def ck (K : PySem.W.Frag) : Bool := He.tupB K "GROUP_WORDS" ((["(", ")"] : List Str).map He.Dv.str) && (He.tupB K "KINDS" ((["closed", "infix", "postfix", "prefix"] : List Str).map He.Dv.str) && (xcB K (He.ga K "BadOperators") (He.ga K "GroupingError") ["value"] && (xcB K (He.ga K "BadEntries") (He.ga K "GroupingError") ["value"] && (xcB K (He.ga K "NoPair") (He.ga K "GroupingError") ["s", "o"] && (exB K (caL K) (He.ga K "BadOperators") [101] && (xfAll K (caL K) "entries" && (xfAll K (caL K) "entry_by_pair" && (xfAll K (caL K) "operators" && (xfAll K (caL K) "value" && (true))))))))))
abbrev hk : PySem.W.Hook := PV.hookX 7 fa fn ck
def ob (s : PySem.W.SharedT) : He.AlD × Bool := PV.obsXG 7 fa fn ck (HandSHeadRun.getT s)
theorem ob_eq (s : PySem.W.SharedT) : ob s = hk.obs s.abs := PV.obsXG_eq (HandSHeadRun.getT_eq s)
def names0 : List PySem.Str := ["GroupingError", "BadOperators", "BadEntries", "NoPair", "MOST_OPERATORS", "MOST_WORDS", "MOST_CHARACTERS", "CLOSED", "INFIX", "POSTFIX", "PREFIX", "KINDS", "GROUP_WORDS", "is_token", "is_word"]
def names1 : List PySem.Str := ["is_operator", "starts_operand", "are_distinct", "is_operator_list", "has_left", "has_right", "pairs", "REDUCE", "SHIFT", "ERROR", "is_number", "is_row", "are_entries", "Table", "joined"]
def names2 : List PySem.Str := ["_law_source", "_law_draw", "_law_pick", "_law_has", "_law_pairs", "_law_entries", "_law_told", "_law_table", "_law_right"]
def names : List PySem.Str := names0 ++ names1 ++ names2
theorem run (w : World) : HandSHeadRun.RunEq RW (PySem.W.view RW.prog [44]) hk ob 6000 names w := by
  intro os
  kernel_rfl
def gx (K : PySem.W.Frag) : Gx := ⟨K, fun f => match f with
  | 0 => some (He.ga K "is_token")
  | 1 => some (He.ga K "is_word")
  | 2 => some (He.ga K "is_operator")
  | 3 => some (He.ga K "starts_operand")
  | 4 => some (He.ga K "are_distinct")
  | 5 => some (He.ga K "is_operator_list")
  | 6 => some (He.ga K "has_left")
  | 7 => some (He.ga K "has_right")
  | 8 => some (He.ga K "pairs")
  | 9 => some (He.ga K "is_number")
  | 10 => some (He.ga K "is_row")
  | 11 => some (He.ga K "are_entries")
  | 14 => some (He.ga K "joined")
  | 15 => some (He.ga K "_law_source")
  | 16 => some (He.ga K "_law_draw")
  | 17 => some (He.ga K "_law_pick")
  | 18 => some (He.ga K "_law_has")
  | 19 => some (He.ga K "_law_pairs")
  | 20 => some (He.ga K "_law_entries")
  | 21 => some (He.ga K "_law_told")
  | 22 => some (He.ga K "_law_table")
  | 23 => some (He.ga K "_law_right")
  | 24 => some (He.ga K "law")
  | _ => none, fun c => (caL K).lookup c⟩
theorem fs_all {P : Program} {w : World} {K : PySem.W.Frag} {h : Heap} {mg : Str → Option Value} (base : Heap) (X : K.In h) (G : h.Ns mainGlobals mg) (c : He.SaysD fa fn K) (d : ck K = true) : ∀ k, FS P w K mg base (gx K) k (callF T k)
  | 0 => by
    obtain ⟨_, F0⟩ := c.def_ 0 (d := d_is_token) rfl
    obtain ⟨_, F1⟩ := c.def_ 1 (d := d_is_word) rfl
    obtain ⟨_, F2⟩ := c.def_ 2 (d := d_is_operator) rfl
    obtain ⟨_, F3⟩ := c.def_ 3 (d := d_starts_operand) rfl
    obtain ⟨_, F4⟩ := c.def_ 4 (d := d_are_distinct) rfl
    obtain ⟨_, F5⟩ := c.def_ 5 (d := d_is_operator_list) rfl
    obtain ⟨_, F6⟩ := c.def_ 6 (d := d_has_left) rfl
    obtain ⟨_, F7⟩ := c.def_ 7 (d := d_has_right) rfl
    obtain ⟨_, F8⟩ := c.def_ 8 (d := d_pairs) rfl
    obtain ⟨_, F9⟩ := c.def_ 9 (d := d_is_number) rfl
    obtain ⟨_, F10⟩ := c.def_ 10 (d := d_is_row) rfl
    obtain ⟨_, F11⟩ := c.def_ 11 (d := d_are_entries) rfl
    obtain ⟨_, F12⟩ := c.def_ 12 (d := d_Table___init__) rfl
    obtain ⟨_, F13⟩ := c.def_ 13 (d := d_Table_entry) rfl
    obtain ⟨_, F14⟩ := c.def_ 14 (d := d_joined) rfl
    obtain ⟨_, F15⟩ := c.def_ 15 (d := d_law_source) rfl
    obtain ⟨_, F16⟩ := c.def_ 16 (d := d_law_draw) rfl
    obtain ⟨_, F17⟩ := c.def_ 17 (d := d_law_pick) rfl
    obtain ⟨_, F18⟩ := c.def_ 18 (d := d_law_has) rfl
    obtain ⟨_, F19⟩ := c.def_ 19 (d := d_law_pairs) rfl
    obtain ⟨_, F20⟩ := c.def_ 20 (d := d_law_entries) rfl
    obtain ⟨_, F21⟩ := c.def_ 21 (d := d_law_told) rfl
    obtain ⟨_, F22⟩ := c.def_ 22 (d := d_law_table) rfl
    obtain ⟨_, F23⟩ := c.def_ 23 (d := d_law_right) rfl
    obtain ⟨_, F24⟩ := c.def_ 24 (d := d_law) rfl
    obtain ⟨_, X0⟩ := c.def_ 25 (d := d_x_BadOperators) rfl
    obtain ⟨_, X1⟩ := c.def_ 26 (d := d_x_BadEntries) rfl
    obtain ⟨_, X2⟩ := c.def_ 27 (d := d_x_NoPair) rfl
    exact ⟨fnF_zero F0 (He.glo_ok X G (c.fact 0 (f := .glo "is_token") rfl)) rfl,
      fnF_zero F1 (He.glo_ok X G (c.fact 1 (f := .glo "is_word") rfl)) rfl,
      fnF_zero F2 (He.glo_ok X G (c.fact 2 (f := .glo "is_operator") rfl)) rfl,
      fnF_zero F3 (He.glo_ok X G (c.fact 3 (f := .glo "starts_operand") rfl)) rfl,
      fnF_zero F4 (He.glo_ok X G (c.fact 4 (f := .glo "are_distinct") rfl)) rfl,
      fnF_zero F5 (He.glo_ok X G (c.fact 5 (f := .glo "is_operator_list") rfl)) rfl,
      fnF_zero F6 (He.glo_ok X G (c.fact 6 (f := .glo "has_left") rfl)) rfl,
      fnF_zero F7 (He.glo_ok X G (c.fact 7 (f := .glo "has_right") rfl)) rfl,
      fnF_zero F8 (He.glo_ok X G (c.fact 8 (f := .glo "pairs") rfl)) rfl,
      fnF_zero F9 (He.glo_ok X G (c.fact 9 (f := .glo "is_number") rfl)) rfl,
      fnF_zero F10 (He.glo_ok X G (c.fact 10 (f := .glo "is_row") rfl)) rfl,
      fnF_zero F11 (He.glo_ok X G (c.fact 11 (f := .glo "are_entries") rfl)) rfl,
      fnI_zero rfl (He.mkr_ok (x := "Table") (c.fact 53 (f := .mkr "Table") rfl)) F12,
      fnM_zero rfl (He.cls_ok (x := "Table") (c.fact 54 (f := .cls "Table") rfl)) (He.meth_ok (x := "Table") (m := "entry") (c.fact 55 (f := .meth "Table" "entry") rfl)) F13,
      fnF_zero F14 (He.glo_ok X G (c.fact 12 (f := .glo "joined") rfl)) rfl,
      fnF_zero F15 (He.glo_ok X G (c.fact 13 (f := .glo "_law_source") rfl)) rfl,
      fnF_zero F16 (He.glo_ok X G (c.fact 14 (f := .glo "_law_draw") rfl)) rfl,
      fnF_zero F17 (He.glo_ok X G (c.fact 15 (f := .glo "_law_pick") rfl)) rfl,
      fnF_zero F18 (He.glo_ok X G (c.fact 16 (f := .glo "_law_has") rfl)) rfl,
      fnF_zero F19 (He.glo_ok X G (c.fact 17 (f := .glo "_law_pairs") rfl)) rfl,
      fnF_zero F20 (He.glo_ok X G (c.fact 18 (f := .glo "_law_entries") rfl)) rfl,
      fnF_zero F21 (He.glo_ok X G (c.fact 19 (f := .glo "_law_told") rfl)) rfl,
      fnF_zero F22 (He.glo_ok X G (c.fact 20 (f := .glo "_law_table") rfl)) rfl,
      fnF_zero F23 (He.glo_ok X G (c.fact 21 (f := .glo "_law_right") rfl)) rfl,
      fnF_zero F24 (He.glo_ok X G (c.fact 22 (f := .glo "law") rfl)) rfl,
      mkF_zero (He.glo_ok X G (c.fact 56 (f := .glo "Table") rfl)) (He.mkr_ok (x := "Table") (c.fact 53 (f := .mkr "Table") rfl)).kp,
      (xfAll_ok (l := caL K) rfl (He.ba (He.ba (He.ba (He.ba (He.ba (He.ba (He.ba d).2).2).2).2).2).2).1),
      (xfAll_ok (l := caL K) rfl (He.ba (He.ba (He.ba (He.ba (He.ba (He.ba (He.ba (He.ba d).2).2).2).2).2).2).2).1),
      (xfAll_ok (l := caL K) rfl (He.ba (He.ba (He.ba (He.ba (He.ba (He.ba (He.ba (He.ba (He.ba d).2).2).2).2).2).2).2).2).1),
      (xfAll_ok (l := caL K) rfl (He.ba (He.ba (He.ba (He.ba (He.ba (He.ba (He.ba (He.ba (He.ba (He.ba d).2).2).2).2).2).2).2).2).2).1),
      xcF_ok (st := s_x_BadOperators) (C := He.ga K "BadOperators") (G := He.ga K "GroupingError") rfl (He.glo_ok X G (c.fact 49 (f := .glo "BadOperators") rfl)) (He.glo_ok X G (c.fact 50 (f := .glo "GroupingError") rfl)) (He.ba (He.ba (He.ba d).2).2).1 X0 bx_BadOperators sx_BadOperators ix_BadOperators (by decide +kernel) (by decide +kernel) (by decide +kernel) (by decide +kernel),
      xcF_ok (st := s_x_BadEntries) (C := He.ga K "BadEntries") (G := He.ga K "GroupingError") rfl (He.glo_ok X G (c.fact 51 (f := .glo "BadEntries") rfl)) (He.glo_ok X G (c.fact 50 (f := .glo "GroupingError") rfl)) (He.ba (He.ba (He.ba (He.ba d).2).2).2).1 X1 bx_BadEntries sx_BadEntries ix_BadEntries (by decide +kernel) (by decide +kernel) (by decide +kernel) (by decide +kernel),
      xcF_ok (st := s_x_NoPair) (C := He.ga K "NoPair") (G := He.ga K "GroupingError") rfl (He.glo_ok X G (c.fact 52 (f := .glo "NoPair") rfl)) (He.glo_ok X G (c.fact 50 (f := .glo "GroupingError") rfl)) (He.ba (He.ba (He.ba (He.ba (He.ba d).2).2).2).2).1 X2 bx_NoPair sx_NoPair ix_NoPair (by decide +kernel) (by decide +kernel) (by decide +kernel) (by decide +kernel),
      exB_ok (l := caL K) (C := He.ga K "BadOperators") rfl (He.glo_ok X G (c.fact 49 (f := .glo "BadOperators") rfl)) (He.ba (He.ba (He.ba (He.ba (He.ba (He.ba d).2).2).2).2).2).1,
      He.str_ok X G (c.fact 23 (f := .str "CLOSED" "closed") rfl),
      He.str_ok X G (c.fact 24 (f := .str "ERROR" "error") rfl),
      PV.tupS_ok (a := 0) (xs := (["(", ")"] : List Str)) rfl (He.glo_ok X G (c.fact 25 (f := .glo "GROUP_WORDS") rfl)) (He.ba d).1,
      He.str_ok X G (c.fact 26 (f := .str "INFIX" "infix") rfl),
      PV.tupS_ok (a := 0) (xs := (["closed", "infix", "postfix", "prefix"] : List Str)) rfl (He.glo_ok X G (c.fact 27 (f := .glo "KINDS") rfl)) (He.ba (He.ba d).2).1,
      He.int_ok X G (c.fact 28 (f := .int "MOST_CHARACTERS" 8) rfl),
      He.int_ok X G (c.fact 29 (f := .int "MOST_OPERATORS" 12) rfl),
      He.int_ok X G (c.fact 30 (f := .int "MOST_WORDS" 3) rfl),
      He.str_ok X G (c.fact 31 (f := .str "POSTFIX" "postfix") rfl),
      He.str_ok X G (c.fact 32 (f := .str "PREFIX" "prefix") rfl),
      He.str_ok X G (c.fact 33 (f := .str "REDUCE" "reduce") rfl),
      He.str_ok X G (c.fact 34 (f := .str "SHIFT" "shift") rfl),
      He.free_ok X G (c.fact 35 (f := .free "abs") rfl),
      He.free_ok X G (c.fact 36 (f := .free "all") rfl),
      He.free_ok X G (c.fact 37 (f := .free "any") rfl),
      He.free_ok X G (c.fact 38 (f := .free "bool") rfl),
      He.free_ok X G (c.fact 39 (f := .free "dict") rfl),
      He.free_ok X G (c.fact 40 (f := .free "enumerate") rfl),
      He.free_ok X G (c.fact 41 (f := .free "int") rfl),
      He.free_ok X G (c.fact 42 (f := .free "isinstance") rfl),
      He.free_ok X G (c.fact 43 (f := .free "len") rfl),
      He.free_ok X G (c.fact 44 (f := .free "min") rfl),
      He.free_ok X G (c.fact 45 (f := .free "range") rfl),
      He.free_ok X G (c.fact 46 (f := .free "str") rfl),
      He.free_ok X G (c.fact 47 (f := .free "tuple") rfl),
      He.free_ok X G (c.fact 48 (f := .free "zip") rfl)⟩
  | k + 1 => by
    have ih := fs_all (P := P) (w := w) base X G c d k
    obtain ⟨_, F0⟩ := c.def_ 0 (d := d_is_token) rfl
    obtain ⟨_, F1⟩ := c.def_ 1 (d := d_is_word) rfl
    obtain ⟨_, F2⟩ := c.def_ 2 (d := d_is_operator) rfl
    obtain ⟨_, F3⟩ := c.def_ 3 (d := d_starts_operand) rfl
    obtain ⟨_, F4⟩ := c.def_ 4 (d := d_are_distinct) rfl
    obtain ⟨_, F5⟩ := c.def_ 5 (d := d_is_operator_list) rfl
    obtain ⟨_, F6⟩ := c.def_ 6 (d := d_has_left) rfl
    obtain ⟨_, F7⟩ := c.def_ 7 (d := d_has_right) rfl
    obtain ⟨_, F8⟩ := c.def_ 8 (d := d_pairs) rfl
    obtain ⟨_, F9⟩ := c.def_ 9 (d := d_is_number) rfl
    obtain ⟨_, F10⟩ := c.def_ 10 (d := d_is_row) rfl
    obtain ⟨_, F11⟩ := c.def_ 11 (d := d_are_entries) rfl
    obtain ⟨_, F12⟩ := c.def_ 12 (d := d_Table___init__) rfl
    obtain ⟨_, F13⟩ := c.def_ 13 (d := d_Table_entry) rfl
    obtain ⟨_, F14⟩ := c.def_ 14 (d := d_joined) rfl
    obtain ⟨_, F15⟩ := c.def_ 15 (d := d_law_source) rfl
    obtain ⟨_, F16⟩ := c.def_ 16 (d := d_law_draw) rfl
    obtain ⟨_, F17⟩ := c.def_ 17 (d := d_law_pick) rfl
    obtain ⟨_, F18⟩ := c.def_ 18 (d := d_law_has) rfl
    obtain ⟨_, F19⟩ := c.def_ 19 (d := d_law_pairs) rfl
    obtain ⟨_, F20⟩ := c.def_ 20 (d := d_law_entries) rfl
    obtain ⟨_, F21⟩ := c.def_ 21 (d := d_law_told) rfl
    obtain ⟨_, F22⟩ := c.def_ 22 (d := d_law_table) rfl
    obtain ⟨_, F23⟩ := c.def_ 23 (d := d_law_right) rfl
    obtain ⟨_, F24⟩ := c.def_ 24 (d := d_law) rfl
    obtain ⟨_, X0⟩ := c.def_ 25 (d := d_x_BadOperators) rfl
    obtain ⟨_, X1⟩ := c.def_ 26 (d := d_x_BadEntries) rfl
    obtain ⟨_, X2⟩ := c.def_ 27 (d := d_x_NoPair) rfl
    exact ⟨fnF_stepQ (N := N_is_token) (mm := m_is_token) F0 (He.glo_ok X G (c.fact 0 (f := .glo "is_token") rfl)) rfl sc_is_token rfl ih rfl (by decide) sl_is_token,
      fnF_stepQ (N := N_is_word) (mm := m_is_word) F1 (He.glo_ok X G (c.fact 1 (f := .glo "is_word") rfl)) rfl sc_is_word rfl ih rfl (by decide) sl_is_word,
      fnF_stepQ (N := N_is_operator) (mm := m_is_operator) F2 (He.glo_ok X G (c.fact 2 (f := .glo "is_operator") rfl)) rfl sc_is_operator rfl ih rfl (by decide) sl_is_operator,
      fnF_stepQ (N := N_starts_operand) (mm := m_starts_operand) F3 (He.glo_ok X G (c.fact 3 (f := .glo "starts_operand") rfl)) rfl sc_starts_operand rfl ih rfl (by decide) sl_starts_operand,
      fnF_stepQ (N := N_are_distinct) (mm := m_are_distinct) F4 (He.glo_ok X G (c.fact 4 (f := .glo "are_distinct") rfl)) rfl sc_are_distinct rfl ih rfl (by decide) sl_are_distinct,
      fnF_stepQ (N := N_is_operator_list) (mm := m_is_operator_list) F5 (He.glo_ok X G (c.fact 5 (f := .glo "is_operator_list") rfl)) rfl sc_is_operator_list rfl ih rfl (by decide) sl_is_operator_list,
      fnF_stepQ (N := N_has_left) (mm := m_has_left) F6 (He.glo_ok X G (c.fact 6 (f := .glo "has_left") rfl)) rfl sc_has_left rfl ih rfl (by decide) sl_has_left,
      fnF_stepQ (N := N_has_right) (mm := m_has_right) F7 (He.glo_ok X G (c.fact 7 (f := .glo "has_right") rfl)) rfl sc_has_right rfl ih rfl (by decide) sl_has_right,
      fnF_stepQ (N := N_pairs) (mm := m_pairs) F8 (He.glo_ok X G (c.fact 8 (f := .glo "pairs") rfl)) rfl sc_pairs rfl ih rfl (by decide) sl_pairs,
      fnF_stepQ (N := N_is_number) (mm := m_is_number) F9 (He.glo_ok X G (c.fact 9 (f := .glo "is_number") rfl)) rfl sc_is_number rfl ih rfl (by decide) sl_is_number,
      fnF_stepQ (N := N_is_row) (mm := m_is_row) F10 (He.glo_ok X G (c.fact 10 (f := .glo "is_row") rfl)) rfl sc_is_row rfl ih rfl (by decide) sl_is_row,
      fnF_stepQ (N := N_are_entries) (mm := m_are_entries) F11 (He.glo_ok X G (c.fact 11 (f := .glo "are_entries") rfl)) rfl sc_are_entries rfl ih rfl (by decide) sl_are_entries,
      fnI_step (N := N_Table___init__) (mm := m_Table___init__) rfl (He.mkr_ok (x := "Table") (c.fact 53 (f := .mkr "Table") rfl)) F12 sc_Table___init__ rfl ih rfl (by decide) sl_Table___init__,
      fnM_step (N := N_Table_entry) (mm := m_Table_entry) rfl (He.cls_ok (x := "Table") (c.fact 54 (f := .cls "Table") rfl)) (He.meth_ok (x := "Table") (m := "entry") (c.fact 55 (f := .meth "Table" "entry") rfl)) F13 sc_Table_entry rfl ih rfl (by decide) sl_Table_entry,
      fnF_stepQ (N := N_joined) (mm := m_joined) F14 (He.glo_ok X G (c.fact 12 (f := .glo "joined") rfl)) rfl sc_joined rfl ih rfl (by decide) sl_joined,
      fnF_stepQ (N := N_law_source) (mm := m_law_source) F15 (He.glo_ok X G (c.fact 13 (f := .glo "_law_source") rfl)) rfl sc_law_source rfl ih rfl (by decide) sl_law_source,
      fnF_stepQ (N := N_law_draw) (mm := m_law_draw) F16 (He.glo_ok X G (c.fact 14 (f := .glo "_law_draw") rfl)) rfl sc_law_draw rfl ih rfl (by decide) sl_law_draw,
      fnF_stepQ (N := N_law_pick) (mm := m_law_pick) F17 (He.glo_ok X G (c.fact 15 (f := .glo "_law_pick") rfl)) rfl sc_law_pick rfl ih rfl (by decide) sl_law_pick,
      fnF_stepQ (N := N_law_has) (mm := m_law_has) F18 (He.glo_ok X G (c.fact 16 (f := .glo "_law_has") rfl)) rfl sc_law_has rfl ih rfl (by decide) sl_law_has,
      fnF_stepQ (N := N_law_pairs) (mm := m_law_pairs) F19 (He.glo_ok X G (c.fact 17 (f := .glo "_law_pairs") rfl)) rfl sc_law_pairs rfl ih rfl (by decide) sl_law_pairs,
      fnF_stepQ (N := N_law_entries) (mm := m_law_entries) F20 (He.glo_ok X G (c.fact 18 (f := .glo "_law_entries") rfl)) rfl sc_law_entries rfl ih rfl (by decide) sl_law_entries,
      fnF_stepQ (N := N_law_told) (mm := m_law_told) F21 (He.glo_ok X G (c.fact 19 (f := .glo "_law_told") rfl)) rfl sc_law_told rfl ih rfl (by decide) sl_law_told,
      fnF_stepQ (N := N_law_table) (mm := m_law_table) F22 (He.glo_ok X G (c.fact 20 (f := .glo "_law_table") rfl)) rfl sc_law_table rfl ih rfl (by decide) sl_law_table,
      fnF_stepQ (N := N_law_right) (mm := m_law_right) F23 (He.glo_ok X G (c.fact 21 (f := .glo "_law_right") rfl)) rfl sc_law_right rfl ih rfl (by decide) sl_law_right,
      fnF_stepQ (N := N_law) (mm := m_law) F24 (He.glo_ok X G (c.fact 22 (f := .glo "law") rfl)) rfl sc_law rfl ih rfl (by decide) sl_law,
      mkD (j := 1) (dws := []) rfl rfl (He.glo_ok X G (c.fact 56 (f := .glo "Table") rfl)) ih.in_Table___init__ (by simp) rfl bq_Table___init___2 rfl rfl (fun _ _ => rfl),
      (xfAll_ok (l := caL K) rfl (He.ba (He.ba (He.ba (He.ba (He.ba (He.ba (He.ba d).2).2).2).2).2).2).1),
      (xfAll_ok (l := caL K) rfl (He.ba (He.ba (He.ba (He.ba (He.ba (He.ba (He.ba (He.ba d).2).2).2).2).2).2).2).1),
      (xfAll_ok (l := caL K) rfl (He.ba (He.ba (He.ba (He.ba (He.ba (He.ba (He.ba (He.ba (He.ba d).2).2).2).2).2).2).2).2).1),
      (xfAll_ok (l := caL K) rfl (He.ba (He.ba (He.ba (He.ba (He.ba (He.ba (He.ba (He.ba (He.ba (He.ba d).2).2).2).2).2).2).2).2).2).1),
      xcF_ok (st := s_x_BadOperators) (C := He.ga K "BadOperators") (G := He.ga K "GroupingError") rfl (He.glo_ok X G (c.fact 49 (f := .glo "BadOperators") rfl)) (He.glo_ok X G (c.fact 50 (f := .glo "GroupingError") rfl)) (He.ba (He.ba (He.ba d).2).2).1 X0 bx_BadOperators sx_BadOperators ix_BadOperators (by decide +kernel) (by decide +kernel) (by decide +kernel) (by decide +kernel),
      xcF_ok (st := s_x_BadEntries) (C := He.ga K "BadEntries") (G := He.ga K "GroupingError") rfl (He.glo_ok X G (c.fact 51 (f := .glo "BadEntries") rfl)) (He.glo_ok X G (c.fact 50 (f := .glo "GroupingError") rfl)) (He.ba (He.ba (He.ba (He.ba d).2).2).2).1 X1 bx_BadEntries sx_BadEntries ix_BadEntries (by decide +kernel) (by decide +kernel) (by decide +kernel) (by decide +kernel),
      xcF_ok (st := s_x_NoPair) (C := He.ga K "NoPair") (G := He.ga K "GroupingError") rfl (He.glo_ok X G (c.fact 52 (f := .glo "NoPair") rfl)) (He.glo_ok X G (c.fact 50 (f := .glo "GroupingError") rfl)) (He.ba (He.ba (He.ba (He.ba (He.ba d).2).2).2).2).1 X2 bx_NoPair sx_NoPair ix_NoPair (by decide +kernel) (by decide +kernel) (by decide +kernel) (by decide +kernel),
      exB_ok (l := caL K) (C := He.ga K "BadOperators") rfl (He.glo_ok X G (c.fact 49 (f := .glo "BadOperators") rfl)) (He.ba (He.ba (He.ba (He.ba (He.ba (He.ba d).2).2).2).2).2).1,
      He.str_ok X G (c.fact 23 (f := .str "CLOSED" "closed") rfl),
      He.str_ok X G (c.fact 24 (f := .str "ERROR" "error") rfl),
      PV.tupS_ok (a := 0) (xs := (["(", ")"] : List Str)) rfl (He.glo_ok X G (c.fact 25 (f := .glo "GROUP_WORDS") rfl)) (He.ba d).1,
      He.str_ok X G (c.fact 26 (f := .str "INFIX" "infix") rfl),
      PV.tupS_ok (a := 0) (xs := (["closed", "infix", "postfix", "prefix"] : List Str)) rfl (He.glo_ok X G (c.fact 27 (f := .glo "KINDS") rfl)) (He.ba (He.ba d).2).1,
      He.int_ok X G (c.fact 28 (f := .int "MOST_CHARACTERS" 8) rfl),
      He.int_ok X G (c.fact 29 (f := .int "MOST_OPERATORS" 12) rfl),
      He.int_ok X G (c.fact 30 (f := .int "MOST_WORDS" 3) rfl),
      He.str_ok X G (c.fact 31 (f := .str "POSTFIX" "postfix") rfl),
      He.str_ok X G (c.fact 32 (f := .str "PREFIX" "prefix") rfl),
      He.str_ok X G (c.fact 33 (f := .str "REDUCE" "reduce") rfl),
      He.str_ok X G (c.fact 34 (f := .str "SHIFT" "shift") rfl),
      He.free_ok X G (c.fact 35 (f := .free "abs") rfl),
      He.free_ok X G (c.fact 36 (f := .free "all") rfl),
      He.free_ok X G (c.fact 37 (f := .free "any") rfl),
      He.free_ok X G (c.fact 38 (f := .free "bool") rfl),
      He.free_ok X G (c.fact 39 (f := .free "dict") rfl),
      He.free_ok X G (c.fact 40 (f := .free "enumerate") rfl),
      He.free_ok X G (c.fact 41 (f := .free "int") rfl),
      He.free_ok X G (c.fact 42 (f := .free "isinstance") rfl),
      He.free_ok X G (c.fact 43 (f := .free "len") rfl),
      He.free_ok X G (c.fact 44 (f := .free "min") rfl),
      He.free_ok X G (c.fact 45 (f := .free "range") rfl),
      He.free_ok X G (c.fact 46 (f := .free "str") rfl),
      He.free_ok X G (c.fact 47 (f := .free "tuple") rfl),
      He.free_ok X G (c.fact 48 (f := .free "zip") rfl)⟩
theorem facts {P : Program} {w : World} {K : PySem.W.Frag} {h : Heap} {mg : Str → Option Value} {f : Addr} (X : K.In h) (G : h.Ns mainGlobals mg) (hfa : mg ("law" : Str) = some (.ref f)) (c : He.SaysD fa fn K) (d : ck K = true) :
    ∃ fd : FuncData, (∀ (s : Shared) (v : Value), BindsTo s fd ⟨[v], []⟩ [("_law_script", v)]) ∧ ∀ base : Heap, K.In base → base.Ns mainGlobals mg → FnG P w K mg base (CX P w) 203 f fd ["_law_script"] (spOf (gx K) 1 (callF T 200 i_law)) := by
  obtain ⟨fd, F⟩ := c.def_ 24 (d := d_law) rfl
  have e := hfa.symm.trans (He.glo_ok X G (c.fact 22 (f := .glo "law") rfl))
  cases e
  have b := FunD.bindsA (ps := ["_law_script"]) F bd_law
  refine ⟨fd, fun s v => b s [v] rfl, fun base _ _ => ?_⟩
  exact fnG_stepQ (N := N_law) (mm := m_law) F sc_law rfl (fs_all base X G c d 199) rfl (by decide) sl_law
theorem law_sp (pl : Plain) {K : PySem.W.Frag} (H : Hp) (a : Addr) (ns : List Int) (hl : ns.length ≤ 63) (hS : SqF K H a (ns.map V.int)) : spOf (gx K) 1 (callF T 200 i_law) [.ref a] H (fun v _ => v = .bl true) fun _ _ _ => False := by
  obtain ⟨h, e⟩ := pl ns hl
  refine ⟨[.fl (ns.map D.int)], [], [], [], rfl, ⟨.ref a, [], rfl, rfl, ⟨a, ns.map V.int, rfl, hS, ints_rel ns⟩, rfl⟩, ⟨rfl, List.nodup_nil, fun i c e => by cases e⟩, ?_⟩
  rw [e]
  exact fun _ _ _ _ v q _ => q
end LW
open PySem PySem.W PySem.Calls PyProof.Rows
theorem LW.ends (pl : LW.Plain) : PySem.Challenge.rw_operatortables_k61_joined_tables_of_all.Holds := by
  w_on; o_law
  refine HandSHeadRun.head_any (r := OpenLaw.row PySem.Challenge.rw_operatortables_k61_joined_tables_of_all) (q := view (OpenLaw.row PySem.Challenge.rw_operatortables_k61_joined_tables_of_all).prog [44]) (H := LW.hk) (ob := LW.ob) (M := 6000) (loose := LW.names) (d := HandSHeadRun.topDef (OpenLaw.row PySem.Challenge.rw_operatortables_k61_joined_tables_of_all).prog 44) (kwd := []) LW.ob_eq
    (by kernel_rfl) (fun s => by kernel_rfl) LW.run (by kernel_rfl) (by kernel_rfl) (by kernel_rfl) (by rfl) (by first | assumption | decide +kernel) (by decide +kernel) ⟨rfl, rfl, rfl, rfl, rfl, by decide +kernel⟩ ?hw ?hc
  case hw => w_witness2
  case hc =>
    refine PV.walkG (l := PySem.Challenge.rw_operatortables_k61_joined_tables_of_all) (n := 63) (k := 203) (x := "_law_script") rfl (by decide) (by kernel_rfl) ⟨rfl, by decide, by decide⟩ ?F
    intro w mg fa h Y G hmg0
    obtain ⟨K, KX, c, cd⟩ := Y
    have hmg : mg ("law" : PySem.Str) = some (.ref fa) := by
      have e : (HandSHeadRun.topDef (OpenLaw.row PySem.Challenge.rw_operatortables_k61_joined_tables_of_all).prog 44).name = ("law" : PySem.Str) := by kernel_rfl
      rw [← e]
      exact hmg0
    obtain ⟨fd, hb, hF⟩ := LW.facts (P := (PySem.Challenge.rw_operatortables_k61_joined_tables_of_all).prog) (w := w) KX G hmg c cd
    exact ⟨K, fd, _, KX, hb, fun H a ns hl hS => LW.law_sp pl H a ns hl hS, hF⟩
end
theorem PySem.Challenge.cw_operatortables_k61_joined_tables_of_all_holds : PySem.Challenge.rw_operatortables_k61_joined_tables_of_all.Holds :=
  LW.ends LW.plain
