import PyProof.Rows.All
import Wide.All
import OpenK.AllK
import Wide.FinOn
import HandS.Head0
import HandS.Head1
import HandS.Head2
import HandS.HeadEnd
import HandS.HeadHook1
import HandS.HeadHook2
import HandS.Exc
import HandS.Lambda
import HandS.ExcField
import HandS.EndTab
import HandS.Words
import Open.Tops
import KE.KStateDown
import Lean
import PySem.Challenge.RW_operatortables_k02_operator_lists_of_any
import HandS.ForMost
import HandS.TupAny
import HandS.Deep
import HandS.Style
import HandS.TupLe
import HandS.IsInst
import HandS.TupLen
import HandS.RaiseMore
import HandS.Conv
import HandS.More
import KE.GoesMore
import HandS.Zip
import HandS.TryOnly
import HandS.Small
import HandS.Defaults
import HandS.CallSlots
import HandS.Ends
import HandS.DictComp
import KE.KDictList
import HandS.TryMany
import HandS.ExcInit
import HandS.ExcIs
import HandS.ClsMeth
import KE.KExcIs
import KE.KDictPairs
import KE.KDictCopyH
import HandS.DeepEq
import KE.SortData
import HandS.Comp
import KE.SortKeyHeap
import KE.KSortKey
import KE.KLam
import KE.KRevSl
import HandS.TupMul
import HandS.TupSets
import PyProof.SumAny
import HandS.FStr
import HandS.DictEq
import KE.DataCmp
import PyProof.ReprLen
import PyProof.P3Eq
set_option Elab.async false
set_option linter.all false
set_option maxRecDepth 100000
set_option maxHeartbeats 0
section
namespace PV
open PySem PySem.Spec PyProof.Rows L2
/-- the tables of some defs -/
def aHR (K : PySem.W.Frag) (xs : List Str) : List (Addr × Addr) := xs.filterMap (PySem.W.tabIn K)
def asX (n : Nat) : List Addr := (List.range n).reverse ++ [cStatics]
def frX (g : Addr -> Option Obj) (n : Nat) (tn : List Str) : PySem.W.Frag := match (aHR (He.frG g (asX n)) tn).map (·.2) with
 | ts => He.frG g ((asX n).filter fun a => !ts.contains a)
def zM (n : Nat) (tn : List Str) (fa : List He.Fa) (fn : List He.DefD) (ck : PySem.W.Frag -> Bool) (g : Addr -> Option Obj) : He.AlD × Bool := (He.obsD fa fn (frX g n tn),ck (frX g n tn))
theorem aGp {h : Heap} {n : Nat} {tn : List Str} : (frX h.get? n tn).In h := He.frG_in
def hookY (n : Nat) (tn : List Str) (fa : List He.Fa) (fn : List He.DefD) (ck : PySem.W.Frag -> Bool) : PySem.W.Hook where
 α := He.AlD × Bool
 obs := fun s => zM n tn fa fn ck s.heap.get?
 val := fun _ => (He.valD fn,true)
 says := fun _ h => ∃ K : PySem.W.Frag,K.In h /\ He.SaysD fa fn K /\ ck K = true
 of := fun _ _ e => ⟨_,aGp,(Prod.mk.inj e).1,(Prod.mk.inj e).2⟩
 keeps := fun _ _ _ ⟨K,hK,c,d⟩ k => ⟨K,PySem.W.Frag.In.keeps hK k,c,d⟩
theorem aFu {n : Nat} {tn : List Str} {fa : List He.Fa} {fn : List He.DefD} {ck : PySem.W.Frag -> Bool} {g : Addr -> Option Obj} {s : Shared} (h : ∀ a,g a = s.heap.get? a) : zM n tn fa fn ck g = (hookY n tn fa fn ck).obs s := by
 have e : g = s.heap.get? := funext h
 rw [e]
 rfl
/-- the observations,part by part -/
theorem aCG {n : Nat} {tn : List Str} {fa : List He.Fa} {fn : List He.DefD} {ck : PySem.W.Frag -> Bool} {g : Addr -> Option Obj} (h1 : (fa.all fun f => f.ok (frX g n tn)) = true) (h2 : (fn.all fun d => d.ok (frX g n tn)) = true) (h3 : (fn.map fun d => He.fnW (frX g n tn) d.at_) = fn.map He.DefD.val) (h4 : ck (frX g n tn) = true) : zM n tn fa fn ck g = (He.valD fn,true) := by
 simp only [zM,He.obsD,He.valD,h1,h2,h3,h4,Bool.and_self]
end PV
namespace PV
section
open PySem PySem.W PySem.Calls PyProof.Rows HandSHeadRun
theorem aDI {p q : Program} {loose : List Str} {Xt : Shared -> Bool} {α : Type} {Yf : Shared -> α} {Ya : World -> α} {N M : Nat} {s : World -> OsState -> SharedT}
  (e : opening p = plainProg p.main.scope.names) (hN : Nat.ble 600 N = true) (f : ∀ s,fenceModules? p s = some s) (le : Nat.ble M N = true)
  (run : ∀ (w : World) (os : OsState),topRun treeTable p w (boot_heap w.params).objs.size (bootAnn w) M ⟨boot_heap w.params,#[],boot_drawn,boot_toks,os⟩ (topStub p) = some (s w os).abs)
  (l1 : ∀ (w : World) (os : OsState),looksF p (boot_heap w.params) (s w os).abs = true) (l2 : ∀ (w : World) (os : OsState),openSeen q loose (importedModules p.main.body) Xt true (s w os).abs = openGood q loose) (l3 : ∀ (w : World) (os : OsState),Yf (s w os).abs = Ya w) :
  LeftO p q loose Xt Yf Ya N true := fun w => by
 obtain ⟨⟨h,gs,d,k,os⟩,a,a'⟩ := Option.map_eq_some_iff.mp (boot_open e hN f w)
 obtain ⟨rfl,rfl,rfl,rfl⟩ : h = boot_heap w.params /\ gs = Array.mk [] /\ d = boot_drawn /\ k = boot_toks := by simpa using a'
 have r := topRun_mono (N - M) _ _ _ _ (run w os)
 rw [show M + (N - M) = N by have := Nat.le_of_ble_eq_true le; omega] at r
 have l1' : (staticsOk (importedModules p.main.body) (boot_heap w.params) (s w os).abs.heap && namesBound p (s w os).abs.heap && gensDone (s w os).abs && laidKept (boot_heap w.params) (s w os).abs.heap) = true := l1 w os
 have t : topFrom treeTable p w N ⟨boot_heap w.params,Array.mk [],boot_drawn,boot_toks,os⟩ = some (s w os).abs := by
  unfold topFrom
  dsimp only
  rw [boot_ns]
  show (topRun treeTable p w (boot_heap w.params).objs.size (bootAnn w) N ⟨boot_heap w.params,#[],boot_drawn,boot_toks,os⟩ (topStub p)).bind _ = _
  rw [r]
  show (match staticsOk (importedModules p.main.body) (boot_heap w.params) (s w os).abs.heap && namesBound p (s w os).abs.heap && gensDone (s w os).abs && laidKept (boot_heap w.params) (s w os).abs.heap with | true => some (s w os).abs | false => none) = _
  rw [l1']
 unfold openEnds
 rw [a]
 show (topFrom treeTable p w N _).map _ = _
 rw [t]
 exact congrArg some (Prod.ext (l2 w os) (l3 w os))
theorem aAG {r : OpenRow} {q : Program} {H : Hook} {ob : SharedT -> H.α} {M : Nat} {loose : List PySem.Str} {d : DefRec} {kwd : List (PySem.Str × PySem.Expr)} {s : World -> OsState -> SharedT} (ho : ∀ s : SharedT,ob s = H.obs s.abs)
  (e : opening r.prog = plainProg r.prog.main.scope.names) (f : ∀ s,fenceModules? r.prog s = some s)
  (run : ∀ (w : World) (os : OsState),topRun treeTable r.prog w (boot_heap w.params).objs.size (bootAnn w) M ⟨boot_heap w.params,#[],boot_drawn,boot_toks,os⟩ (topStub r.prog) = some (s w os).abs)
  (l1 : ∀ (w : World) (os : OsState),looksF r.prog (boot_heap w.params) (s w os).abs = true)
  (l2 : ∀ (w : World) (os : OsState),seenQ q loose (importedModules r.prog.main.body) (fun s => xlAt q [] s && recOk r.toRowW.records s) (s w os).abs = openGood q loose)
  (l3 : ∀ (w : World) (os : OsState),ob (s w os) = H.val w)
  (hdef : defOf q r.name = some (d,kwd)) (hp : r.prog.theDef r.name = some (d.params,d.body,d.scope)) (hk : kwWritten? d.params.kwonlyargs d.params.kw_defaults = some kwd)
  (hwr : (!r.writes || r.records.isEmpty) = true) (k1 : r.wellSaid = true) (ok : (chainsOk q && opensWell r.prog && (frees r.toRowW && r.within.isEmpty)) = true) (hb : r.prog.bare) (hw : r.toRowW.promised)
  (call : WalkO q loose (XL q []) H.says r.toRowW d kwd fun f vs => PySem.call f vs) : r.Holds := by
 have left : LeftO r.prog q loose (fun s => xlAt q [] s && recOk r.toRowW.records s) H.obs H.val (M + 600) true :=
  aDI (M := M) e (Nat.ble_eq_true_of_le (by omega)) f (Nat.ble_eq_true_of_le (by omega)) run l1 (fun w os => by rw [seenQ_eq]; exact l2 w os) fun w os => by rw [<- ho]; exact l3 w os
 exact holds_open (r := r) (q := q) (loose := loose) (XP := XL q []) (YP := H.says) (d := d) (kwd := kwd) left H.of H.keeps (fun s z => xl_of s (Bool.and_eq_true_iff.mp z).1) XL.keeps hdef hp hk (fun s z => recFacts_of (Bool.and_eq_true_iff.mp z).2) hwr k1 ok hb hw call
end
end PV
end
section
namespace LW
open PV PySem PySem.Spec PyProof.Rows L2
def top (i : Nat) : Stmt := PySem.Challenge.pw_operatortables_k02_operator_lists_of_any.main.body.getD i (.Pass ⟨0,0,0,0⟩)
abbrev eZ : Stmt := top 10
abbrev gE : Stmt := top 11
abbrev dB : Stmt := top 12
abbrev cF : Stmt := top 13
abbrev cS : Stmt := top 14
abbrev bM : Stmt := top 15
abbrev dP : Stmt := top 17
abbrev fB : Stmt := top 18
abbrev fC : Stmt := top 19
abbrev eG : Stmt := top 20
abbrev cU : Stmt := top 21
abbrev cK : Stmt := top 22
abbrev gF : Stmt := top 23
abbrev dC : Stmt := top 24
abbrev eF : Stmt := top 25
abbrev oE : Stmt := top 26
def pU : He.DefD := ⟨("is_token",none),"is_token","is_token",defArgs eZ,defBody eZ,defScope eZ,[],[]⟩
def rB : He.DefD := ⟨("is_word",none),"is_word","is_word",defArgs gE,defBody gE,defScope gE,[],[]⟩
def lS : He.DefD := ⟨("is_operator",none),"is_operator","is_operator",defArgs dB,defBody dB,defScope dB,[],[]⟩
def iZ : He.DefD := ⟨("starts_operand",none),"starts_operand","starts_operand",defArgs cF,defBody cF,defScope cF,[],[]⟩
def kN : He.DefD := ⟨("are_distinct",none),"are_distinct","are_distinct",defArgs cS,defBody cS,defScope cS,[],[]⟩
def gZ : He.DefD := ⟨("is_operator_list",none),"is_operator_list","is_operator_list",defArgs bM,defBody bM,defScope bM,[],[]⟩
def mX : He.DefD := ⟨("_law_source",none),"_law_source","_law_source",defArgs dP,defBody dP,defScope dP,[],[]⟩
def pV : He.DefD := ⟨("_law_draw",none),"_law_draw","_law_draw",defArgs fB,defBody fB,defScope fB,[],[]⟩
def pW : He.DefD := ⟨("_law_pick",none),"_law_pick","_law_pick",defArgs fC,defBody fC,defScope fC,[],[]⟩
def oM : He.DefD := ⟨("_law_words",none),"_law_words","_law_words",defArgs eG,defBody eG,defScope eG,[],[]⟩
def kO : He.DefD := ⟨("_law_operator",none),"_law_operator","_law_operator",defArgs cU,defBody cU,defScope cU,[],[]⟩
def jV : He.DefD := ⟨("_law_operators",none),"_law_operators","_law_operators",defArgs cK,defBody cK,defScope cK,[],[]⟩
def rC : He.DefD := ⟨("_law_due",none),"_law_due","_law_due",defArgs gF,defBody gF,defScope gF,[],[]⟩
def lT : He.DefD := ⟨("_law_changed",none),"_law_changed","_law_changed",defArgs dC,defBody dC,defScope dC,[],[]⟩
def oL : He.DefD := ⟨("_law_right",none),"_law_right","_law_right",defArgs eF,defBody eF,defScope eF,[],[]⟩
def yB : He.DefD := ⟨("law",none),"law","law",defArgs oE,defBody oE,defScope oE,[],[]⟩
def fn : List He.DefD := [pU,rB,lS,iZ,kN,gZ,mX,pV,pW,oM,kO,jV,rC,lT,oL,yB]
def caL (K : PySem.W.Frag) : List (Nat × Addr) := []
def lamN : List Str := []
def fa : List He.Fa := [.glo "is_token", .glo "is_word", .glo "is_operator", .glo "starts_operand", .glo "are_distinct", .glo "is_operator_list", .glo "_law_source", .glo "_law_draw", .glo "_law_pick", .glo "_law_words", .glo "_law_operator", .glo "_law_operators", .glo "_law_due", .glo "_law_changed", .glo "_law_right", .glo "law", .str "CLOSED" "closed", .glo "GROUP_WORDS", .glo "KINDS", .int "MOST_CHARACTERS" 8, .int "MOST_OPERATORS" 12, .int "MOST_WORDS" 3, .str "PREFIX" "prefix", .free "abs", .free "all", .free "any", .free "int", .free "isinstance", .free "len", .free "list", .free "max", .free "min", .free "range", .free "repr", .free "str", .free "tuple"]
abbrev RW : PySem.W.OpenRow := PySem.W.OpenLaw.row PySem.Challenge.rw_operatortables_k02_operator_lists_of_any
def ck (K : PySem.W.Frag) : Bool := He.tupB K "GROUP_WORDS" ((["(",")"] : List Str).map He.Dv.str) && (He.tupB K "KINDS" ((["closed","infix","postfix","prefix"] : List Str).map He.Dv.str) && (true))
end LW
end
section
open PySem PySem.W PySem.Calls PyProof.Rows
open_shared LW.sf for PySem.Challenge.pw_operatortables_k02_operator_lists_of_any leaving 0
end
section
noncomputable section
namespace LW.HH
open LW PV PySem PySem.W PySem.Calls PyProof.Rows HandSHeadRun
def p0 : Pos := { line := 0,col := 0,endLine := 0,endCol := 0 }
def pK : Pos := { line := 122,col := 0,endLine := 123,endCol := 116 }
def bd : List Stmt := behindTheImports RW.prog
def Sb (w : World) (os : OsState) : SharedT := { tree := LW.sf.tree_4 w.params,n := 15,life := { },gens := #[],drawn := { },toks := 187,os := os }
def Sf (w : World) (os : OsState) : SharedT := { tree := LW.sf.tree_105 w.params,n := 111,life := { },gens := #[],drawn := { },toks := 337,os := os }
theorem aGb (w : World) : bootAnn w = some (Value.ref 6) := by kernel_rfl
theorem aIs (w : World) : (boot_heap w.params).objs.size = 11 := by kernel_rfl
theorem go (w : World) (os : OsState) : topGo treeTable RW.prog w 11 (some (Value.ref 6)) 12 ⟨boot_heap w.params,#[],boot_drawn,boot_toks,os⟩ (topStub RW.prog) = some ((Sb w os).abs,⟨denote treeTable (Code.body bd LW.sf.env_1),Code.body bd LW.sf.env_1,p0,[topFrame p0]⟩) := by kernel_rfl
theorem bl (w : World) (os : OsState) : segRun treeTable RW.prog w 11 (some (Value.ref 6)) 1 1 (Sb w os).abs (blockOf bd LW.sf.env_1 (Code.body bd LW.sf.env_1) p0 [topFrame p0]) = some (.next,(Sb w os).abs,Code.body bd LW.sf.env_1,p0) := by kernel_rfl
theorem fin (w : World) (os : OsState) : topRun treeTable RW.prog w 11 (some (Value.ref 6)) 10 (Sf w os).abs (restOf [] LW.sf.env_1 (Code.body bd LW.sf.env_1) pK [topFrame p0]) = some (Sf w os).abs := by kernel_rfl
theorem aIe : LW.sf.sts_4 ++ (LW.sf.sts_70 ++ []) = bd := by kernel_rfl
theorem run (w : World) (os : OsState) : topRun treeTable RW.prog w (boot_heap w.params).objs.size (bootAnn w) (12 + (1 + (Nat.add 397 (Nat.add 178 10)))) ⟨boot_heap w.params,#[],boot_drawn,boot_toks,os⟩ (topStub RW.prog) = some (Sf w os).abs := by
 rw [aIs,aGb]
 refine go_top (go w os) (piece_block (bl w os) ?_)
 have c := LW.sf.chain RW.prog bd w os [] 10 _ (fin w os)
 rw [aIe] at c
 exact c
def aGF : List PySem.Str := ["MOST_OPERATORS","MOST_WORDS","MOST_CHARACTERS","CLOSED","INFIX","POSTFIX","PREFIX","KINDS","GROUP_WORDS","is_token","is_word","is_operator","starts_operand","are_distinct","is_operator_list"]
def aGG : List PySem.Str := ["_law_source","_law_draw","_law_pick","_law_words","_law_operator","_law_operators","_law_due","_law_changed","_law_right"]
def names : List PySem.Str := aGF ++ aGG
def vw : Program := PySem.W.view RW.prog [26]
theorem l1 (w : World) (os : OsState) : looksF RW.prog (boot_heap w.params) (Sf w os).abs = true := by kernel_rfl
theorem l2 (w : World) (os : OsState) : seenQ vw names (importedModules RW.prog.main.body) (fun s => xlAt vw [] s && recOk RW.toRowW.records s) (Sf w os).abs = openGood vw names := by kernel_rfl
abbrev nH : Nat := 111
theorem o1 (w : World) (os : OsState) : (fa.all fun f => f.ok (frX (getT (Sf w os)) nH lamN)) = true := by kernel_rfl
theorem o2 (w : World) (os : OsState) : (fn.all fun d => d.ok (frX (getT (Sf w os)) nH lamN)) = true := by kernel_rfl
theorem o3 (w : World) (os : OsState) : (fn.map fun d => He.fnW (frX (getT (Sf w os)) nH lamN) d.at_) = fn.map He.DefD.val := by kernel_rfl
theorem o4 (w : World) (os : OsState) : ck (frX (getT (Sf w os)) nH lamN) = true := by kernel_rfl
def ob (s : SharedT) : He.AlD × Bool := zM nH lamN fa fn ck (getT s)
theorem aIE (s : SharedT) : ob s = (hookY nH lamN fa fn ck).obs s.abs := aFu (getT_eq s)
theorem l3 (w : World) (os : OsState) : ob (Sf w os) = (hookY nH lamN fa fn ck).val w := aCG (o1 w os) (o2 w os) (o3 w os) (o4 w os)
def dd : DefRec := topDef RW.prog 26
theorem h_e : opening RW.prog = plainProg RW.prog.main.scope.names := by kernel_rfl
theorem h_f (s : Shared) : fenceModules? RW.prog s = some s := by kernel_rfl
theorem h_d : defOf vw RW.name = some (dd,[]) := by kernel_rfl
theorem h_p : RW.prog.theDef RW.name = some (dd.params,dd.body,dd.scope) := by kernel_rfl
theorem h_k : kwWritten? dd.params.kwonlyargs dd.params.kw_defaults = some [] := by kernel_rfl
theorem aJ4 : (!RW.writes || RW.records.isEmpty) = true := by kernel_rfl
theorem aJ5 : RW.wellSaid = true := by decide +kernel
theorem aJ3 : (chainsOk vw && opensWell RW.prog && (frees RW.toRowW && RW.within.isEmpty)) = true := by decide +kernel
theorem h_b : RW.prog.bare := ⟨rfl,rfl,rfl,rfl,rfl,by decide +kernel⟩
theorem h_n : dd.name = ("law" : PySem.Str) := by kernel_rfl
theorem h_df : dd.params.defaults = [] := by kernel_rfl
theorem head (hw : RW.toRowW.promised) (hc : WalkO vw names (XL vw []) (hookY nH lamN fa fn ck).says RW.toRowW dd [] fun f vs => PySem.call f vs) : RW.Holds :=
 aAG (r := RW) (q := vw) (H := hookY nH lamN fa fn ck) (ob := ob) (loose := names) (d := dd) (kwd := []) (s := Sf) aIE h_e h_f run l1 l2 l3 h_d h_p h_k aJ4 aJ5 aJ3 h_b hw hc
end LW.HH
end
end
section
namespace PV
open PySem PySem.Spec PyProof.Rows L2
/-- a value: pure data,a list just made (tl),a tracked cell (ref),a def,a class,a built-in type -/
inductive D where
 | non | bl (b : Bool) | int (i : Int) | str (x : Str) | tup (ws : List D) | kt (ws : List D) | tl (ws : List D) | fl (ws : List D) | ref (i : Nat)
 | ty (n : String) | fn (f : Nat) | cls (c : Nat) | xc (c : Nat) (ks : List Str) (ws : List D)
 deriving Inhabited
mutual
def D.beq : D -> D -> Bool
 | .non, .non => true
 | .bl a, .bl b => a == b
 | .int a, .int b => a == b
 | .str a, .str b => decide (a = b)
 | .tup a, .tup b => D.beqs a b
 | .tl a, .tl b => D.beqs a b
 | .fl a, .fl b => D.beqs a b
 | .kt a, .kt b => D.beqs a b
 | .ref a, .ref b => a == b
 | .ty a, .ty b => decide (a = b)
 | .fn a, .fn b => a == b
 | .cls a, .cls b => a == b
 | .xc a k v, .xc b l w => (a == b && decide (k = l)) && D.beqs v w
 | _,_ => false
def D.beqs : List D -> List D -> Bool
 | [],[] => true
 | a :: as,b :: bs => D.beq a b && D.beqs as bs
 | _,_ => false
end
mutual
theorem D.beq_eq : ∀ {a b : D},D.beq a b = true -> a = b
 | .non, .non,_ => rfl
 | .bl a, .bl b,h => by simp [D.beq] at h; rw [h]
 | .int a, .int b,h => by simp [D.beq] at h; rw [h]
 | .str a, .str b,h => by simp [D.beq] at h; rw [h]
 | .tup a, .tup b,h => by simp only [D.beq] at h; rw [D.beqs_eq h]
 | .tl a, .tl b,h => by simp only [D.beq] at h; rw [D.beqs_eq h]
 | .fl a, .fl b,h => by simp only [D.beq] at h; rw [D.beqs_eq h]
 | .kt a, .kt b,h => by simp only [D.beq] at h; rw [D.beqs_eq h]
 | .ref a, .ref b,h => by simp [D.beq] at h; rw [h]
 | .ty a, .ty b,h => by simp [D.beq] at h; rw [h]
 | .fn a, .fn b,h => by simp [D.beq] at h; rw [h]
 | .cls a, .cls b,h => by simp [D.beq] at h; rw [h]
 | .non, .bl _,h => by simp [D.beq] at h
 | .non, .int _,h => by simp [D.beq] at h
 | .non, .str _,h => by simp [D.beq] at h
 | .non, .tup _,h => by simp [D.beq] at h
 | .non, .kt _,h => by simp [D.beq] at h
 | .non, .tl _,h => by simp [D.beq] at h
 | .non, .fl _,h => by simp [D.beq] at h
 | .non, .ref _,h => by simp [D.beq] at h
 | .non, .ty _,h => by simp [D.beq] at h
 | .non, .fn _,h => by simp [D.beq] at h
 | .non, .cls _,h => by simp [D.beq] at h
 | .bl _, .non,h => by simp [D.beq] at h
 | .bl _, .int _,h => by simp [D.beq] at h
 | .bl _, .str _,h => by simp [D.beq] at h
 | .bl _, .tup _,h => by simp [D.beq] at h
 | .bl _, .kt _,h => by simp [D.beq] at h
 | .bl _, .tl _,h => by simp [D.beq] at h
 | .bl _, .fl _,h => by simp [D.beq] at h
 | .bl _, .ref _,h => by simp [D.beq] at h
 | .bl _, .ty _,h => by simp [D.beq] at h
 | .bl _, .fn _,h => by simp [D.beq] at h
 | .bl _, .cls _,h => by simp [D.beq] at h
 | .int _, .non,h => by simp [D.beq] at h
 | .int _, .bl _,h => by simp [D.beq] at h
 | .int _, .str _,h => by simp [D.beq] at h
 | .int _, .tup _,h => by simp [D.beq] at h
 | .int _, .kt _,h => by simp [D.beq] at h
 | .int _, .tl _,h => by simp [D.beq] at h
 | .int _, .fl _,h => by simp [D.beq] at h
 | .int _, .ref _,h => by simp [D.beq] at h
 | .int _, .ty _,h => by simp [D.beq] at h
 | .int _, .fn _,h => by simp [D.beq] at h
 | .int _, .cls _,h => by simp [D.beq] at h
 | .str _, .non,h => by simp [D.beq] at h
 | .str _, .bl _,h => by simp [D.beq] at h
 | .str _, .int _,h => by simp [D.beq] at h
 | .str _, .tup _,h => by simp [D.beq] at h
 | .str _, .kt _,h => by simp [D.beq] at h
 | .str _, .tl _,h => by simp [D.beq] at h
 | .str _, .fl _,h => by simp [D.beq] at h
 | .str _, .ref _,h => by simp [D.beq] at h
 | .str _, .ty _,h => by simp [D.beq] at h
 | .str _, .fn _,h => by simp [D.beq] at h
 | .str _, .cls _,h => by simp [D.beq] at h
 | .tup _, .non,h => by simp [D.beq] at h
 | .tup _, .bl _,h => by simp [D.beq] at h
 | .tup _, .int _,h => by simp [D.beq] at h
 | .tup _, .str _,h => by simp [D.beq] at h
 | .tup _, .kt _,h => by simp [D.beq] at h
 | .tup _, .tl _,h => by simp [D.beq] at h
 | .tup _, .fl _,h => by simp [D.beq] at h
 | .tup _, .ref _,h => by simp [D.beq] at h
 | .tup _, .ty _,h => by simp [D.beq] at h
 | .tup _, .fn _,h => by simp [D.beq] at h
 | .tup _, .cls _,h => by simp [D.beq] at h
 | .kt _, .non,h => by simp [D.beq] at h
 | .kt _, .bl _,h => by simp [D.beq] at h
 | .kt _, .int _,h => by simp [D.beq] at h
 | .kt _, .str _,h => by simp [D.beq] at h
 | .kt _, .tup _,h => by simp [D.beq] at h
 | .kt _, .tl _,h => by simp [D.beq] at h
 | .kt _, .fl _,h => by simp [D.beq] at h
 | .kt _, .ref _,h => by simp [D.beq] at h
 | .kt _, .ty _,h => by simp [D.beq] at h
 | .kt _, .fn _,h => by simp [D.beq] at h
 | .kt _, .cls _,h => by simp [D.beq] at h
 | .tl _, .non,h => by simp [D.beq] at h
 | .tl _, .bl _,h => by simp [D.beq] at h
 | .tl _, .int _,h => by simp [D.beq] at h
 | .tl _, .str _,h => by simp [D.beq] at h
 | .tl _, .tup _,h => by simp [D.beq] at h
 | .tl _, .kt _,h => by simp [D.beq] at h
 | .tl _, .fl _,h => by simp [D.beq] at h
 | .tl _, .ref _,h => by simp [D.beq] at h
 | .tl _, .ty _,h => by simp [D.beq] at h
 | .tl _, .fn _,h => by simp [D.beq] at h
 | .tl _, .cls _,h => by simp [D.beq] at h
 | .fl _, .non,h => by simp [D.beq] at h
 | .fl _, .bl _,h => by simp [D.beq] at h
 | .fl _, .int _,h => by simp [D.beq] at h
 | .fl _, .str _,h => by simp [D.beq] at h
 | .fl _, .tup _,h => by simp [D.beq] at h
 | .fl _, .kt _,h => by simp [D.beq] at h
 | .fl _, .tl _,h => by simp [D.beq] at h
 | .fl _, .ref _,h => by simp [D.beq] at h
 | .fl _, .ty _,h => by simp [D.beq] at h
 | .fl _, .fn _,h => by simp [D.beq] at h
 | .fl _, .cls _,h => by simp [D.beq] at h
 | .ref _, .non,h => by simp [D.beq] at h
 | .ref _, .bl _,h => by simp [D.beq] at h
 | .ref _, .int _,h => by simp [D.beq] at h
 | .ref _, .str _,h => by simp [D.beq] at h
 | .ref _, .tup _,h => by simp [D.beq] at h
 | .ref _, .kt _,h => by simp [D.beq] at h
 | .ref _, .tl _,h => by simp [D.beq] at h
 | .ref _, .fl _,h => by simp [D.beq] at h
 | .ref _, .ty _,h => by simp [D.beq] at h
 | .ref _, .fn _,h => by simp [D.beq] at h
 | .ref _, .cls _,h => by simp [D.beq] at h
 | .ty _, .non,h => by simp [D.beq] at h
 | .ty _, .bl _,h => by simp [D.beq] at h
 | .ty _, .int _,h => by simp [D.beq] at h
 | .ty _, .str _,h => by simp [D.beq] at h
 | .ty _, .tup _,h => by simp [D.beq] at h
 | .ty _, .kt _,h => by simp [D.beq] at h
 | .ty _, .tl _,h => by simp [D.beq] at h
 | .ty _, .fl _,h => by simp [D.beq] at h
 | .ty _, .ref _,h => by simp [D.beq] at h
 | .ty _, .fn _,h => by simp [D.beq] at h
 | .ty _, .cls _,h => by simp [D.beq] at h
 | .fn _, .non,h => by simp [D.beq] at h
 | .fn _, .bl _,h => by simp [D.beq] at h
 | .fn _, .int _,h => by simp [D.beq] at h
 | .fn _, .str _,h => by simp [D.beq] at h
 | .fn _, .tup _,h => by simp [D.beq] at h
 | .fn _, .kt _,h => by simp [D.beq] at h
 | .fn _, .tl _,h => by simp [D.beq] at h
 | .fn _, .fl _,h => by simp [D.beq] at h
 | .fn _, .ref _,h => by simp [D.beq] at h
 | .fn _, .ty _,h => by simp [D.beq] at h
 | .fn _, .cls _,h => by simp [D.beq] at h
 | .cls _, .non,h => by simp [D.beq] at h
 | .cls _, .bl _,h => by simp [D.beq] at h
 | .cls _, .int _,h => by simp [D.beq] at h
 | .cls _, .str _,h => by simp [D.beq] at h
 | .cls _, .tup _,h => by simp [D.beq] at h
 | .cls _, .kt _,h => by simp [D.beq] at h
 | .cls _, .tl _,h => by simp [D.beq] at h
 | .cls _, .fl _,h => by simp [D.beq] at h
 | .cls _, .ref _,h => by simp [D.beq] at h
 | .cls _, .ty _,h => by simp [D.beq] at h
 | .cls _, .fn _,h => by simp [D.beq] at h
 | .xc a k v, .xc b l w,h => by simp only [D.beq,Bool.and_eq_true,beq_iff_eq,decide_eq_true_eq] at h; rw [h.1.1,h.1.2,D.beqs_eq h.2]
 | .xc _ _ _, .non,h => by simp [D.beq] at h
 | .non, .xc _ _ _,h => by simp [D.beq] at h
 | .xc _ _ _, .bl _,h => by simp [D.beq] at h
 | .bl _, .xc _ _ _,h => by simp [D.beq] at h
 | .xc _ _ _, .int _,h => by simp [D.beq] at h
 | .int _, .xc _ _ _,h => by simp [D.beq] at h
 | .xc _ _ _, .str _,h => by simp [D.beq] at h
 | .str _, .xc _ _ _,h => by simp [D.beq] at h
 | .xc _ _ _, .tup _,h => by simp [D.beq] at h
 | .tup _, .xc _ _ _,h => by simp [D.beq] at h
 | .xc _ _ _, .kt _,h => by simp [D.beq] at h
 | .kt _, .xc _ _ _,h => by simp [D.beq] at h
 | .xc _ _ _, .tl _,h => by simp [D.beq] at h
 | .tl _, .xc _ _ _,h => by simp [D.beq] at h
 | .xc _ _ _, .fl _,h => by simp [D.beq] at h
 | .fl _, .xc _ _ _,h => by simp [D.beq] at h
 | .xc _ _ _, .ref _,h => by simp [D.beq] at h
 | .ref _, .xc _ _ _,h => by simp [D.beq] at h
 | .xc _ _ _, .ty _,h => by simp [D.beq] at h
 | .ty _, .xc _ _ _,h => by simp [D.beq] at h
 | .xc _ _ _, .fn _,h => by simp [D.beq] at h
 | .fn _, .xc _ _ _,h => by simp [D.beq] at h
 | .xc _ _ _, .cls _,h => by simp [D.beq] at h
 | .cls _, .xc _ _ _,h => by simp [D.beq] at h
theorem D.beqs_eq : ∀ {a b : List D},D.beqs a b = true -> a = b
 | [],[],_ => rfl
 | a :: as,b :: bs,h => by
  simp only [D.beqs,Bool.and_eq_true] at h
  rw [D.beq_eq h.1,D.beqs_eq h.2]
 | [],_ :: _,h => by simp [D.beqs] at h
 | _ :: _,[],h => by simp [D.beqs] at h
end
mutual
theorem D.beq_refl : ∀ a : D,D.beq a a = true
 | .non => rfl
 | .bl a => by simp [D.beq]
 | .int a => by simp [D.beq]
 | .str a => by simp [D.beq]
 | .tup a => by simp only [D.beq]; exact D.beqs_refl a
 | .tl a => by simp only [D.beq]; exact D.beqs_refl a
 | .fl a => by simp only [D.beq]; exact D.beqs_refl a
 | .kt a => by simp only [D.beq]; exact D.beqs_refl a
 | .ref a => by simp [D.beq]
 | .ty a => by simp [D.beq]
 | .fn a => by simp [D.beq]
 | .cls a => by simp [D.beq]
 | .xc a k v => by simp only [D.beq,D.beqs_refl v]; simp
theorem D.beqs_refl : ∀ a : List D,D.beqs a a = true
 | [] => rfl
 | a :: as => by simp only [D.beqs,D.beq_refl a,D.beqs_refl as,Bool.and_self]
end
instance : DecidableEq D := fun a b => if h : D.beq a b = true then isTrue (D.beq_eq h) else isFalse fun e => h (e ▸ D.beq_refl a)
inductive Cl where
 | lst (ws : List D) | dK (kvs : List (Key × D)) | dT (kvs : List (List Key × D)) | ins (c : Nat) (fs : List (Str × D))
 deriving Inhabited,DecidableEq
abbrev Hh := List Cl
abbrev Sg := List (Option D)
end PV
end
section
namespace PV
open PySem PySem.Spec PyProof.Rows L2
/-- where the module's defs and classes stand -/
structure Gx where
 K : PySem.W.Frag
 fa : Nat -> Option Addr
 ca : Nat -> Option Addr
 /-- the tables of code objects that may grow,each with the name that it tells -/
 tb : List (Addr × Str)
/-- a list that is never written -/
def SqF (K : PySem.W.Frag) (H : Hp) (a : Addr) (xs : List V) : Prop := (∃ o,H a = some (.frz o (.lst xs))) \/
  ∃ (o : Obj) (its : Array Value) (n : Nat),K.lookup a = some o /\ o.cls = .type "list" /\ o.dict = none /\ o.data = .seq its n /\ its.size <= sizeLine /\ Vals xs its.toList
theorem SqF.sq {K : PySem.W.Frag} {H : Hp} {a : Addr} {xs : List V} (h : SqF K H a xs) : SqL K H a xs := by
 rcases h with h | h
 ·exact .inl (.inr h)
 ·exact .inr h
/-- a list just made,not yet kept by anyone -/
def D.isTl : D -> Bool
 | .tl _ => true
 | _ => false
/-- an exception that was caught,at a: its class,its dict -/
def ExV (cls : Value) (d : Option Addr) (a : Addr) : HO := .ext fun h => ∃ (oe : Obj) (vs : Array Value),h.get? a = some oe /\ Zc cls d oe /\ oe.data = .fields vs
/-- the attributes of an exception -/
def XdV (H : Hp) (ks : List Str) (vs : List V) (d : Option Addr) : Prop := (ks = [] /\ d = none) \/ ∃ dx,d = some dx /\ H dx = some (.xd (ks.zip vs))
mutual
def RV (g : Gx) (μ : List Addr) (H : Hp) : D -> V -> Prop
 | .non,v => v = .non
 | .bl b,v => v = .bl b
 | .int i,v => v = .int i
 | .str x,v => v = .str x
 | .ty n,v => v = .ty n
 | .fn f,v => ∃ a,g.fa f = some a /\ v = .ref a
 | .cls c,v => ∃ a,g.ca c = some a /\ v = .ref a
 | .ref i,v => ∃ a,μ[i]? = some a /\ v = .ref a
 | .xc c ks ws,v => ∃ a C d vs,v = .ref a /\ g.ca c = some C /\ H a = some (ExV (.ref C) d a) /\ ks.length = ws.length /\ XdV H ks vs d /\ RVs g μ H ws vs
 | .tup ws,v => ∃ a vs,v = .ref a /\ H a = some (.tup vs) /\ RVs g μ H ws vs
 | .kt ws,v => ∃ a vs,v = .ref a /\ SqT g.K H a vs /\ RVs g μ H ws vs
 | .fl ws,v => ∃ a vs,v = .ref a /\ SqF g.K H a vs /\ RVs g μ H ws vs
 | .tl ws,v => ∃ a vs,v = .ref a /\ H a = some (.lst vs) /\ a ∉ μ /\ RVs g μ H ws vs
def RVs (g : Gx) (μ : List Addr) (H : Hp) : List D -> List V -> Prop
 | [],vs => vs = []
 | w :: ws,vs => ∃ v r,vs = v :: r /\ w.isTl = false /\ RV g μ H w v /\ RVs g μ H ws r
end
/-- pairs by key -/
def RKs {κ : Type} (g : Gx) (μ : List Addr) (H : Hp) : List (κ × D) -> List (κ × V) -> Prop
 | [],vs => vs = []
 | w :: ws,vs => ∃ v r,vs = (w.1,v) :: r /\ w.2.isTl = false /\ RV g μ H w.2 v /\ RKs g μ H ws r
def RC (g : Gx) (μ : List Addr) (H : Hp) (a : Addr) : Cl -> Prop
 | .lst ws => ∃ vs,H a = some (.lst vs) /\ RVs g μ H ws vs
 | .dK kvs => ∃ vs,H a = some (.dK vs) /\ RKs g μ H kvs vs
 | .dT kvs => ∃ vs,H a = some (.dT vs) /\ RKs g μ H kvs vs
 | .ins c fs => ∃ C dx vs,g.ca c = some C /\ H a = some (.ins C dx vs) /\ RKs g μ H fs vs
structure RH (g : Gx) (μ : List Addr) (h : Hh) (H : Hp) : Prop where
 len : μ.length = h.length
 nd : μ.Nodup
 cell : ∀ (i : Nat) (c : Cl),h[i]? = some c -> ∃ a,μ[i]? = some a /\ RC g μ H a c
 tabs : LamX.Tabs g.tb H
def eL : HO -> Bool
 | .lst _ => true
 | .dK _ => true
 | .dT _ => true
 | .ins _ _ _ => true
 | _ => false
def rF : HO -> Bool
 | .tbl _ => true
 | _ => false
theorem tT {o : HO} (h : eL o = true) : rF o = false := by cases o <;> first | rfl | cases h
theorem aA6 {o : HO} (h : rF o = true) : ∃ ps,o = .tbl ps := by cases o <;> first | exact ⟨_,rfl⟩ | cases h
/-- what is tracked is of the kinds that may be written -/
def Trk (μ : List Addr) (H : Hp) : Prop := ∀ a ∈ μ,∃ o,H a = some o /\ eL o = true
structure Ext (μ : List Addr) (H : Hp) (μ' : List Addr) (H' : Hp) : Prop where
 pre : ∃ e,μ' = μ ++ e /\ ∀ x ∈ e,H x = none
 fr' : ∀ b o,H b = some o -> b ∉ μ -> rF o = false -> H' b = some o
 lv : ∀ x ∈ μ,H' x ≠ none
 tb : ∀ b ps,H b = some (.tbl ps) -> ∃ ps',H' b = some (.tbl ps')
theorem Ext.fr {μ μ' : List Addr} {H H' : Hp} (x : Ext μ H μ' H') (b : Addr) (o : HO) (q : H b = some o) (n : b ∉ μ) (t : rF o = false := by rfl) : H' b = some o := x.fr' b o q n t
/-- nothing goes away -/
theorem Ext.kp {μ μ' : List Addr} {H H' : Hp} (x : Ext μ H μ' H') {b : Addr} {o : HO} (q : H b = some o) : H' b ≠ none := by
 by_cases hm : b ∈ μ
 ·exact x.lv b hm
 ·by_cases ht : rF o = true
  ·obtain ⟨ps,rfl⟩ := aA6 ht
   obtain ⟨ps',e⟩ := x.tb b ps q
   rw [e]; simp
  ·rw [x.fr' b o q hm (by simpa using ht)]; simp
section
variable {g : Gx} {μ μ' μ1 μ2 : List Addr} {h h' : Hh} {H H' H1 H2 : Hp}
theorem RC.mut {a : Addr} {c : Cl} (r : RC g μ H a c) : ∃ o,H a = some o /\ eL o = true := by
 cases c with
 | lst ws => obtain ⟨vs,e,_⟩ := r; exact ⟨_,e,rfl⟩
 | dK ws => obtain ⟨vs,e,_⟩ := r; exact ⟨_,e,rfl⟩
 | dT ws => obtain ⟨vs,e,_⟩ := r; exact ⟨_,e,rfl⟩
 | ins c fs => obtain ⟨C,dx,vs,_,e,_⟩ := r; exact ⟨_,e,rfl⟩
theorem RH.trk (r : RH g μ h H) : Trk μ H := fun a ha => by
 obtain ⟨i,hi,e⟩ := List.getElem_of_mem ha
 have hl : i < h.length := by rw [<- r.len]; exact hi
 obtain ⟨b,eb,rc⟩ := r.cell i h[i] (List.getElem?_eq_getElem hl)
 rw [List.getElem?_eq_getElem hi,e] at eb
 cases eb
 exact rc.mut
theorem Ext.refl (t : Trk μ H) : Ext μ H μ H := ⟨⟨[],by simp,by simp⟩,fun _ _ h _ _ => h,fun x hx => by obtain ⟨o,e,_⟩ := t x hx; rw [e]; simp,fun b ps e => ⟨ps,e⟩⟩
theorem Ext.trans (a : Ext μ H μ1 H1) (b : Ext μ1 H1 μ2 H2) : Ext μ H μ2 H2 := by
 have kp := fun {b : Addr} {o : HO} (q : H b = some o) => a.kp q
 obtain ⟨⟨e1,rfl,f1⟩,r1,l1,t1⟩ := a
 obtain ⟨⟨e2,rfl,f2⟩,r2,l2,t2⟩ := b
 refine ⟨⟨e1 ++ e2,by simp,fun x hx => ?_⟩,fun b o q n nt => r2 b o (r1 b o q n nt) ?_ nt,fun x hx => l2 x (List.mem_append_left _ hx),fun b ps e => let ⟨ps1,e1⟩ := t1 b ps e; t2 b ps1 e1⟩
 ·rcases List.mem_append.mp hx with hx | hx
  ·exact f1 x hx
  ·cases q : H x with
   | none => rfl
   | some o => exact absurd (f2 x hx) (kp q)
 ·intro hm
  rcases List.mem_append.mp hm with hm | hm
  ·exact n hm
  ·rw [f1 b hm] at q; cases q
theorem Ext.get (x : Ext μ H μ' H') {i : Nat} {a : Addr} (e : μ[i]? = some a) : μ'[i]? = some a := by
 obtain ⟨⟨e1,rfl,_⟩,_,_,_⟩ := x
 rw [List.getElem?_append_left (by
  rcases Nat.lt_or_ge i μ.length with z | z
  ·exact z
  ·rw [List.getElem?_eq_none z] at e; cases e)]
 exact e
theorem Ext.notin (x : Ext μ H μ' H') {a : Addr} {o : HO} (q : H a = some o) (n : a ∉ μ) : a ∉ μ' := by
 obtain ⟨⟨e1,rfl,f1⟩,_,_,_⟩ := x
 intro hm
 rcases List.mem_append.mp hm with hm | hm
 ·exact n hm
 ·rw [f1 a hm] at q; cases q
theorem aFZ {a : Addr} {vs : List V} (t : Trk μ H) (x : Ext μ H μ' H') (q : SqT g.K H a vs) : SqT g.K H' a vs := by
 rcases q with (q | ⟨o,q⟩) | q
 ·refine .inl (.inl (x.fr _ _ q fun hm => ?_))
  obtain ⟨o,e,k⟩ := t a hm
  rw [q] at e; cases e; cases k
 ·refine .inl (.inr ⟨o,x.fr _ _ q fun hm => ?_⟩)
  obtain ⟨o',e,k⟩ := t a hm
  rw [q] at e; cases e; cases k
 ·exact .inr q
theorem aFX {a : Addr} {vs : List V} (t : Trk μ H) (x : Ext μ H μ' H') (q : SqF g.K H a vs) : SqF g.K H' a vs := by
 rcases q with ⟨o,q⟩ | q
 ·refine .inl ⟨o,x.fr _ _ q fun hm => ?_⟩
  obtain ⟨o',e,k⟩ := t a hm
  rw [q] at e; cases e; cases k
 ·exact .inr q
end
mutual
theorem RV.ext {g : Gx} {μ μ' : List Addr} {H H' : Hp} (t : Trk μ H) (x : Ext μ H μ' H') : ∀ {w : D} {v : V},RV g μ H w v -> RV g μ' H' w v
 | .non,_,r => r
 | .bl _,_,r => r
 | .int _,_,r => r
 | .str _,_,r => r
 | .ty _,_,r => r
 | .fn _,_,r => r
 | .cls _,_,r => r
 | .ref i,_,r => by
  obtain ⟨a,e,q⟩ := r
  exact ⟨a,x.get e,q⟩
 | .xc c ks ws,_,r => by
  obtain ⟨a,C,d,vs,e,hC,q,hl,hd,z⟩ := r
  refine ⟨a,C,d,vs,e,hC,x.fr _ _ q fun hm => ?_,hl, ?_,RVs.ext t x z⟩
  ·obtain ⟨o,eo,k⟩ := t a hm
   rw [q] at eo; cases eo; cases k
  ·rcases hd with hd | ⟨dx,e1,e2⟩
   ·exact .inl hd
   ·refine .inr ⟨dx,e1,x.fr _ _ e2 fun hm => ?_⟩
    obtain ⟨o,eo,k⟩ := t dx hm
    rw [e2] at eo; cases eo; cases k
 | .tup ws,_,r => by
  obtain ⟨a,vs,e,q,z⟩ := r
  refine ⟨a,vs,e,x.fr _ _ q fun hm => ?_,RVs.ext t x z⟩
  obtain ⟨o,eo,k⟩ := t a hm
  rw [q] at eo; cases eo; cases k
 | .kt ws,_,r => by
  obtain ⟨a,vs,e,q,z⟩ := r
  exact ⟨a,vs,e,aFZ t x q,RVs.ext t x z⟩
 | .fl ws,_,r => by
  obtain ⟨a,vs,e,q,z⟩ := r
  exact ⟨a,vs,e,aFX t x q,RVs.ext t x z⟩
 | .tl ws,_,r => by
  obtain ⟨a,vs,e,q,n,z⟩ := r
  exact ⟨a,vs,e,x.fr _ _ q n,x.notin q n,RVs.ext t x z⟩
theorem RVs.ext {g : Gx} {μ μ' : List Addr} {H H' : Hp} (t : Trk μ H) (x : Ext μ H μ' H') : ∀ {ws : List D} {vs : List V},RVs g μ H ws vs -> RVs g μ' H' ws vs
 | [],_,r => r
 | w :: ws,_,r => by
  obtain ⟨v,rr,e,nt,q,z⟩ := r
  exact ⟨v,rr,e,nt,RV.ext t x q,RVs.ext t x z⟩
end
theorem vY {l e : List Addr} {i : Nat} {a : Addr} (h : l[i]? = some a) : (l ++ e)[i]? = some a := by
 rw [List.getElem?_append_left (by
  rcases Nat.lt_or_ge i l.length with z | z
  ·exact z
  ·rw [List.getElem?_eq_none z] at h; cases h)]
 exact h
mutual
theorem RV.pre {g : Gx} {μ e : List Addr} {H : Hp} : ∀ {w : D} {v : V},w.isTl = false -> RV g μ H w v -> RV g (μ ++ e) H w v
 | .non,_,_,r => r
 | .bl _,_,_,r => r
 | .int _,_,_,r => r
 | .str _,_,_,r => r
 | .ty _,_,_,r => r
 | .fn _,_,_,r => r
 | .cls _,_,_,r => r
 | .ref i,_,_,r => by
  obtain ⟨a,e,q⟩ := r
  exact ⟨a,vY e,q⟩
 | .xc c ks ws,_,_,r => by
  obtain ⟨a,C,d,vs,e,hC,q,hl,hd,z⟩ := r
  exact ⟨a,C,d,vs,e,hC,q,hl,hd,RVs.pre z⟩
 | .tup ws,_,_,r => by
  obtain ⟨a,vs,e,q,z⟩ := r
  exact ⟨a,vs,e,q,RVs.pre z⟩
 | .fl ws,_,_,r => by
  obtain ⟨a,vs,e,q,z⟩ := r
  exact ⟨a,vs,e,q,RVs.pre z⟩
 | .kt ws,_,_,r => by
  obtain ⟨a,vs,e,q,z⟩ := r
  exact ⟨a,vs,e,q,RVs.pre z⟩
 | .tl ws,_,n,_ => by cases n
theorem RVs.pre {g : Gx} {μ e : List Addr} {H : Hp} : ∀ {ws : List D} {vs : List V},RVs g μ H ws vs -> RVs g (μ ++ e) H ws vs
 | [],_,r => r
 | w :: ws,_,r => by
  obtain ⟨v,rr,e,nt,q,z⟩ := r
  exact ⟨v,rr,e,nt,RV.pre nt q,RVs.pre z⟩
end
theorem RKs.pre {κ : Type} {g : Gx} {μ e : List Addr} {H : Hp} : ∀ {ws : List (κ × D)} {vs : List (κ × V)},RKs g μ H ws vs -> RKs g (μ ++ e) H ws vs
 | [],_,r => r
 | w :: ws,_,r => by
  obtain ⟨v,rr,e,nt,q,z⟩ := r
  exact ⟨v,rr,e,nt,q.pre nt,RKs.pre z⟩
theorem RC.pre {g : Gx} {μ e : List Addr} {H : Hp} {a : Addr} {c : Cl} (r : RC g μ H a c) : RC g (μ ++ e) H a c := by
 cases c with
 | lst ws => obtain ⟨vs,q,z⟩ := r; exact ⟨vs,q,z.pre⟩
 | dK ws => obtain ⟨vs,q,z⟩ := r; exact ⟨vs,q,z.pre⟩
 | dT ws => obtain ⟨vs,q,z⟩ := r; exact ⟨vs,q,z.pre⟩
 | ins c fs => obtain ⟨C,dx,vs,k,q,z⟩ := r; exact ⟨C,dx,vs,k,q,z.pre⟩
section
variable {g : Gx} {μ μ' : List Addr} {h : Hh} {H H' : Hp} {p a : Addr} {o : HO} {ws : List D} {vs : List V} {w : D} {v : V}
theorem RKs.ext {κ : Type} (t : Trk μ H) (x : Ext μ H μ' H') : ∀ {ws : List (κ × D)} {vs : List (κ × V)},RKs g μ H ws vs -> RKs g μ' H' ws vs
 | [],_,r => r
 | w :: ws,_,r => by
  obtain ⟨v,rr,e,nt,q,z⟩ := r
  exact ⟨v,rr,e,nt,q.ext t x,RKs.ext t x z⟩
theorem RC.ext {c : Cl} (t : Trk μ H) (x : Ext μ H μ' H') (e : H' a = H a) (r : RC g μ H a c) : RC g μ' H' a c := by
 cases c with
 | lst ws => obtain ⟨vs,q,z⟩ := r; exact ⟨vs,e.trans q,z.ext t x⟩
 | dK ws => obtain ⟨vs,q,z⟩ := r; exact ⟨vs,e.trans q,z.ext t x⟩
 | dT ws => obtain ⟨vs,q,z⟩ := r; exact ⟨vs,e.trans q,z.ext t x⟩
 | ins c fs => obtain ⟨C,dx,vs,k,q,z⟩ := r; exact ⟨C,dx,vs,k,e.trans q,z.ext t x⟩
theorem Trk.ne (t : Trk μ H) (n : H p = none) (ha : a ∈ μ) : a ≠ p := fun e => by
 obtain ⟨o,q,_⟩ := t a ha
 rw [e,n] at q; cases q
/-- something new that is not tracked -/
theorem Ext.new (t : Trk μ H) (n : H p = none) : Ext μ H μ (upd H p o) :=
 ⟨⟨[],by simp,by simp⟩,fun b u q _ _ => by rw [upd_ne (ne_of_none q n)]; exact q,fun x hx => by
  rw [upd_ne (t.ne n hx)]
  obtain ⟨o,q,_⟩ := t x hx
  rw [q]; simp,fun b ps q => ⟨ps,by rw [upd_ne (ne_of_none q n)]; exact q⟩⟩
theorem gH {α : Type} {l : List α} {i : Nat} {a : α} (e : l[i]? = some a) : a ∈ l := List.mem_of_getElem? e
theorem RH.new (r : RH g μ h H) (n : H p = none) : RH g μ h (upd H p o) :=
 ⟨r.len,r.nd,fun i c e => by
  obtain ⟨a,ea,rc⟩ := r.cell i c e
  exact ⟨a,ea,rc.ext r.trk (.new r.trk n) (upd_ne (r.trk.ne n (gH ea)))⟩,r.tabs.ext fun b u q => by rw [upd_ne (ne_of_none q n)]; exact q⟩
theorem RV.newT (r : RH g μ h H) (n : H p = none) (q : RVs g μ H ws vs) : RV g μ (upd H p (.tup vs)) (.tup ws) (.ref p) :=
 ⟨p,vs,rfl,upd_same,q.ext r.trk (.new r.trk n)⟩
theorem RV.newL (r : RH g μ h H) (n : H p = none) (q : RVs g μ H ws vs) : RV g μ (upd H p (.lst vs)) (.tl ws) (.ref p) :=
 ⟨p,vs,rfl,upd_same,fun hm => r.trk.ne n hm rfl,q.ext r.trk (.new r.trk n)⟩
/-- a cell is written -/
theorem Ext.wr {i : Nat} (t : Trk μ H) (e : μ[i]? = some a) (m : eL o = true) : Ext μ H μ (upd H a o) :=
 ⟨⟨[],by simp,by simp⟩,fun b u q nb _ => by
  rw [upd_ne (fun z => nb (by rw [z]; exact gH e))]; exact q,fun x hx => by
  by_cases hx' : x = a
  ·subst hx'; rw [upd_same]; simp
  ·rw [upd_ne hx']
   obtain ⟨o,q,_⟩ := t x hx
   rw [q]; simp,fun b ps q => ⟨ps,by
   obtain ⟨o',q',m'⟩ := t a (gH e)
   rw [upd_ne (fun z => by rw [z,q'] at q; cases q; cases m')]; exact q⟩⟩
/-- tables stay as a tracked cell is written -/
theorem aBr {T : List (Addr × Str)} {H : Hp} {a : Addr} {o' : HO} (m : ∃ u,H a = some u /\ eL u = true) (t : LamX.Tabs T H) : LamX.Tabs T (upd H a o') := fun p hp => by
 obtain ⟨u,q,k⟩ := m
 obtain ⟨ps,h1,h2,h3⟩ := t p hp
 refine ⟨ps,by rw [upd_ne (fun z => by rw [z,q] at h1; cases h1; cases k)]; exact h1,h2,fun pos cv hc => ?_⟩
 obtain ⟨c,e1,e2⟩ := h3 pos cv hc
 exact ⟨c,e1,by rw [upd_ne (fun z => by rw [z,q] at e2; cases e2; cases k)]; exact e2⟩
theorem aFh {l : List Addr} (nd : l.Nodup) {i j : Nat} {a : Addr} (hi : l[i]? = some a) (hj : l[j]? = some a) : i = j := by
 have h1 : i < l.length := by
  rcases Nat.lt_or_ge i l.length with z | z
  ·exact z
  ·rw [List.getElem?_eq_none z] at hi; cases hi
 exact (List.getElem?_inj h1 nd).mp (hi.trans hj.symm)
theorem RH.wr {i : Nat} {c : Cl} (r : RH g μ h H) (e : μ[i]? = some a) (m : eL o = true) (k : RC g μ (upd H a o) a c) : RH g μ (h.set i c) (upd H a o) := by
 refine ⟨by rw [List.length_set]; exact r.len,r.nd,fun j d ej => ?_,aBr (r.trk a (gH e)) r.tabs⟩
 by_cases hj : i = j
 ·subst hj
  by_cases hl : i < h.length
  ·rw [List.getElem?_set_self hl] at ej
   cases ej
   exact ⟨a,e,k⟩
  ·rw [List.getElem?_eq_none (by simpa using hl)] at ej; cases ej
 ·rw [List.getElem?_set_ne hj] at ej
  obtain ⟨b,eb,rc⟩ := r.cell j d ej
  refine ⟨b,eb,rc.ext r.trk (.wr r.trk e m) (upd_ne fun z => hj ?_)⟩
  subst z
  exact aFh r.nd e eb
/-- one more cell -/
theorem RH.track {c : Cl} (r : RH g μ h H) (na : a ∉ μ) (k : RC g μ H a c) : RH g (μ ++ [a]) (h ++ [c]) H := by
 refine ⟨by simp [r.len], ?_,fun i d ei => ?_,r.tabs⟩
 ·rw [List.nodup_append]
  exact ⟨r.nd,by simp,fun x hx y hy z => by
   have : y = a := by simpa using hy
   subst this; subst z; exact na hx⟩
 ·rcases Nat.lt_or_ge i h.length with hl | hl
  ·rw [List.getElem?_append_left hl] at ei
   obtain ⟨b,eb,rc⟩ := r.cell i d ei
   exact ⟨b,vY eb,rc.pre⟩
  ·rw [List.getElem?_append_right hl] at ei
   have hi : i = h.length := by
    rcases Nat.lt_or_ge (i - h.length) 1 with z | z
    ·omega
    ·rw [List.getElem?_eq_none (by simpa using z)] at ei; cases ei
   subst hi
   simp at ei
   subst ei
   exact ⟨a,by rw [<- r.len]; simp,k.pre⟩
/-- a value whose list is young -/
def Fr (H : Hp) (w : D) (v : V) : Prop := match w with
 | .tl _ => ∀ a,v = .ref a -> H a = none
 | _ => True
theorem Fr.of (e : w.isTl = false) : Fr H w v := by
 cases w <;> first | exact True.intro | cases e
theorem Fr.back (x : Ext μ H μ' H') (f : Fr H' w v) : Fr H w v := by
 cases w <;> first | exact True.intro | skip
 rename_i ws
 intro a e
 have z := f a e
 cases q : H a with
 | none => rfl
 | some o =>
  exact absurd z (x.kp q)
/-- from now on it is kept -/
def aQ (w : D) (h : Hh) : D × Hh := match w with
 | .tl ws => (.ref h.length,h ++ [.lst ws])
 | w => (w,h)
theorem qR (e : w.isTl = false) : aQ w h = (w,h) := by
 cases w <;> first | rfl | cases e
theorem fE : (aQ w h).1.isTl = false := by cases w <;> rfl
theorem jI {μ0 : List Addr} {H0 : Hp} (r : RH g μ h H) (q : RV g μ H w v) (f : Fr H0 w v) (x : Ext μ0 H0 μ H) : ∃ μ',Ext μ0 H0 μ' H /\ RH g μ' (aQ w h).2 H /\ RV g μ' H (aQ w h).1 v /\ ∃ e,μ' = μ ++ e := by
 by_cases e : w.isTl = false
 ·rw [qR e]; exact ⟨μ,x,r,q,[],by simp⟩
 ·cases w <;> first | exact absurd rfl e | skip
  rename_i ws
  obtain ⟨a,vs,rfl,ha,na,z⟩ := q
  have f' : H0 a = none := f a rfl
  -- an extension that keeps the heap as it is
  have x0 : Ext μ0 H0 (μ ++ [a]) H := by
   obtain ⟨⟨e0,rfl,fe⟩,fr,lv,tb⟩ := x
   refine ⟨⟨e0 ++ [a],by simp,fun y hy => ?_⟩,fr,lv,tb⟩
   rcases List.mem_append.mp hy with hy | hy
   ·exact fe y hy
   ·have : y = a := by simpa using hy
    subst this; exact f'
  refine ⟨μ ++ [a],x0,RH.track r na ⟨vs,ha,z⟩,⟨a, ?_,rfl⟩,[a],rfl⟩
  show (μ ++ [a])[h.length]? = some a
  rw [<- r.len]
  simp
end
end PV
end
section
namespace PV
open PySem PySem.Spec PyProof.Rows L2
inductive R (α : Type) where
 | ok (a : α) (h : Hh)
 | exc (c : Nat) (fs : List (Str × D)) (h : Hh)
 | bad
 deriving Inhabited
def R.bind {α β : Type} (r : R α) (f : α -> Hh -> R β) : R β := match r with
 | .ok a h => f a h
 | .exc c fs h => .exc c fs h
 | .bad => .bad
@[simp] theorem R.bind_ok {α β : Type} (a : α) (h : Hh) (f : α -> Hh -> R β) : (R.ok a h).bind f = f a h := id rfl
@[simp] theorem R.bind_exc {α β : Type} (c : Nat) (fs : List (Str × D)) (h : Hh) (f : α -> Hh -> R β) : (R.exc c fs h : R α).bind f = .exc c fs h := id rfl
@[simp] theorem R.bind_bad {α β : Type} (f : α -> Hh -> R β) : (R.bad : R α).bind f = .bad := id rfl
abbrev M (α : Type) := Sg -> Hh -> R α
/-- an exception of the own class c,its attributes fs -/
def XV (g : Gx) (μ : List Addr) (H : Hp) (c : Nat) (fs : List (Str × D)) (cv : Value) (d : Option Addr) : Prop :=
 ∃ C vs,g.ca c = some C /\ cv = .ref C /\ ((fs = [] /\ d = none) \/ ∃ dx,d = some dx /\ H dx = some (.xd vs)) /\ RKs g μ H fs vs
/-- what is wanted of a result -/
def Po {α : Type} (g : Gx) (Wx : WX) (σ : L2.St) (μ : List Addr) (H : Hp) (r : R α) (Q : α -> Hh -> List Addr -> Hp -> Prop) : Prop := match r with
 | .ok a h' => ∀ μ' H',Ext μ H μ' H' -> RH g μ' h' H' -> Q a h' μ' H'
 | .exc c fs h' => ∀ μ' H' cv d,Ext μ H μ' H' -> RH g μ' h' H' -> XV g μ' H' c fs cv d -> Wx cv d σ H'
 | .bad => False
section
variable {α β : Type} {g : Gx} {Wx : WX} {σ : L2.St} {μ μ' : List Addr} {H H' : Hp} {r : R α} {f : α -> Hh -> R β}
theorem Po.ext {Q : α -> Hh -> List Addr -> Hp -> Prop} (p : Po g Wx σ μ H r Q) (x : Ext μ H μ' H') : Po g Wx σ μ' H' r Q := by
 cases r with
 | ok a h' => exact fun μ2 H2 x2 r2 => p μ2 H2 (x.trans x2) r2
 | exc c fs h' => exact fun μ2 H2 cv d x2 r2 v2 => p μ2 H2 cv d (x.trans x2) r2 v2
 | bad => exact p
theorem Po.bind {Q : β -> Hh -> List Addr -> Hp -> Prop} (p : Po g Wx σ μ H (r.bind f) Q) : Po g Wx σ μ H r fun a h1 μ1 H1 => Po g Wx σ μ1 H1 (f a h1) Q := by
 cases r with
 | ok a h' => exact fun μ2 H2 x2 r2 => Po.ext (r := f a h') p x2
 | exc c fs h' => exact p
 | bad => exact p
theorem Po.bind2 {Q : β -> Hh -> List Addr -> Hp -> Prop} (p : Po g Wx σ μ H (r.bind f) Q) : Po g Wx σ μ H r fun a h1 μ1 H1 => ∀ μ2 H2,Ext μ H μ2 H2 -> Po g Wx σ μ2 H2 (f a h1) Q := by
 cases r with
 | ok a h' => exact fun _ _ _ _ μ2 H2 x2 => Po.ext (r := f a h') p x2
 | exc c fs h' => exact p
 | bad => exact p
theorem Po.imp {Q Q' : α -> Hh -> List Addr -> Hp -> Prop} (p : Po g Wx σ μ H r Q) (i : ∀ a h1 μ1 H1,Ext μ H μ1 H1 -> RH g μ1 h1 H1 -> Q a h1 μ1 H1 -> Q' a h1 μ1 H1) : Po g Wx σ μ H r Q' := by
 cases r with
 | ok a h' => exact fun μ2 H2 x2 r2 => i _ _ _ _ x2 r2 (p μ2 H2 x2 r2)
 | exc c fs h' => exact p
 | bad => exact p
theorem Po.at {a : α} {h : Hh} {Q : α -> Hh -> List Addr -> Hp -> Prop} (p : Po g Wx σ μ H (.ok a h) Q) (rh : RH g μ h H) : Q a h μ H := p μ H (Ext.refl rh.trk) rh
end
/-- the slots -/
def RS (g : Gx) (μ : List Addr) (H : Hp) (σw : Sg) (σ : L2.St) : Prop := σw.length = σ.length /\ ∀ (i : Nat) (w : D),σw[i]? = some (some w) -> ∃ v,σ[i]? = some (some v) /\ w.isTl = false /\ RV g μ H w v
theorem RS.ext {g : Gx} {μ μ' : List Addr} {H H' : Hp} {σw : Sg} {σ : L2.St} (t : Trk μ H) (x : Ext μ H μ' H') (r : RS g μ H σw σ) : RS g μ' H' σw σ :=
 ⟨r.1,fun i w e => let ⟨v,q,nt,z⟩ := r.2 i w e; ⟨v,q,nt,z.ext t x⟩⟩
theorem RS.pre {g : Gx} {μ e : List Addr} {H : Hp} {σw : Sg} {σ : L2.St} (r : RS g μ H σw σ) : RS g (μ ++ e) H σw σ :=
 ⟨r.1,fun i w e => let ⟨v,q,nt,z⟩ := r.2 i w e; ⟨v,q,nt,z.pre nt⟩⟩
theorem RS.set {g : Gx} {μ : List Addr} {H : Hp} {σw : Sg} {σ : L2.St} (r : RS g μ H σw σ) {w : D} {v : V} (nt : w.isTl = false) (q : RV g μ H w v) (i : Nat) : RS g μ H (σw.set i (some w)) (σ.set i (some v)) := by
 refine ⟨by simp [r.1],fun j w' e => ?_⟩
 by_cases hj : i = j
 ·subst hj
  by_cases hl : i < σw.length
  ·rw [List.getElem?_set_self hl] at e
   cases e
   exact ⟨v,List.getElem?_set_self (by rw [<- r.1]; exact hl),nt,q⟩
  ·rw [List.getElem?_eq_none (by simpa using hl)] at e; cases e
 ·rw [List.getElem?_set_ne hj] at e ⊢
  exact r.2 j w' e
/-- the weakest readings -/
def tOf (X : Cx) (e : Expr) : TE := fun σ H Q => ∀ pins s,Inv X pins σ H s -> wpAny (model X.prog X.w) X.A (eval e X.env) (EP X pins σ Q) X.xe s
theorem aX {X : Cx} {e : Expr} : PE X e (tOf X e) := ⟨fun pins s σ H Q I h => h pins s I⟩
theorem eM {X : Cx} {e : Expr} {t : TE} (p : PE X e t) {σ : L2.St} {H : Hp} {Q : VK} (h : t σ H Q) : tOf X e σ H Q := fun pins s I => p.run pins s σ H Q I h
def aCe (X : Cx) (e : Expr) : TT := fun σ H Q => ∀ pins s,Inv X pins σ H s -> wpAny (model X.prog X.w) X.A (isTrue e X.env (eval e X.env)) (TP X pins σ Q) X.xe s
theorem qH {X : Cx} {e : Expr} : PT X e (aCe X e) := ⟨fun pins s σ H Q I h => h pins s I⟩
theorem aBW {X : Cx} {e : Expr} {t : TT} (p : PT X e t) {σ : L2.St} {H : Hp} {Q : Bool -> Hp -> Prop} (h : t σ H Q) : aCe X e σ H Q := fun pins s I => p.run pins s σ H Q I h
/-- a test whatever its whole is -/
def aEq (X : Cx) (e : Expr) : TT := fun σ H Q => ∀ whole pins s,Inv X pins σ H s -> wpAny (model X.prog X.w) X.A (isTrue e X.env whole) (TP X pins σ Q) X.xe s
theorem aEQ {X : Cx} {e : Expr} : PW X e (aEq X e) := ⟨fun whole pins s σ H Q I h => h whole pins s I⟩
theorem aBX {X : Cx} {e : Expr} {t : TT} (p : PW X e t) {σ : L2.St} {H : Hp} {Q : Bool -> Hp -> Prop} (h : t σ H Q) : aEq X e σ H Q := fun whole pins s I => p.run whole pins s σ H Q I h
def aCa (X : Cx) (es : List Expr) : TA := fun σ H Q => ∀ pos pins s,Inv X pins σ H s -> wpAny (model X.prog X.w) X.A (spliced (backTo pos (starEach es X.env))) (AP X pins σ Q) X.xe s
theorem yH {X : Cx} {es : List Expr} : PA X es (aCa X es) := ⟨fun pos pins s σ H Q I h => h pos pins s I⟩
theorem aGP {X : Cx} {es : List Expr} {t : TA} (p : PA X es t) {σ : L2.St} {H : Hp} {Q : List V -> Hp -> Prop} (h : t σ H Q) : aCa X es σ H Q := fun pos pins s I => p.run pos pins s σ H Q I h
def rOf (X : Cx) (f : Value -> Value -> Sem Value) : R2 := fun x y H Q => ∀ pins s σ v u,Inv X pins σ H s -> RelV x v -> RelV y u -> wpAny (model X.prog X.w) X.A (f v u) (EP X pins σ Q) X.xe s
theorem qF {X : Cx} {f : Value -> Value -> Sem Value} : OpR X f (rOf X f) := fun pins s σ H x y v u Q I rx ry h => h pins s σ v u I rx ry
theorem cA {X : Cx} {f : Value -> Value -> Sem Value} {r : R2} (p : OpR X f r) {x y : V} {H : Hp} {Q : VK} (h : r x y H Q) : rOf X f x y H Q := fun pins s σ v u I rx ry => p pins s σ H x y v u Q I rx ry h
section
variable (g : Gx) (X : Cx) (Wx : WX)
/-- an expression does what m does -/
def SE (e : Expr) (m : M D) : Prop := ∀ (σw : Sg) (h : Hh) (σ : L2.St) (H : Hp) (μ : List Addr) (Q : VK),RS g μ H σw σ -> RH g μ h H ->
 Po g Wx σ μ H (m σw h) (fun w h' μ' H' => ∀ v,RV g μ' H' w v -> Fr H w v -> Q v H') -> tOf X e σ H Q
def ST (e : Expr) (m : M Bool) : Prop := ∀ (σw : Sg) (h : Hh) (σ : L2.St) (H : Hp) (μ : List Addr) (Q : Bool -> Hp -> Prop),RS g μ H σw σ -> RH g μ h H ->
 Po g Wx σ μ H (m σw h) (fun b h' μ' H' => Q b H') -> aCe X e σ H Q
def SW (e : Expr) (m : M Bool) : Prop := ∀ (σw : Sg) (h : Hh) (σ : L2.St) (H : Hp) (μ : List Addr) (Q : Bool -> Hp -> Prop),RS g μ H σw σ -> RH g μ h H ->
 Po g Wx σ μ H (m σw h) (fun b h' μ' H' => Q b H') -> aEq X e σ H Q
def SA (es : List Expr) (m : M (List D)) : Prop := ∀ (σw : Sg) (h : Hh) (σ : L2.St) (H : Hp) (μ : List Addr) (Q : List V -> Hp -> Prop),RS g μ H σw σ -> RH g μ h H ->
 Po g Wx σ μ H (m σw h) (fun ws h' μ' H' => ∀ vs,RVs g μ' H' ws vs -> Q vs H') -> aCa X es σ H Q
end
theorem SW.st {g : Gx} {X : Cx} {Wx : WX} {e : Expr} {m : M Bool} (s : SW g X Wx e m) : ST g X Wx e m := fun σw h σ H μ Q rs rh p pins t I => s σw h σ H μ Q rs rh p _ pins t I
section
variable {g : Gx} {X : Cx} {Wx : WX}
def mC (w : D) : M D := fun _ h => .ok w h
def mV (i : Nat) : M D := fun σ h => match σ[i]? with
 | some (some w) => .ok w h
 | _ => .bad
theorem wR {e : Expr} {v : V} {w : D} (p : PE X e (tC v)) (nt : w.isTl = false) (r : ∀ μ H,RV g μ H w v) : SE g X Wx e (mC w) := fun σw h σ H μ Q rs rh po =>
 eM p (show Q v H from po.at rh v (r μ H) (.of nt))
theorem aHp {i j pos} : SE g X Wx (.Constant (.int i) j pos) (mC (.int i)) := wR pe_int rfl fun _ _ => rfl
theorem aIW {i j pos} : SE g X Wx (.Constant (.bool i) j pos) (mC (.bl i)) := wR pe_bl rfl fun _ _ => rfl
theorem aHr {j pos} : SE g X Wx (.Constant .none j pos) (mC .non) := wR pe_non rfl fun _ _ => rfl
theorem aHt {x j pos} : SE g X Wx (.Constant (.str x) j pos) (mC (.str x)) := wR pe_str rfl fun _ _ => rfl
theorem aC4 {i : Nat} {x : Str} {pos : Pos} (hN : X.N[i]? = some x) (hv : Vis X.env.scope x) (hd : (x == ("__debug__" : Str)) = false) (hcd : (x == ("__classdict__" : Str)) = false) : SE g X Wx (.Name x pos) (mV i) := by
 intro σw h σ H μ Q rs rh po
 unfold mV at po
 cases e : σw[i]? with
 | none => rw [e] at po; exact po.elim
 | some o =>
  cases o with
  | none => rw [e] at po; exact po.elim
  | some w =>
   rw [e] at po
   obtain ⟨v,q,nt,r⟩ := rs.2 i w e
   exact eM (pe_var hN hv hd hcd) ⟨v,q,po.at rh v r (.of nt)⟩
end
end PV
end
section
namespace PV
open PySem PySem.Spec PyProof.Rows L2
/-- a list that may be read: just made,tracked,or frozen -/
def asL (h : Hh) : D -> Option (List D)
 | .tl ws => some ws
 | .fl ws => some ws
 | .ref i => match h[i]? with
  | some (.lst ws) => some ws
  | _ => none
 | _ => none
/-- a tuple -/
def asT : D -> Option (List D)
 | .tup ws => some ws
 | .kt ws => some ws
 | _ => none
/-- a list that is tracked by the hand layer's heap -/
def asM (h : Hh) : D -> Option (List D)
 | .tl ws => some ws
 | .ref i => match h[i]? with
  | some (.lst ws) => some ws
  | _ => none
 | _ => none
section
variable {g : Gx} {μ : List Addr} {h : Hh} {H : Hp} {w : D} {v : V} {ws : List D}
theorem rA (r : RH g μ h H) (q : RV g μ H w v) (e : asM h w = some ws) : ∃ a vs,v = .ref a /\ H a = some (.lst vs) /\ RVs g μ H ws vs := by
 unfold asM at e
 split at e
 ·cases e
  obtain ⟨a,vs,e1,e2,_,z⟩ := q
  exact ⟨a,vs,e1,e2,z⟩
 ·rename_i i
  obtain ⟨a,e1,e2⟩ := q
  split at e
  ·rename_i ws' e3
   cases e
   obtain ⟨b,eb,vs,hb,z⟩ := r.cell i _ e3
   rw [e1] at eb; cases eb
   exact ⟨a,vs,e2,hb,z⟩
  ·cases e
 ·cases e
theorem iL (r : RH g μ h H) (q : RV g μ H w v) (e : asL h w = some ws) : ∃ a vs,v = .ref a /\ SqL g.K H a vs /\ RVs g μ H ws vs := by
 unfold asL at e
 split at e
 ·cases e
  obtain ⟨a,vs,e1,e2,_,z⟩ := q
  exact ⟨a,vs,e1, .of e2,z⟩
 ·cases e
  obtain ⟨a,vs,e1,e2,z⟩ := q
  exact ⟨a,vs,e1,e2.sq,z⟩
 ·rename_i i
  obtain ⟨a,vs,e1,e2,z⟩ := rA (ws := ws) r q (by unfold asM; exact e)
  exact ⟨a,vs,e1, .of e2,z⟩
 ·cases e
theorem fO (q : RV g μ H w v) (e : asT w = some ws) : ∃ a vs,v = .ref a /\ SqT g.K H a vs /\ RVs g μ H ws vs := by
 unfold asT at e
 split at e
 ·cases e
  obtain ⟨a,vs,e1,e2,z⟩ := q
  exact ⟨a,vs,e1, .of e2,z⟩
 ·cases e
  exact q
 ·cases e
theorem RVs.length {ws : List D} {vs : List V} : RVs g μ H ws vs -> vs.length = ws.length := by
 induction ws generalizing vs with
 | nil => intro r; rw [show vs = [] from r]; rfl
 | cons w ws ih =>
  intro r
  obtain ⟨v,rr,rfl,_,_,z⟩ := r
  simp [ih z]
theorem RVs.append {ws ws' : List D} {vs vs' : List V} : RVs g μ H ws vs -> RVs g μ H ws' vs' -> RVs g μ H (ws ++ ws') (vs ++ vs') := by
 induction ws generalizing vs with
 | nil => intro r s; rw [show vs = [] from r]; exact s
 | cons w ws ih =>
  intro r s
  obtain ⟨v,rr,rfl,nt,q,z⟩ := r
  exact ⟨v,_,rfl,nt,q,ih z s⟩
theorem RVs.get {ws : List D} {vs : List V} {i : Nat} {w : D} : RVs g μ H ws vs -> ws[i]? = some w -> ∃ v,vs[i]? = some v /\ w.isTl = false /\ RV g μ H w v := by
 induction ws generalizing vs i with
 | nil => intro r e; simp at e
 | cons w' ws ih =>
  intro r e
  obtain ⟨v,rr,rfl,nt,q,z⟩ := r
  cases i with
  | zero => simp at e; subst e; exact ⟨v,by simp,nt,q⟩
  | succ i => simp at e; obtain ⟨v',e',y⟩ := ih z e; exact ⟨v',by simpa using e',y⟩
theorem RVs.take {ws : List D} {vs : List V} (n : Nat) : RVs g μ H ws vs -> RVs g μ H (ws.take n) (vs.take n) := by
 induction ws generalizing vs n with
 | nil => intro r; rw [show vs = [] from r]; simp; rfl
 | cons w' ws ih =>
  intro r
  obtain ⟨v,rr,rfl,nt,q,z⟩ := r
  cases n with
  | zero => exact rfl
  | succ n => exact ⟨v,_,rfl,nt,q,ih n z⟩
theorem RVs.drop {ws : List D} {vs : List V} (n : Nat) : RVs g μ H ws vs -> RVs g μ H (ws.drop n) (vs.drop n) := by
 induction ws generalizing vs n with
 | nil => intro r; rw [show vs = [] from r]; simp; rfl
 | cons w' ws ih =>
  intro r
  cases n with
  | zero => exact r
  | succ n =>
   obtain ⟨v,rr,rfl,nt,q,z⟩ := r
   exact ih n z
theorem RVs.rep {ws : List D} {vs : List V} (r : RVs g μ H ws vs) : ∀ n : Nat,RVs g μ H (List.replicate n ws).flatten (List.replicate n vs).flatten
 | 0 => rfl
 | n + 1 => by
  rw [List.replicate_succ,List.replicate_succ,List.flatten_cons,List.flatten_cons]
  exact r.append (RVs.rep r n)
end
def SO (g : Gx) (X : Cx) (Wx : WX) (f : Value -> Value -> Sem Value) (m : D -> D -> Hh -> R D) : Prop := ∀ (x y : D) (h : Hh) (σ : L2.St) (H : Hp) (μ : List Addr) (vx vy : V) (Q : VK),
 RH g μ h H -> RV g μ H x vx -> RV g μ H y vy -> Po g Wx σ μ H (m x y h) (fun w h' μ' H' => ∀ v,RV g μ' H' w v -> Fr H w v -> Q v H') -> rOf X f vx vy H Q
def mOp (f : D -> D -> Hh -> R D) (a b : M D) : M D := fun σ h => (a σ h).bind fun x h1 => (b σ h1).bind fun y h2 => f x y h2
section
variable {g : Gx} {X : Cx} {Wx : WX} {a b : Expr} {ma mb : M D} {f : D -> D -> Hh -> R D} {pos : Pos}
theorem aAn {fv : Value -> Value -> Sem Value} (so : SO g X Wx fv f) (ha : SE g X Wx a ma) (hb : SE g X Wx b mb) {σw : Sg} {h : Hh} {σ : L2.St} {H : Hp} {μ : List Addr} {Q : VK} (rs : RS g μ H σw σ) (rh : RH g μ h H)
  (po : Po g Wx σ μ H (mOp f ma mb σw h) (fun w h' μ' H' => ∀ v,RV g μ' H' w v -> Fr H w v -> Q v H')) : tOp (rOf X fv) (tOf X a) (tOf X b) σ H Q := by
 refine ha σw h σ H μ _ rs rh (po.bind.imp fun x h1 μ1 H1 x1 r1 p1 vx qx fx => ?_)
 refine hb σw h1 σ H1 μ1 _ (rs.ext rh.trk x1) r1 (p1.bind.imp fun y h2 μ2 H2 x2 r2 p2 vy qy fy => ?_)
 exact so x y h2 σ H2 μ2 vx vy Q r2 (qx.ext r1.trk x2) qy (p2.imp fun w h3 μ3 H3 x3 r3 q3 v qv fv => q3 v qv (fv.back (x1.trans x2)))
theorem aHl {op : Operator} (so : SO g X Wx (binaryOp op) f) (ha : SE g X Wx a ma) (hb : SE g X Wx b mb) : SE g X Wx (.BinOp a op b pos) (mOp f ma mb) := fun σw h σ H μ Q rs rh po =>
 eM (pe_op qF aX aX) (aAn so ha hb rs rh po)
theorem aHm {op : CmpOp} (so : SO g X Wx (compareOp op) f) (ha : SE g X Wx a ma) (hb : SE g X Wx b mb) (hm : behindInMarks op b = false) : SE g X Wx (.Compare a [op] [b] pos) (mOp f ma mb) := fun σw h σ H μ Q rs rh po =>
 eM (pe_cmpR qF aX aX hm) (aAn so ha hb rs rh po)
/-- a value that must be a bool -/
def mB (m : M D) : M Bool := fun σ h => (m σ h).bind fun x h1 => match x with
 | .bl b => .ok b h1
 | _ => .bad
theorem xC {σ : L2.St} {H : Hp} {μ : List Addr} {Q : Bool -> Hp -> Prop} {m : M D} {σw : Sg} {h : Hh} (po : Po g Wx σ μ H (mB m σw h) (fun b h' μ' H' => Q b H')) :
  Po g Wx σ μ H (m σw h) (fun w h' μ' H' => ∀ v,RV g μ' H' w v -> Fr H w v -> ∃ k,v = .bl k /\ Q k H') := by
 refine po.bind.imp fun w h1 μ1 H1 x1 r1 p1 v qv fv => ?_
 cases w <;> first | exact p1.elim | skip
 rename_i b
 exact ⟨b,qv,p1.at r1⟩
theorem aHJ {op : CmpOp} (so : SO g X Wx (compareOp op) f) (ha : SE g X Wx a ma) (hb : SE g X Wx b mb) (hm : behindInMarks op b = false) : ST g X Wx (.Compare a [op] [b] pos) (mB (mOp f ma mb)) := fun σw h σ H μ Q rs rh po =>
 aBW (pt_cmpR qF aX aX hm) (aAn (Q := fun v H' => ∃ k,v = .bl k /\ Q k H') so ha hb rs rh (xC po))
end
def cM (x y : D) (h : Hh) : R D := match x,y with
 | .int i, .int j => .ok (.int (i + j)) h
 | .str i, .str j => if i.length + j.length <= sizeLine then .ok (.str (i ++ j)) h else .bad
 | x,y => match asT x,asT y with
  | some i,some j => if i.length + j.length <= sizeLine then .ok (if i = [] then y else if j = [] then x else .tup (i ++ j)) h else .bad
  | _,_ => match asM h x,asM h y with
   | some i,some j => if i.length + j.length <= sizeLine then .ok (.tl (i ++ j)) h else .bad
   | _,_ => .bad
def aLb (x y : D) (h : Hh) : R D := match x,y with
 | .int i, .int j => .ok (.int (i - j)) h
 | _,_ => .bad
instance (i j : Int) : Decidable (CMul i j) := by unfold CMul; infer_instance
def iI (x y : D) (h : Hh) : R D := match x,y with
 | .int i, .int j => if CMul i j then .ok (.int (i * j)) h else .bad
 | x, .int k => match asM h x with
  | some i => if -(2 ^ 63) <= k /\ k < 2 ^ 63 /\ i.length * k.toNat <= sizeLine then .ok (.tl (List.replicate k.toNat i).flatten) h else .bad
  | none => .bad
 | _,_ => .bad
def sG (x y : D) (h : Hh) : R D := match x,y with
 | .int i, .int j => if 0 < j /\ j < 1073741824 then .ok (.int (i / j)) h else .bad
 | _,_ => .bad
def kQ (x y : D) (h : Hh) : R D := match x,y with
 | .int i, .int j => if 0 < j then .ok (.int (i % j)) h else .bad
 | _,_ => .bad
def qG (x y : D) (h : Hh) : R D := match x,y with
 | .int i, .int j => if 0 <= j /\ (Builtin.Int.intBits i : Int) * j <= 2 ^ 27 then .ok (.int (i ^ j.toNat)) h else .bad
 | _,_ => .bad
section
variable {g : Gx} {X : Cx} {Wx : WX}
theorem aHA (hK : X.K = g.K) : SO g X Wx (binaryOp .Add) cM := by
 intro x y h σ H μ vx vy Q rh qx qy po
 unfold cM at po
 split at po
 ·exact cA op_add ⟨_,_,qx,qy,po.at rh _ rfl (.of rfl)⟩
 ·split at po
  ·rename_i hl
   exact cA op_add_str ⟨_,_,qx,qy,hl,po.at rh _ rfl (.of rfl)⟩
  ·exact po.elim
 ·split at po
  ·rename_i i j e1 e2
   split at po
   ·rename_i hl
    obtain ⟨a,vs,rfl,s1,z1⟩ := fO qx e1
    obtain ⟨b,us,rfl,s2,z2⟩ := fO qy e2
    have l1 := z1.length
    have l2 := z2.length
    refine cA op_catA ⟨a,b,vs,us,rfl,rfl,by rw [hK]; exact s1,by rw [hK]; exact s2,by omega,fun e => ?_,fun ne e => ?_,fun ne ne' p np => ?_⟩
    ·subst e
     have ei : i = [] := by cases i with | nil => rfl | cons _ _ => simp at l1
     subst ei
     rw [if_pos rfl] at po
     exact po.at rh _ qy (.of (by cases y <;> first | rfl | cases e2))
    ·subst e
     have ej : j = [] := by cases j with | nil => rfl | cons _ _ => simp at l2
     have ei : i ≠ [] := fun z => ne (by subst z; cases vs with | nil => rfl | cons _ _ => simp at l1)
     rw [if_neg ei,if_pos ej] at po
     exact po.at rh _ qx (.of (by cases x <;> first | rfl | cases e1))
    ·have ei : i ≠ [] := fun z => ne (by subst z; cases vs with | nil => rfl | cons _ _ => simp at l1)
     have ej : j ≠ [] := fun z => ne' (by subst z; cases us with | nil => rfl | cons _ _ => simp at l2)
     rw [if_neg ei,if_neg ej] at po
     exact po μ _ (.new rh.trk np) (rh.new np) _ (.newT rh np (z1.append z2)) (.of rfl)
   ·exact po.elim
  ·split at po
   ·rename_i i j e1 e2
    split at po
    ·rename_i hl
     obtain ⟨a,vs,rfl,h1,z1⟩ := rA rh qx e1
     obtain ⟨b,us,rfl,h2,z2⟩ := rA rh qy e2
     have l1 := z1.length
     have l2 := z2.length
     refine cA op_cat ⟨a,b,vs,us,rfl,rfl,h1,h2,by omega,fun p np => ?_⟩
     exact po μ _ (.new rh.trk np) (rh.new np) _ (.newL rh np (z1.append z2)) fun c ec => by cases ec; exact np
    ·exact po.elim
   ·exact po.elim
theorem aHC : SO g X Wx (binaryOp .Mult) iI := by
 intro x y h σ H μ vx vy Q rh qx qy po
 unfold iI at po
 split at po
 ·split at po
  ·rename_i hc
   exact cA op_mul ⟨_,_,qx,qy,hc,po.at rh _ rfl (.of rfl)⟩
  ·exact po.elim
 ·split at po
  ·rename_i i e1
   split at po
   ·rename_i hc
    obtain ⟨h1,h2,h3⟩ := hc
    obtain ⟨a,vs,rfl,ha,z1⟩ := rA rh qx e1
    have l1 := z1.length
    refine cA op_rep ⟨a,_,vs,rfl,qy,ha,h1,h2,by rw [l1]; exact h3,fun p np => ?_⟩
    exact po μ _ (.new rh.trk np) (rh.new np) _ (.newL rh np (z1.rep _)) fun c ec => by cases ec; exact np
   ·exact po.elim
  ·exact po.elim
 ·exact po.elim
theorem aFU : SO g X Wx (binaryOp .FloorDiv) sG := by
 intro x y h σ H μ vx vy Q rh qx qy po
 unfold sG at po
 split at po
 ·split at po
  ·rename_i hc
   exact cA op_fdiv ⟨_,_,qx,qy,hc,po.at rh _ rfl (.of rfl)⟩
  ·exact po.elim
 ·exact po.elim
theorem aHB : SO g X Wx (binaryOp .Mod) kQ := by
 intro x y h σ H μ vx vy Q rh qx qy po
 unfold kQ at po
 split at po
 ·split at po
  ·rename_i hc
   exact cA op_mod ⟨_,_,qx,qy,hc,po.at rh _ rfl (.of rfl)⟩
  ·exact po.elim
 ·exact po.elim
theorem aFv : OpR X (binaryOp .Pow) (rI (fun i j => 0 <= j /\ (Builtin.Int.intBits i : Int) * j <= 2 ^ 27) fun i j => .int (i ^ j.toNat)) := opI fun _ _ _ _ _ _ _ hc q => pow_int hc.1 hc.2 q
theorem aHD : SO g X Wx (binaryOp .Pow) qG := by
 intro x y h σ H μ vx vy Q rh qx qy po
 unfold qG at po
 split at po
 ·split at po
  ·rename_i hc
   exact cA aFv ⟨_,_,qx,qy,hc,po.at rh _ rfl (.of rfl)⟩
  ·exact po.elim
 ·exact po.elim
end
end PV
end
section
namespace PV
open PySem PySem.Spec PyProof.Rows L2
def aJ {α β : Type} (f : α -> Option β) : List α -> Option (List β)
 | [] => some []
 | x :: xs => match f x,aJ f xs with
  | some a,some b => some (a :: b)
  | _,_ => none
/-- the data that a value is -/
def toP (h : Hh) : Nat -> D -> Option PyData
 | 0,_ => none
 | n + 1,d => match d with
  | .non => some .none
  | .bl b => some (.bool b)
  | .int i => some (.int i)
  | .str x => some (.str x)
  | .tup ws => (aJ (toP h n) ws).map .tuple
  | .kt ws => (aJ (toP h n) ws).map .tuple
  | .tl ws => (aJ (toP h n) ws).map .list
  | .fl ws => (aJ (toP h n) ws).map .list
  | .ref i => match h[i]? with
   | some (.lst ws) => (aJ (toP h n) ws).map .list
   | _ => none
  | _ => none
section
variable {g : Gx} {μ : List Addr} {h : Hh} {H : Hp}
theorem mP {f : D -> Option PyData} (ih : ∀ w v d,f w = some d -> RV g μ H w v -> Dp g.K H v d) : ∀ {ws : List D} {vs : List V} {ds : List PyData},aJ f ws = some ds -> RVs g μ H ws vs -> DpAll g.K H vs ds
 | [],vs,ds,e,r => by
  rw [show vs = [] from r]
  unfold aJ at e
  cases e
  exact .nil
 | w :: ws,vs,ds,e,r => by
  obtain ⟨v,rr,rfl,_,q,z⟩ := r
  unfold aJ at e
  split at e
  ·rename_i a b ea eb
   cases e
   exact .cons (ih w v a ea q) (mP ih eb z)
  ·cases e
theorem dY (rh : RH g μ h H) : ∀ (n : Nat) (w : D) (v : V) (d : PyData),toP h n w = some d -> RV g μ H w v -> Dp g.K H v d
 | 0,w,v,d,e,r => by unfold toP at e; cases e
 | n + 1,w,v,d,e,r => by
  unfold toP at e
  split at e
  ·cases e; rw [show v = .non from r]; exact .non
  ·cases e; rw [show v = .bl _ from r]; exact .bl _
  ·cases e; rw [show v = .int _ from r]; exact .int _
  ·cases e; rw [show v = .str _ from r]; exact .str _
  ·obtain ⟨a,vs,rfl,q,z⟩ := r
   obtain ⟨ds,e1,rfl⟩ := Option.map_eq_some_iff.mp e
   exact .tup (.of q) (mP (dY rh n) e1 z)
  ·obtain ⟨a,vs,rfl,q,z⟩ := r
   obtain ⟨ds,e1,rfl⟩ := Option.map_eq_some_iff.mp e
   exact .tup q (mP (dY rh n) e1 z)
  ·obtain ⟨a,vs,rfl,q,_,z⟩ := r
   obtain ⟨ds,e1,rfl⟩ := Option.map_eq_some_iff.mp e
   exact .lst (.of q) (mP (dY rh n) e1 z)
  ·obtain ⟨a,vs,rfl,q,z⟩ := r
   obtain ⟨ds,e1,rfl⟩ := Option.map_eq_some_iff.mp e
   exact .lst q.sq (mP (dY rh n) e1 z)
  ·rename_i i
   split at e
   ·rename_i ws e3
    obtain ⟨a,e1,rfl⟩ := r
    obtain ⟨b,eb,vs,hb,z⟩ := rh.cell i _ e3
    rw [e1] at eb; cases eb
    obtain ⟨ds,e4,rfl⟩ := Option.map_eq_some_iff.mp e
    exact .lst (.of hb) (mP (dY rh n) e4 z)
   ·cases e
  ·cases e
end
def bD : Nat := 66
/-- == by the data -/
def eqD (h : Hh) (x y : D) : Option Bool := match toP h bD x,toP h bD y with
 | some d,some e => if SeqAt.shaped d && SeqAt.shaped e then some (PyData.eqv d e) else none
 | _,_ => none
def eqW (x y : D) (h : Hh) : R D := match x,y with
 | .str a, .str b => .ok (.bl (decide (a = b))) h
 | x,y => match eqD h x y with
  | some b => .ok (.bl b) h
  | none => .bad
def neW (x y : D) (h : Hh) : R D := match x,y with
 | .str a, .str b => .ok (.bl (!decide (a = b))) h
 | x,y => match eqD h x y with
  | some b => .ok (.bl (!b)) h
  | none => .bad
/-- a key of a dict -/
def toK : D -> Option Key
 | .int i => some (.inl i)
 | .str x => some (.inr x)
 | _ => none
def fR {κ : Type} [DecidableEq κ] (kvs : List (κ × D)) (k : κ) : Option D := (kvs.find? fun kv => decide (kv.1 = k)).map (·.2)
/-- what a dict has at a key: none where the key or the dict is of another kind -/
def jW (h : Hh) (d : D) (k : D) : Option (Option D) := match d with
 | .ref i => match h[i]? with
  | some (.dK kvs) => match toK k with
   | some k => some (fR kvs k)
   | none => none
  | some (.dT kvs) => match k with
   | .tup ks => match aJ toK ks with
    | some ks => some (fR kvs ks)
    | none => none
   | _ => none
  | _ => none
 | _ => none
def inO (x y : D) (h : Hh) : Option Bool := match y with
 | .tup ws => match toP h bD x,toP h bD (.tup ws) with
  | some d,some (.tuple ds) => if SeqAt.shaped d && SeqAt.shaped (.tuple ds) then some (ds.any fun z => PyData.eqv z d) else none
  | _,_ => none
 | .kt ws => match toP h bD x,toP h bD (.kt ws) with
  | some d,some (.tuple ds) => if SeqAt.shaped d && SeqAt.shaped (.tuple ds) then some (ds.any fun z => PyData.eqv z d) else none
  | _,_ => none
 | .str z => match x with
  | .str y => match y.cps.toList with
   | [c] => some (decide (c ∈ z.cps.toList))
   | _ => some (!(Builtin.Str.occurrences z y 0 z.length 1).isEmpty)
  | _ => none
 | y => match jW h y x with
  | some o => some o.isSome
  | none => match toP h bD x,toP h bD y with
   | some d,some (.list ds) => if SeqAt.shaped d && SeqAt.shaped (.list ds) then some (ds.any fun z => PyData.eqv z d) else none
   | _,_ => none
def inW (x y : D) (h : Hh) : R D := match inO x y h with
 | some b => .ok (.bl b) h
 | none => .bad
def niW (x y : D) (h : Hh) : R D := match inO x y h with
 | some b => .ok (.bl (!b)) h
 | none => .bad
/-- ints of a tuple -/
def toI : D -> Option Int
 | .int i => some i
 | _ => none
def ltW (x y : D) (h : Hh) : R D := match x,y with
 | .int i, .int j => .ok (.bl (decide (i < j))) h
 | .str i, .str j => .ok (.bl (decide (i.cps.toList < j.cps.toList))) h
 | x,y => match asT x,asT y with
  | some i,some j => match aJ toI i,aJ toI j with
   | some i,some j => .ok (.bl (HT.lexLt i j)) h
   | _,_ => .bad
  | _,_ => .bad
def leW (x y : D) (h : Hh) : R D := match x,y with
 | .int i, .int j => .ok (.bl (decide (i <= j))) h
 | .str i, .str j => .ok (.bl (!decide (j.cps.toList < i.cps.toList))) h
 | _,_ => .bad
def gtW (x y : D) (h : Hh) : R D := match x,y with
 | .int i, .int j => .ok (.bl (decide (j < i))) h
 | .str i, .str j => .ok (.bl (decide (j.cps.toList < i.cps.toList))) h
 | _,_ => .bad
def geW (x y : D) (h : Hh) : R D := match x,y with
 | .int i, .int j => .ok (.bl (decide (j <= i))) h
 | .str i, .str j => .ok (.bl (!decide (i.cps.toList < j.cps.toList))) h
 | _,_ => .bad
def D.isNon : D -> Bool
 | .non => true
 | _ => false
def isW (x y : D) (h : Hh) : R D := match x,y with
 | .bl a, .bl b => .ok (.bl (decide (a = b))) h
 | x, .non => .ok (.bl x.isNon) h
 | _,_ => .bad
section
variable {g : Gx} {X : Cx} {Wx : WX} {μ : List Addr} {h : Hh} {H : Hp}
theorem aCm {x y : D} {vx vy : V} {b : Bool} (rh : RH g μ h H) (qx : RV g μ H x vx) (qy : RV g μ H y vy) (e : eqD h x y = some b) :
  ∃ d d',Dp g.K H vx d /\ Dp g.K H vy d' /\ SeqAt.shaped d = true /\ SeqAt.shaped d' = true /\ PyData.eqv d d' = b := by
 unfold eqD at e
 split at e
 ·rename_i d d' e1 e2
  split at e
  ·rename_i hs
   cases e
   obtain ⟨s1,s2⟩ := Bool.and_eq_true_iff.mp hs
   exact ⟨d,d',dY rh _ _ _ _ e1 qx,dY rh _ _ _ _ e2 qy,s1,s2,rfl⟩
  ·cases e
 ·cases e
theorem aI8 (hK : X.K = g.K) (hu : X.A.units + 64 < cLine) : SO g X Wx (compareOp .Eq) eqW := by
 intro x y h σ H μ vx vy Q rh qx qy po
 unfold eqW at po
 split at po
 ·rename_i a b
  rw [show vx = .str a from qx,show vy = .str b from qy]
  refine cA op_eq ⟨rfl, ?_⟩
  have e : decide (V.str a = V.str b) = decide (a = b) := by simp
  rw [e]
  exact po.at rh _ rfl (.of rfl)
 ·split at po
  ·rename_i b e
   obtain ⟨d,d',p1,p2,s1,s2,rfl⟩ := aCm rh qx qy e
   exact cA (op_eqD hu) ⟨d,d',by rw [hK]; exact p1,by rw [hK]; exact p2,s1,s2,po.at rh _ rfl (.of rfl)⟩
  ·exact po.elim
theorem aJf (hK : X.K = g.K) (hu : X.A.units + 64 < cLine) : SO g X Wx (compareOp .NotEq) neW := by
 intro x y h σ H μ vx vy Q rh qx qy po
 unfold neW at po
 split at po
 ·rename_i a b
  rw [show vx = .str a from qx,show vy = .str b from qy]
  refine cA op_ne ⟨rfl, ?_⟩
  have e : decide (V.str a = V.str b) = decide (a = b) := by simp
  rw [e]
  exact po.at rh _ rfl (.of rfl)
 ·split at po
  ·rename_i b e
   obtain ⟨d,d',p1,p2,s1,s2,rfl⟩ := aCm rh qx qy e
   exact cA (op_neD hu) ⟨d,d',by rw [hK]; exact p1,by rw [hK]; exact p2,s1,s2,po.at rh _ rfl (.of rfl)⟩
  ·exact po.elim
theorem vM {w : D} {k : Key} {v : V} (e : toK w = some k) (q : RV g μ H w v) : v = kV k := by
 unfold toK at e
 split at e
 ·cases e; exact q
 ·cases e; exact q
 ·cases e
theorem xD : ∀ {ws : List D} {ks : List Key} {vs : List V},aJ toK ws = some ks -> RVs g μ H ws vs -> vs = ks.map kV
 | [],ks,vs,e,r => by
  unfold aJ at e; cases e
  exact r
 | w :: ws,ks,vs,e,r => by
  obtain ⟨v,rr,rfl,_,q,z⟩ := r
  unfold aJ at e
  split at e
  ·rename_i a b ea eb
   cases e
   rw [vM ea q,xD eb z]; rfl
  ·cases e
def RO (g : Gx) (μ : List Addr) (H : Hp) : Option D -> Option V -> Prop
 | some w,r => ∃ v,r = some v /\ w.isTl = false /\ RV g μ H w v
 | none,r => r = none
theorem aA4 {κ : Type} [DecidableEq κ] {kvs : List (κ × D)} {vs : List (κ × V)} (r : RKs g μ H kvs vs) (k : κ) : RO g μ H (fR kvs k) (valV vs k) := by
 induction kvs generalizing vs with
 | nil => rw [show vs = [] from r]; rfl
 | cons p kvs ih =>
  obtain ⟨v,rr,rfl,nt,q,z⟩ := r
  by_cases e : p.1 = k
  ·have e1 : fR (p :: kvs) k = some p.2 := by simp [fR,List.find?_cons,e]
   rw [e1]
   exact ⟨v,valV_pos e,nt,q⟩
  ·have e1 : fR (p :: kvs) k = fR kvs k := by simp [fR,List.find?_cons,e]
   rw [e1]
   rw [valV_neg (p := (p.1,v)) e]
   exact ih z
theorem aAY {d k : D} {vd vk : V} {o : Option D} (rh : RH g μ h H) (qd : RV g μ H d vd) (qk : RV g μ H k vk) (e : jW h d k = some o) :
  ∃ a r,vd = .ref a /\ IsD H a /\ DGet H a vk r /\ RO g μ H o r := by
 cases d <;> first | (cases e; done) | skip
 ·rename_i i
  obtain ⟨a,ea,rfl⟩ := qd
  simp only [jW] at e
  split at e
  ·rename_i kvs e3
   obtain ⟨b,eb,vs,hb,z⟩ := rh.cell i _ e3
   rw [ea] at eb; cases eb
   split at e
   ·rename_i k' e4
    cases e
    rw [vM e4 qk]
    exact ⟨a,_,rfl, .inl ⟨_, .inl hb⟩,DGet.k hb,aA4 z k'⟩
   ·cases e
  ·rename_i kvs e3
   obtain ⟨b,eb,vs,hb,z⟩ := rh.cell i _ e3
   rw [ea] at eb; cases eb
   split at e
   ·rename_i ks
    split at e
    ·rename_i ks' e4
     cases e
     obtain ⟨c,us,rfl,hc,zc⟩ := qk
     rw [xD e4 zc] at hc
     exact ⟨a,_,rfl, .inr ⟨_, .inl hb⟩,DGet.t hb hc,aA4 z ks'⟩
    ·cases e
   ·cases e
  ·cases e
/-- in,by values -/
def aKS (K : PySem.W.Frag) : R2 := fun x y H Q => ∃ d ds,Dp K H x d /\ Dp K H y (.tuple ds) /\ SeqAt.shaped d = true /\ SeqAt.shaped (.tuple ds) = true /\ Q (.bl (ds.any fun z => PyData.eqv z d)) H
def aKT (K : PySem.W.Frag) : R2 := fun x y H Q => ∃ d ds,Dp K H x d /\ Dp K H y (.tuple ds) /\ SeqAt.shaped d = true /\ SeqAt.shaped (.tuple ds) = true /\ Q (.bl (!ds.any fun z => PyData.eqv z d)) H
theorem aCI (hu : X.A.units + 65 < cLine) : OpR X (compareOp .In) (aKS X.K) := by
 intro pins s σ H x y v u Q I rx ry h
 obtain ⟨d,ds,hd,he,sd,se,q⟩ := h
 obtain ⟨as,r1⟩ := Dp.reads I d x v hd rx
 obtain ⟨bs,r2⟩ := Dp.reads I (.tuple ds) y u he ry
 exact SeqAt.in_tuple_reads r2 r1 (SeqAt.canLay_of_shaped se) (SeqAt.canLay_of_shaped sd) (room_in_shaped sd hu) ⟨.bl _,H,I,rfl,q⟩
theorem aCJ (hu : X.A.units + 65 < cLine) : OpR X (compareOp .NotIn) (aKT X.K) := by
 intro pins s σ H x y v u Q I rx ry h
 obtain ⟨d,ds,hd,he,sd,se,q⟩ := h
 obtain ⟨as,r1⟩ := Dp.reads I d x v hd rx
 obtain ⟨bs,r2⟩ := Dp.reads I (.tuple ds) y u he ry
 exact SeqAt.notIn_tuple_reads r2 r1 (SeqAt.canLay_of_shaped se) (SeqAt.canLay_of_shaped sd) (room_in_shaped sd hu) ⟨.bl _,H,I,rfl,q⟩
def aKQ : R2 := fun y x H Q => ∃ a o,x = .ref a /\ DGet H a y o /\ Q (.bl o.isSome) H
def aKR : R2 := fun y x H Q => ∃ a o,x = .ref a /\ DGet H a y o /\ Q (.bl (!o.isSome)) H
theorem aGM (hu : X.A.units + 1 < cLine) : OpR X (compareOp .In) aKQ := by
 intro pins s σ H x y v u Q I rx ry h
 obtain ⟨a,o,rfl,gt,q⟩ := h
 cases ry
 exact d_in hu I gt rx fun s' I' => ⟨.bl _,H,I',rfl,q⟩
theorem aGN (hu : X.A.units + 1 < cLine) : OpR X (compareOp .NotIn) aKR := by
 intro pins s σ H x y v u Q I rx ry h
 obtain ⟨a,o,rfl,gt,q⟩ := h
 cases ry
 exact d_notIn hu I gt rx fun s' I' => ⟨.bl _,H,I',rfl,q⟩
theorem aFR {y : Str} {c : Nat} (e : y.cps.toList = [c]) : y = ⟨#[c]⟩ := by
 cases y with
 | mk a =>
  have : a = #[c] := by
   have := congrArg List.toArray e
   simpa using this
  rw [this]
/-- in and not in together: f is the truth or its opposite -/
theorem aCu (hK : X.K = g.K) (hu : X.A.units + 65 < cLine) {x y : D} {vx vy : V} {b : Bool} {Q : VK} (rh : RH g μ h H) (qx : RV g μ H x vx) (qy : RV g μ H y vy) (e : inO x y h = some b) :
  (Q (.bl b) H -> rOf X (compareOp .In) vx vy H Q) /\ (Q (.bl (!b)) H -> rOf X (compareOp .NotIn) vx vy H Q) := by
 unfold inO at e
 split at e
 ·rename_i ws
  split at e
  ·rename_i d ds e1 e2
   split at e
   ·rename_i hs
    cases e
    obtain ⟨s1,s2⟩ := Bool.and_eq_true_iff.mp hs
    have p1 := dY rh _ _ _ _ e1 qx
    have p2 := dY rh _ _ _ _ e2 qy
    exact ⟨fun q => cA (aCI hu) ⟨d,ds,by rw [hK]; exact p1,by rw [hK]; exact p2,s1,s2,q⟩,fun q => cA (aCJ hu) ⟨d,ds,by rw [hK]; exact p1,by rw [hK]; exact p2,s1,s2,q⟩⟩
   ·cases e
  ·cases e
 ·rename_i ws
  split at e
  ·rename_i d ds e1 e2
   split at e
   ·rename_i hs
    cases e
    obtain ⟨s1,s2⟩ := Bool.and_eq_true_iff.mp hs
    have p1 := dY rh _ _ _ _ e1 qx
    have p2 := dY rh _ _ _ _ e2 qy
    exact ⟨fun q => cA (aCI hu) ⟨d,ds,by rw [hK]; exact p1,by rw [hK]; exact p2,s1,s2,q⟩,fun q => cA (aCJ hu) ⟨d,ds,by rw [hK]; exact p1,by rw [hK]; exact p2,s1,s2,q⟩⟩
   ·cases e
  ·cases e
 ·rename_i z
  split at e
  ·rename_i y'
   split at e
   ·rename_i c ec
    cases e
    rw [show vx = .str y' from qx,show vy = .str z from qy,aFR ec]
    exact ⟨fun q => cA op_in_sign ⟨c,z,rfl,rfl,q⟩,fun q => cA op_notIn_sign ⟨c,z,rfl,rfl,q⟩⟩
   ·cases e
    exact ⟨fun q => cA op_in_str ⟨_,_,qx,qy,q⟩,fun q => cA op_notin_str ⟨_,_,qx,qy,q⟩⟩
  ·cases e
 ·split at e
  ·rename_i o eo
   cases e
   obtain ⟨a,r,e1,_,e2,e3⟩ := aAY rh qy qx eo
   have eb : o.isSome = r.isSome := by
    cases o with
    | none => rw [show r = none from e3]; rfl
    | some w => obtain ⟨v,rfl,_⟩ := e3; rfl
   rw [eb]
   exact ⟨fun q => cA (aGM (by omega)) ⟨a,r,e1,e2,q⟩,fun q => cA (aGN (by omega)) ⟨a,r,e1,e2,q⟩⟩
  ·split at e
   ·rename_i d ds e1 e2
    split at e
    ·rename_i hs
     cases e
     obtain ⟨s1,s2⟩ := Bool.and_eq_true_iff.mp hs
     have p1 := dY rh _ _ _ _ e1 qx
     have p2 := dY rh _ _ _ _ e2 qy
     exact ⟨fun q => cA (op_inD hu) ⟨d,ds,by rw [hK]; exact p1,by rw [hK]; exact p2,s1,s2,q⟩,fun q => cA (op_notInD hu) ⟨d,ds,by rw [hK]; exact p1,by rw [hK]; exact p2,s1,s2,q⟩⟩
    ·cases e
   ·cases e
theorem aJb (hK : X.K = g.K) (hu : X.A.units + 65 < cLine) : SO g X Wx (compareOp .In) inW := by
 intro x y h σ H μ vx vy Q rh qx qy po
 unfold inW at po
 split at po
 ·rename_i b e
  exact (aCu hK hu rh qx qy e).1 (po.at rh _ rfl (.of rfl))
 ·exact po.elim
theorem aJg (hK : X.K = g.K) (hu : X.A.units + 65 < cLine) : SO g X Wx (compareOp .NotIn) niW := by
 intro x y h σ H μ vx vy Q rh qx qy po
 unfold niW at po
 split at po
 ·rename_i b e
  exact (aCu hK hu rh qx qy e).2 (po.at rh _ rfl (.of rfl))
 ·exact po.elim
theorem aAv : ∀ {ws : List D} {ns : List Int} {vs : List V},aJ toI ws = some ns -> RVs g μ H ws vs -> vs = ns.map V.int
 | [],ks,vs,e,r => by
  unfold aJ at e; cases e
  exact r
 | w :: ws,ks,vs,e,r => by
  obtain ⟨v,rr,rfl,_,q,z⟩ := r
  unfold aJ at e
  split at e
  ·rename_i a b ea eb
   cases e
   unfold toI at ea
   split at ea
   ·cases ea
    rw [show v = .int _ from q,aAv eb z]; rfl
   ·cases ea
  ·cases e
theorem aJe (hK : X.K = g.K) (hu : X.A.units < cLine) : SO g X Wx (compareOp .Lt) ltW := by
 intro x y h σ H μ vx vy Q rh qx qy po
 unfold ltW at po
 split at po
 ·exact cA op_lt ⟨_,_,qx,qy,po.at rh _ rfl (.of rfl)⟩
 ·exact cA op_lt_str ⟨_,_,qx,qy,po.at rh _ rfl (.of rfl)⟩
 ·split at po
  ·rename_i i j e1 e2
   split at po
   ·rename_i i' j' e3 e4
    obtain ⟨a,vs,rfl,s1,z1⟩ := fO qx e1
    obtain ⟨b,us,rfl,s2,z2⟩ := fO qy e2
    rw [aAv e3 z1] at s1
    rw [aAv e4 z2] at s2
    exact cA (op_ltT hu) ⟨a,b,i',j',rfl,rfl,by rw [hK]; exact s1,by rw [hK]; exact s2,po.at rh _ rfl (.of rfl)⟩
   ·exact po.elim
  ·exact po.elim
theorem aJd : SO g X Wx (compareOp .LtE) leW := by
 intro x y h σ H μ vx vy Q rh qx qy po
 unfold leW at po
 split at po
 ·exact cA op_le ⟨_,_,qx,qy,po.at rh _ rfl (.of rfl)⟩
 ·exact cA op_le_str ⟨_,_,qx,qy,po.at rh _ rfl (.of rfl)⟩
 ·exact po.elim
theorem aJa : SO g X Wx (compareOp .Gt) gtW := by
 intro x y h σ H μ vx vy Q rh qx qy po
 unfold gtW at po
 split at po
 ·exact cA op_gt ⟨_,_,qx,qy,po.at rh _ rfl (.of rfl)⟩
 ·exact cA op_gt_str ⟨_,_,qx,qy,po.at rh _ rfl (.of rfl)⟩
 ·exact po.elim
theorem aI9 : SO g X Wx (compareOp .GtE) geW := by
 intro x y h σ H μ vx vy Q rh qx qy po
 unfold geW at po
 split at po
 ·exact cA op_ge ⟨_,_,qx,qy,po.at rh _ rfl (.of rfl)⟩
 ·exact cA op_ge_str ⟨_,_,qx,qy,po.at rh _ rfl (.of rfl)⟩
 ·exact po.elim
theorem aDE {x : D} {v : V} (q : RV g μ H x v) : decide (v = .non) = x.isNon := by
 cases x <;> first
  | (rw [show v = _ from q]; rfl)
  | (obtain ⟨a,vs,rfl,_⟩ := q; rfl)
  | (obtain ⟨a,_,rfl⟩ := q; rfl)
  | (obtain ⟨a,C,d,vs,rfl,_⟩ := q; rfl)
theorem aJc : SO g X Wx (compareOp .Is) isW := by
 intro x y h σ H μ vx vy Q rh qx qy po
 unfold isW at po
 split at po
 ·exact cA op_is_bl ⟨_,_,qx,qy,po.at rh _ rfl (.of rfl)⟩
 ·refine cA op_isN ⟨qy, ?_⟩
  rw [aDE qx]
  exact po.at rh _ rfl (.of rfl)
 ·exact po.elim
end
end PV
end
section
namespace PV
open PySem PySem.Spec PyProof.Rows L2
def yF (a b : M Bool) : M Bool := fun σ h => (a σ h).bind fun x h1 => if x = true then b σ h1 else .ok false h1
def hE (a b : M Bool) : M Bool := fun σ h => (a σ h).bind fun x h1 => if x = true then .ok true h1 else b σ h1
def fL (a : M Bool) : M Bool := fun σ h => (a σ h).bind fun x h1 => .ok (!x) h1
def sO (a b : M D) : M D := fun σ h => (a σ h).bind fun x h1 => match x with
 | .bl true => b σ h1
 | .bl false => .ok (.bl false) h1
 | _ => .bad
def aKk (a b : M D) : M D := fun σ h => (a σ h).bind fun x h1 => match x with
 | .bl true => .ok (.bl true) h1
 | .bl false => b σ h1
 | _ => .bad
def mIf (c : M Bool) (a b : M D) : M D := fun σ h => (c σ h).bind fun x h1 => if x = true then a σ h1 else b σ h1
section
variable {g : Gx} {X : Cx} {Wx : WX} {a b c : Expr} {rest : List Expr} {ma mb : M D} {ta tb : M Bool} {pos : Pos}
theorem aF5 (ha : ST g X Wx a ta) : SW g X Wx (.BoolOp .And [a] pos) ta := fun σw h σ H μ Q rs rh po => aBX (pw_and1 qH) (ha σw h σ H μ Q rs rh po)
theorem aHO (ha : ST g X Wx a ta) : SW g X Wx (.BoolOp .Or [a] pos) ta := fun σw h σ H μ Q rs rh po => aBX (pw_or1 qH) (ha σw h σ H μ Q rs rh po)
theorem aHM (ha : ST g X Wx a ta) (hb : SW g X Wx (.BoolOp .And (b :: rest) pos) tb) : SW g X Wx (.BoolOp .And (a :: b :: rest) pos) (yF ta tb) := by
 intro σw h σ H μ Q rs rh po
 refine aBX (pw_and qH aEQ) (ha σw h σ H μ _ rs rh (po.bind.imp fun x h1 μ1 H1 x1 r1 p1 => ?_))
 cases x with
 | true => exact hb σw h1 σ H1 μ1 Q (rs.ext rh.trk x1) r1 p1
 | false => exact p1.at r1
theorem aJk (ha : ST g X Wx a ta) (hb : SW g X Wx (.BoolOp .Or (b :: rest) pos) tb) : SW g X Wx (.BoolOp .Or (a :: b :: rest) pos) (hE ta tb) := by
 intro σw h σ H μ Q rs rh po
 refine aBX (pw_or qH aEQ) (ha σw h σ H μ _ rs rh (po.bind.imp fun x h1 μ1 H1 x1 r1 p1 => ?_))
 cases x with
 | false => exact hb σw h1 σ H1 μ1 Q (rs.ext rh.trk x1) r1 p1
 | true => exact p1.at r1
theorem aHK (ha : ST g X Wx a ta) : ST g X Wx (.UnaryOp .Not a pos) (fL ta) := by
 intro σw h σ H μ Q rs rh po
 refine aBW (pt_not qH) (ha σw h σ H μ _ rs rh (po.bind.imp fun x h1 μ1 H1 x1 r1 p1 => ?_))
 exact p1.at r1
theorem aHs {op} (ha : SE g X Wx a ma) : SE g X Wx (.BoolOp op [a] pos) ma := fun σw h σ H μ Q rs rh po => eM (pe_one aX) (ha σw h σ H μ Q rs rh po)
theorem aHk (ha : SE g X Wx a ma) (hb : SE g X Wx (.BoolOp .And (b :: rest) pos) mb) : SE g X Wx (.BoolOp .And (a :: b :: rest) pos) (sO ma mb) := by
 intro σw h σ H μ Q rs rh po
 refine eM (pe_and aX aX) (ha σw h σ H μ _ rs rh (po.bind.imp fun x h1 μ1 H1 x1 r1 p1 v qv fv => ?_))
 split at p1
 ·exact ⟨true,qv,hb σw h1 σ H1 μ1 Q (rs.ext rh.trk x1) r1 (p1.imp fun w h2 μ2 H2 x2 r2 q2 v2 qv2 fv2 => q2 v2 qv2 (fv2.back x1))⟩
 ·exact ⟨false,qv,p1.at r1 _ rfl (.of rfl)⟩
 ·exact p1.elim
theorem aHo (hc : ST g X Wx c ta) (ha : SE g X Wx a ma) (hb : SE g X Wx b mb) : SE g X Wx (.IfExp c a b pos) (mIf ta ma mb) := by
 intro σw h σ H μ Q rs rh po
 refine eM (pe_ifExp qH aX aX) (hc σw h σ H μ _ rs rh (po.bind.imp fun x h1 μ1 H1 x1 r1 p1 => ?_))
 cases x with
 | true => exact ha σw h1 σ H1 μ1 Q (rs.ext rh.trk x1) r1 (p1.imp fun w h2 μ2 H2 x2 r2 q2 v2 qv2 fv2 => q2 v2 qv2 (fv2.back x1))
 | false => exact hb σw h1 σ H1 μ1 Q (rs.ext rh.trk x1) r1 (p1.imp fun w h2 μ2 H2 x2 r2 q2 v2 qv2 fv2 => q2 v2 qv2 (fv2.back x1))
theorem aHL (ha : SE g X Wx a ma) (he : ∀ whole,isTrue a X.env whole = (do let v <- whole; standAt a.pos; holding [v] (truthy v))) : ST g X Wx a (mB ma) := fun σw h σ H μ Q rs rh po =>
 aBW (pt_val aX he) (ha σw h σ H μ _ rs rh (xC po))
end
def aB : List (M D) -> M (List D)
 | [] => fun _ h => .ok [] h
 | m :: ms => fun σ h => (m σ h).bind fun w h1 => (aB ms σ (aQ w h1).2).bind fun ws h2 => .ok ((aQ w h1).1 :: ws) h2
def bF (m : M (List D)) : M D := fun σ h => (m σ h).bind fun ws h1 => if ws.length <= sizeLine then .ok (.tup ws) h1 else .bad
def fU (m : M (List D)) : M D := fun σ h => (m σ h).bind fun ws h1 => if ws.length <= sizeLine then .ok (.tl ws) h1 else .bad
section
variable {g : Gx} {X : Cx} {Wx : WX} {a b e : Expr} {es : List Expr} {ma mb : M D} {ms : List (M D)} {pos : Pos}
theorem aHb : SA g X Wx [] (aB []) := fun σw h σ H μ Q rs rh po => aGP pa_nil (po.at rh [] rfl)
theorem aFM (ha : SE g X Wx e ma) (hr : SA g X Wx es (aB ms)) (hs : starEach (e :: es) X.env = (false,eval e X.env) :: starEach es X.env) : SA g X Wx (e :: es) (aB (ma :: ms)) := by
 intro σw h σ H μ Q rs rh po
 refine aGP (pa_cons aX yH hs) (ha σw h σ H μ _ rs rh (po.bind2.imp fun w h1 μ1 H1 x1 r1 p1 v qv fv => ?_))
 obtain ⟨μ1',x1',r1',q1',_⟩ := jI r1 qv fv x1
 refine hr σw _ σ H1 μ1' _ (rs.ext rh.trk x1') r1' ((p1 μ1' H1 x1').bind.imp fun ws h2 μ2 H2 x2 r2 p2 vs qs => ?_)
 exact p2.at r2 (v :: vs) ⟨v,vs,rfl,fE,q1'.ext r1'.trk x2,qs⟩
variable {m : M (List D)}
theorem aHu {x1} (ha : SA g X Wx es m) : SE g X Wx (.Tuple es x1 pos) (bF m) := by
 intro σw h σ H μ Q rs rh po
 refine eM (pe_tup yH) (ha σw h σ H μ _ rs rh (po.bind.imp fun ws h1 μ1 H1 x1 r1 p1 vs qs => ?_))
 split at p1
 ·rename_i hl
  have l := qs.length
  exact ⟨by omega,fun p np => p1 μ1 _ (.new r1.trk np) (r1.new np) _ (.newT r1 np qs) (.of rfl)⟩
 ·exact p1.elim
theorem aHq (ha : SA g X Wx es m) : SE g X Wx (.List es pos) (fU m) := by
 intro σw h σ H μ Q rs rh po
 refine eM (pe_lst yH) (ha σw h σ H μ _ rs rh (po.bind.imp fun ws h1 μ1 H1 x1 r1 p1 vs qs => ?_))
 split at p1
 ·rename_i hl
  have l := qs.length
  refine ⟨by omega,fun p np => p1 μ1 _ (.new r1.trk np) (r1.new np) _ (.newL r1 np qs) (Fr.back x1 fun c ec => ?_)⟩
  cases ec
  exact np
 ·exact p1.elim
end
def ixW (x y : D) (h : Hh) : R D := match y with
 | .int i => match asL h x with
  | some ws => match atI ws i with
   | some w => .ok w h
   | none => .bad
  | none => match asT x with
   | some ws => match atI ws i with
    | some w => .ok w h
    | none => .bad
   | none => match x with
    | .str z => if z.length <= sizeLine then match atI z.cps.toList i with
      | some c => .ok (.str ⟨#[c]⟩) h
      | none => .bad
     else .bad
    | x => match jW h x y with
     | some (some w) => .ok w h
     | _ => .bad
 | y => match jW h x y with
  | some (some w) => .ok w h
  | _ => .bad
/-- a dict's item as a subscript by values -/
theorem aFj {X : Cx} (hu : X.A.units + 1 < cLine) : IxR X (fun x y H Q => ∃ a v,x = .ref a /\ DGet H a y (some v) /\ Q v H) := by
 intro value slice pins s σ H x y v u Q I rx ry h hs
 obtain ⟨a,z,rfl,gt,q⟩ := h
 cases rx
 have hT := dict_typeIs I gt
 have h₂ : wpAny (model X.prog X.w) X.A (getItem (.ref a) u) (EP X pins σ Q) X.xe s := d_getItem hu I gt ry fun w' s3 I3 rw' => ⟨z,H,I3,rw',q⟩
 unfold subscriptTail
 refine wpAny_bind ?_
 rw [getitemInPython_of_ne hT.not_modules]
 refine wpAny_bind (wpAny_specialOf hT PySem.F.slot_dict_getitem.lookup ?_)
 have fin : wpAny (model X.prog X.w) X.A (subscripted slice false (.ref a) u) (fun r s₃ => wpAny (model X.prog X.w) X.A (letTemporaryGo value (.ref a) r >>= fun _ => pure r) (EP X pins σ Q) X.xe s₃) X.xe s := by
  rw [hs]
  exact wpAny_operating (wpAny_mono h₂ (fun r s₃ h₃ => wpAny_bind (wpAny_letTemporaryGo (wpAny_pure h₃))) fun _ _ x => x)
 first
  | exact wpAny_pure (wpAny_bind fin)
  | exact wpAny_bind (wpAny_pure (wpAny_bind fin))
  | exact wpAny_bind fin
def aBL (X : Cx) : R2 := fun x y H Q => ∀ value slice pins s σ v u,Inv X pins σ H s -> RelV x v -> RelV y u -> subscripted slice false v u = operate [v,u] (getItem v u) -> wpAny (model X.prog X.w) X.A (subscriptTail value slice v u) (EP X pins σ Q) X.xe s
theorem aIn {X : Cx} : IxR X (aBL X) := fun value slice pins s σ H x y v u Q I rx ry h hs => h value slice pins s σ v u I rx ry hs
theorem aBK {X : Cx} {r : R2} (p : IxR X r) {x y : V} {H : Hp} {Q : VK} (h : r x y H Q) : aBL X x y H Q := fun value slice pins s σ v u I rx ry hs => p value slice pins s σ H x y v u Q I rx ry h hs
section
variable {g : Gx} {X : Cx} {Wx : WX} {a b : Expr} {ma mb : M D} {pos : Pos} {μ : List Addr} {H : Hp}
theorem aCh {ws : List D} {vs : List V} {i : Int} {w : D} (r : RVs g μ H ws vs) (e : atI ws i = some w) : ∃ v,atI vs i = some v /\ w.isTl = false /\ RV g μ H w v := by
 unfold atI at e ⊢
 rw [r.length]
 cases q : ixN ws.length i with
 | none => rw [q] at e; cases e
 | some j =>
  rw [q] at e
  exact r.get e
theorem aGz (hK : X.K = g.K) (hu : X.A.units + 1 < cLine) : ∀ (x y : D) (h : Hh) (σ : L2.St) (H : Hp) (μ : List Addr) (vx vy : V) (Q : VK),
  RH g μ h H -> RV g μ H x vx -> RV g μ H y vy -> Po g Wx σ μ H (ixW x y h) (fun w h' μ' H' => ∀ v,RV g μ' H' w v -> Fr H w v -> Q v H') -> aBL X vx vy H Q := by
 intro x y h σ H μ vx vy Q rh qx qy po
 have dcase : ∀ {o : Option (Option D)},o = jW h x y -> Po g Wx σ μ H (match o with | some (some w) => R.ok w h | _ => .bad) (fun w h' μ' H' => ∀ v,RV g μ' H' w v -> Fr H w v -> Q v H') -> aBL X vx vy H Q := by
  intro o eo po
  split at po
  ·rename_i w
   obtain ⟨a,r,e1,_,e2,v,rfl,nt,q⟩ := aAY rh qx qy eo.symm
   exact aBK (aFj hu) ⟨a,v,e1,e2,po.at rh v q (.of nt)⟩
  ·exact po.elim
 unfold ixW at po
 split at po
 ·rename_i i
  split at po
  ·rename_i ws ew
   split at po
   ·rename_i w e
    obtain ⟨a,vs,rfl,s1,z⟩ := iL rh qx ew
    obtain ⟨v,ev,nt,qv⟩ := aCh z e
    exact aBK ix_list ⟨a,vs,i,v,rfl,qy,by rw [hK]; exact s1,ev,po.at rh v qv (.of nt)⟩
   ·exact po.elim
  ·split at po
   ·rename_i ws ew
    split at po
    ·rename_i w e
     obtain ⟨a,vs,rfl,s1,z⟩ := fO qx ew
     obtain ⟨v,ev,nt,qv⟩ := aCh z e
     exact aBK ix_tup ⟨a,vs,i,v,rfl,qy,by rw [hK]; exact s1,ev,po.at rh v qv (.of nt)⟩
    ·exact po.elim
   ·split at po
    ·rename_i z _ _
     split at po
     ·rename_i hl
      split at po
      ·rename_i c e
       exact aBK ix_str ⟨z,i,c,qx,qy,hl,e,po.at rh _ rfl (.of rfl)⟩
      ·exact po.elim
     ·exact po.elim
    ·exact dcase rfl po
 ·exact dcase rfl po
theorem aIY (hK : X.K = g.K) (hu : X.A.units + 1 < cLine) (ha : SE g X Wx a ma) (hb : SE g X Wx b mb) (hs : PlainIx b) : SE g X Wx (.Subscript a b pos) (mOp ixW ma mb) := by
 intro σw h σ H μ Q rs rh po
 refine eM (pe_ix aIn aX aX hs) ?_
 refine ha σw h σ H μ _ rs rh (po.bind.imp fun x h1 μ1 H1 x1 r1 p1 vx qx fx => ?_)
 refine hb σw h1 σ H1 μ1 _ (rs.ext rh.trk x1) r1 (p1.bind.imp fun y h2 μ2 H2 x2 r2 p2 vy qy fy => ?_)
 exact aGz hK hu x y h2 σ H2 μ2 vx vy Q r2 (qx.ext r1.trk x2) qy (p2.imp fun w h3 μ3 H3 x3 r3 q3 v qv fv => q3 v qv (fv.back (x1.trans x2)))
end
def oJ (xs : List D) (lo hi : Option Int) : List D := (xs.drop (HT.sIx xs.length 0 lo)).take (HT.sIx xs.length xs.length hi - HT.sIx xs.length 0 lo)
def slW (x : D) (lo hi : Option Int) (h : Hh) : R D := match asL h x with
 | some ws => .ok (.tl (oJ ws lo hi)) h
 | none => match asT x with
  | some ws => .ok (if HT.sIx ws.length 0 lo = 0 /\ HT.sIx ws.length ws.length hi = ws.length then x else .tup (oJ ws lo hi)) h
  | none => match x with
   | .str z => if z.length <= sizeLine then .ok (.str (cutS z lo hi)) h else .bad
   | _ => .bad
def nY : Option (M D) -> M (Option Int)
 | none => fun _ h => .ok none h
 | some m => fun σ h => (m σ h).bind fun x h1 => match x with
  | .int i => .ok (some i) h1
  | _ => .bad
def mSl (a : M D) (lo hi : Option (M D)) : M D := fun σ h => (a σ h).bind fun x h1 => (nY lo σ h1).bind fun l h2 => (nY hi σ h2).bind fun u h3 => slW x l u h3
def aEs (X : Cx) (e : Option Expr) : TO := fun σ H Q => ∀ pins s,Inv X pins σ H s -> wpAny (model X.prog X.w) X.A (evalPart e X.env) (fun u s' => ∃ o H',Inv X pins σ H' s' /\ IsPart u o /\ Q o H') X.xe s
theorem aEN {X : Cx} {e : Option Expr} : PO X e (aEs X e) := ⟨fun pins s σ H Q I h => h pins s I⟩
theorem aGR {X : Cx} {e : Option Expr} {t : TO} (p : PO X e t) {σ : L2.St} {H : Hp} {Q : Option Int -> Hp -> Prop} (h : t σ H Q) : aEs X e σ H Q := fun pins s I => p.run pins s σ H Q I h
def aHx (X : Cx) : V -> Option Int -> Option Int -> Hp -> VK -> Prop := fun x lo hi H Q => ∀ pins s σ v vl vu sl,Inv X pins σ H s -> RelV x v -> s.heap.IsSliceOf sl vl vu .none -> IsPart vl lo -> IsPart vu hi ->
  ∃ T id,typeLookup (.type T) "__getitem__" = pure (some (.builtin id)) /\ s.TypeIs v T /\ wpAny (model X.prog X.w) X.A (getItem v (.ref sl)) (EP X pins σ Q) X.xe s
theorem aI7 {X : Cx} : L2.SlR X (aHx X) := fun pins s σ H x v vl vu lo hi sl Q I rx hs pl pu h => h pins s σ v vl vu sl I rx hs pl pu
theorem aEf {X : Cx} {r : V -> Option Int -> Option Int -> Hp -> VK -> Prop} (p : L2.SlR X r) {x : V} {lo hi : Option Int} {H : Hp} {Q : VK} (h : r x lo hi H Q) : aHx X x lo hi H Q := fun pins s σ v vl vu sl I rx hs pl pu => p pins s σ H x v vl vu lo hi sl Q I rx hs pl pu h
section
variable {g : Gx} {X : Cx} {Wx : WX} {a : Expr} {lo hi : Option Expr} {ma : M D} {ml mh : Option (M D)} {pos p2 : Pos} {μ : List Addr} {H : Hp}
theorem aCl {ws : List D} {vs : List V} {lo hi : Option Int} (r : RVs g μ H ws vs) : RVs g μ H (oJ ws lo hi) (cutV vs lo hi) := by
 unfold oJ cutV
 rw [r.length]
 exact (r.drop _).take _
def SP' (g : Gx) (X : Cx) (Wx : WX) (e : Option Expr) (m : Option (M D)) : Prop := ∀ (σw : Sg) (h : Hh) (σ : L2.St) (H : Hp) (μ : List Addr) (Q : Option Int -> Hp -> Prop),RS g μ H σw σ -> RH g μ h H ->
 Po g Wx σ μ H (nY m σw h) (fun o h' μ' H' => Q o H') -> aEs X e σ H Q
theorem aFV : SP' g X Wx none none := fun σw h σ H μ Q rs rh po => aGR po_none (po.at rh)
theorem aFW (ha : SE g X Wx a ma) : SP' g X Wx (some a) (some ma) := by
 intro σw h σ H μ Q rs rh po
 refine aGR (po_some aX) (ha σw h σ H μ _ rs rh (Po.bind (f := fun x h1 => match x with | .int i => .ok (some i) h1 | _ => .bad) po |>.imp fun x h1 μ1 H1 x1 r1 p1 v qv fv => ?_))
 split at p1
 ·exact ⟨_,qv,p1.at r1⟩
 ·exact p1.elim
theorem aI2 (hK : X.K = g.K) (ha : SE g X Wx a ma) (hl : SP' g X Wx lo ml) (hh : SP' g X Wx hi mh) : SE g X Wx (.Subscript a (.Slice lo hi none p2) pos) (mSl ma ml mh) := by
 intro σw h σ H μ Q rs rh po
 refine eM (pe_slice aI7 aX aEN aEN) ?_
 refine ha σw h σ H μ _ rs rh (po.bind.imp fun x h1 μ1 H1 x1 r1 p1 vx qx fx => ?_)
 refine hl σw h1 σ H1 μ1 _ (rs.ext rh.trk x1) r1 (p1.bind.imp fun l h2 μ2 H2 x2 r2 p2 => ?_)
 refine hh σw h2 σ H2 μ2 _ (rs.ext rh.trk (x1.trans x2)) r2 (p2.bind.imp fun u h3 μ3 H3 x3 r3 p3 => ?_)
 have qx3 := (qx.ext r1.trk x2).ext r2.trk x3
 have x03 := (x1.trans x2).trans x3
 unfold slW at p3
 split at p3
 ·rename_i ws ew
  obtain ⟨a,vs,rfl,s1,z⟩ := iL r3 qx3 ew
  refine aEf sl_list ⟨a,vs,rfl,by rw [hK]; exact s1,fun p np => ?_⟩
  refine p3 μ3 _ (.new r3.trk np) (r3.new np) _ (.newL r3 np (aCl z)) (Fr.back x03 fun c ec => ?_)
  cases ec
  exact np
 ·split at p3
  ·rename_i ws ew
   obtain ⟨a,vs,rfl,s1,z⟩ := fO qx3 ew
   have l := z.length
   refine aEf sl_tupA ⟨a,vs,rfl,by rw [hK]; exact s1,fun hc => ?_,fun hc p np => ?_⟩
   ·rw [l] at hc
    rw [if_pos hc] at p3
    exact p3.at r3 _ qx3 (.of (by cases x <;> first | rfl | cases ew))
   ·rw [l] at hc
    rw [if_neg hc] at p3
    exact p3 μ3 _ (.new r3.trk np) (r3.new np) _ (.newT r3 np (aCl z)) (.of rfl)
  ·split at p3
   ·split at p3
    ·rename_i hl
     exact aEf sl_str ⟨_,qx3,hl,p3.at r3 _ rfl (.of rfl)⟩
    ·exact p3.elim
   ·exact p3.elim
end
end PV
end
section
namespace PV
open PySem PySem.Spec PyProof.Rows L2
def aBE (X : Cx) (f : Value) : List V -> Hp -> VK -> Prop := fun xs H Q => ∀ pins s σ us,Inv X pins σ H s -> Vals xs us -> wpAny (model X.prog X.w) X.A (call f us) (EP X pins σ Q) X.xe s
theorem aEz {X : Cx} {f : Value} : CallR X f (aBE X f) := fun pins s σ H xs us Q I r h => h pins s σ us I r
theorem fQ {X : Cx} {f : Value} {r : List V -> Hp -> VK -> Prop} (p : CallR X f r) {xs : List V} {H : Hp} {Q : VK} (h : r xs H Q) : aBE X f xs H Q := fun pins s σ us I rv => p pins s σ H xs us Q I rv h
def SC1 (g : Gx) (X : Cx) (Wx : WX) (f : Value) (m : D -> Hh -> R D) : Prop := ∀ (x : D) (h : Hh) (σ : L2.St) (H : Hp) (μ : List Addr) (vx : V) (Q : VK),RH g μ h H -> RV g μ H x vx ->
 Po g Wx σ μ H (m x h) (fun w h' μ' H' => ∀ v,RV g μ' H' w v -> Fr H w v -> Q v H') -> aBE X f [vx] H Q
def SC2 (g : Gx) (X : Cx) (Wx : WX) (f : Value) (m : D -> D -> Hh -> R D) : Prop := ∀ (x y : D) (h : Hh) (σ : L2.St) (H : Hp) (μ : List Addr) (vx vy : V) (Q : VK),RH g μ h H -> RV g μ H x vx -> RV g μ H y vy ->
 Po g Wx σ μ H (m x y h) (fun w h' μ' H' => ∀ v,RV g μ' H' w v -> Fr H w v -> Q v H') -> aBE X f [vx,vy] H Q
def mF1 (f : D -> Hh -> R D) (a : M D) : M D := fun σ h => (a σ h).bind f
/-- the built-in is a function or a type -/
def oP : Value -> Bool
 | .builtin _ => true
 | .type _ => true
 | _ => false
section
variable {g : Gx} {X : Cx} {Wx : WX} {a b : Expr} {ma mb : M D} {f : D -> Hh -> R D} {f2 : D -> D -> Hh -> R D} {x : Str} {p pos : Pos} {bv : Value}
theorem zP {e : Expr} {es : List Expr} {t : TA} {r : List V -> Hp -> VK -> Prop} (hb : oP bv = true) (hc : CallR X bv r) (hg : Gl X x) (hm : X.mg x = none) (hv : bootBuiltins x = some bv) (ha : PA X (e :: es) t) (hn : x ≠ "__name__") (hdb : (x == ("__debug__" : Str)) = false)
  (he : starEach (e :: es) X.env = (false,eval e X.env) :: starEach es X.env) (hpl : (backTo pos (starEach es X.env)).any (·.1) = false) : PE X (.Call (.Name x p) (e :: es) [] pos) (tCB r t) := by
 cases bv <;> first | cases hb | skip
 ·exact pe_callTy hc hg hm hv ha hn hdb he hpl
 ·exact pe_callB hc hg hm hv ha hn hdb he hpl
theorem aEU (sc : SC1 g X Wx bv f) (hb : oP bv = true) (hg : Gl X x) (hm : X.mg x = none) (hv : bootBuiltins x = some bv) (hn : x ≠ "__name__") (hdb : (x == ("__debug__" : Str)) = false)
  (he : starEach [a] X.env = [(false,eval a X.env)]) (ha : SE g X Wx a ma) : SE g X Wx (.Call (.Name x p) [a] [] pos) (mF1 f ma) := by
 intro σw h σ H μ Q rs rh po
 refine eM (zP hb aEz hg hm hv (pa_cons aX pa_nil he) hn hdb he rfl) ?_
 refine ha σw h σ H μ _ rs rh (po.bind.imp fun x h1 μ1 H1 x1 r1 p1 vx qx fx => ?_)
 exact sc x h1 σ H1 μ1 vx Q r1 qx (p1.imp fun w h3 μ3 H3 x3 r3 q3 v qv fv => q3 v qv (fv.back x1))
theorem aIV (sc : SC2 g X Wx bv f2) (hb : oP bv = true) (hg : Gl X x) (hm : X.mg x = none) (hv : bootBuiltins x = some bv) (hn : x ≠ "__name__") (hdb : (x == ("__debug__" : Str)) = false)
  (he : starEach [a,b] X.env = [(false,eval a X.env),(false,eval b X.env)]) (he2 : starEach [b] X.env = [(false,eval b X.env)]) (ha : SE g X Wx a ma) (hb' : SE g X Wx b mb) : SE g X Wx (.Call (.Name x p) [a,b] [] pos) (mOp f2 ma mb) := by
 intro σw h σ H μ Q rs rh po
 refine eM (zP hb aEz hg hm hv (pa_cons aX (pa_cons aX pa_nil he2) (by rw [he,he2])) hn hdb (by rw [he,he2]) (by rw [he2]; rfl)) ?_
 refine ha σw h σ H μ _ rs rh (po.bind.imp fun x h1 μ1 H1 x1 r1 p1 vx qx fx => ?_)
 refine hb' σw h1 σ H1 μ1 _ (rs.ext rh.trk x1) r1 (p1.bind.imp fun y h2 μ2 H2 x2 r2 p2 vy qy fy => ?_)
 exact sc x y h2 σ H2 μ2 vx vy Q r2 (qx.ext r1.trk x2) qy (p2.imp fun w h3 μ3 H3 x3 r3 q3 v qv fv => q3 v qv (fv.back (x1.trans x2)))
end
def cG (x : D) (h : Hh) : R D := match asL h x with
 | some ws => .ok (.int ws.length) h
 | none => match asT x with
  | some ws => .ok (.int ws.length) h
  | none => match x with
   | .str z => if z.length <= sizeLine then .ok (.int z.length) h else .bad
   | .ref i => match h[i]? with
    | some (.dK kvs) => .ok (.int kvs.length) h
    | some (.dT kvs) => .ok (.int kvs.length) h
    | _ => .bad
   | _ => .bad
def tL (x : D) (h : Hh) : R D := match x with
 | .int i => .ok (.int (if i < 0 then -i else i)) h
 | _ => .bad
def rE (x : D) (h : Hh) : R D := match x with
 | .int i => .ok (.int i) h
 | .bl k => .ok (.int (if k then 1 else 0)) h
 | .str a => match PySem.intText? a with
  | some n => if a.length <= 640 then .ok (.int n) h else .bad
  | none => .bad
 | _ => .bad
def fF (x : D) (h : Hh) : R D := match asL h x with
 | some ws => .ok (.tup ws) h
 | none => match asT x with
  | some _ => .ok x h
  | none => .bad
def fJ (x : D) (h : Hh) : R D := match asL h x with
 | some ws => .ok (.tl ws) h
 | none => match asT x with
  | some ws => .ok (.tl ws) h
  | none => match x with
   | .str z => if z.cps.size <= sizeLine then .ok (.tl (z.cps.toList.map fun c => .str ⟨#[c]⟩)) h else .bad
   | _ => .bad
def toB : D -> Option Bool
 | .bl b => some b
 | _ => none
def kM (x : D) (h : Hh) : R D := match asL h x with
 | some ws => match aJ toB ws with
  | some bs => .ok (.bl (bs.all id)) h
  | none => .bad
 | none => .bad
def tM (x : D) (h : Hh) : R D := match asL h x with
 | some ws => match aJ toB ws with
  | some bs => .ok (.bl (bs.any id)) h
  | none => .bad
 | none => .bad
def uY (x : D) (h : Hh) : R D := match toP h bD x with
 | some d => if d.showable && decide (d.shown.length <= sizeLine) && SeqAt.shaped d then .ok (.str d.shown) h else .bad
 | none => .bad
def tX (x y : D) (h : Hh) : R D := match x,y with
 | .int i, .int j => .ok (.int (if j > i then j else i)) h
 | _,_ => .bad
def tZ (x y : D) (h : Hh) : R D := match x,y with
 | .int i, .int j => .ok (.int (if j < i then j else i)) h
 | _,_ => .bad
/-- the built-in type of a value -/
def tyD (h : Hh) : D -> Option String
 | .non => some "NoneType"
 | .bl _ => some "bool"
 | .int _ => some "int"
 | .str _ => some "str"
 | .tup _ => some "tuple"
 | .kt _ => some "tuple"
 | .tl _ => some "list"
 | .fl _ => some "list"
 | .ref i => match h[i]? with
  | some (.lst _) => some "list"
  | some (.dK _) => some "dict"
  | some (.dT _) => some "dict"
  | _ => none
 | _ => none
def sL (h : Hh) (x : D) (n : String) : Option Bool := match tyD h x with
 | some t => kitB t n
 | none => none
section
variable {g : Gx} {X : Cx} {Wx : WX}
theorem aHh (hK : X.K = g.K) : SC1 g X Wx (.builtin "len") cG := by
 intro x h σ H μ vx Q rh qx po
 unfold cG at po
 split at po
 ·rename_i ws ew
  obtain ⟨a,vs,rfl,s1,z⟩ := iL rh qx ew
  refine fQ call_len_seq ⟨a,vs,rfl, .inl (by rw [hK]; exact s1), ?_⟩
  rw [z.length]
  exact po.at rh _ rfl (.of rfl)
 ·split at po
  ·rename_i ws ew
   obtain ⟨a,vs,rfl,s1,z⟩ := fO qx ew
   refine fQ call_len_seq ⟨a,vs,rfl, .inr (by rw [hK]; exact s1), ?_⟩
   rw [z.length]
   exact po.at rh _ rfl (.of rfl)
  ·split at po
   ·split at po
    ·rename_i hl
     rw [show vx = .str _ from qx]
     exact fQ call_len_str ⟨_,rfl,hl,po.at rh _ rfl (.of rfl)⟩
    ·exact po.elim
   ·rename_i i _ _
    obtain ⟨a,ea,rfl⟩ := qx
    split at po
    ·rename_i kvs e3
     obtain ⟨b,eb,vs,hb,z⟩ := rh.cell i _ e3
     rw [ea] at eb; cases eb
     refine fQ call_lenD ⟨a,vs,rfl,hb, ?_⟩
     have el : vs.length = kvs.length := by
      clear po hb e3 ea
      induction kvs generalizing vs with
      | nil => rw [show vs = [] from z]; rfl
      | cons p kvs ih => obtain ⟨v,rr,rfl,_,_,zz⟩ := z; simp [ih rr zz]
     rw [el]
     exact po.at rh _ rfl (.of rfl)
    ·rename_i kvs e3
     obtain ⟨b,eb,vs,hb,z⟩ := rh.cell i _ e3
     rw [ea] at eb; cases eb
     refine fQ call_len_dT ⟨a,vs,rfl,hb, ?_⟩
     have el : vs.length = kvs.length := by
      clear po hb e3 ea
      induction kvs generalizing vs with
      | nil => rw [show vs = [] from z]; rfl
      | cons p kvs ih => obtain ⟨v,rr,rfl,_,_,zz⟩ := z; simp [ih rr zz]
     rw [el]
     exact po.at rh _ rfl (.of rfl)
    ·exact po.elim
   ·exact po.elim
theorem aHc : SC1 g X Wx (.builtin "abs") tL := by
 intro x h σ H μ vx Q rh qx po
 unfold tL at po
 split at po
 ·rw [show vx = .int _ from qx]
  exact fQ call_abs ⟨_,rfl,po.at rh _ rfl (.of rfl)⟩
 ·exact po.elim
theorem aHf : SC1 g X Wx (.type "int") rE := by
 intro x h σ H μ vx Q rh qx po
 unfold rE at po
 split at po
 ·rw [show vx = .int _ from qx]
  exact fQ call_int1 (.inl ⟨_,rfl,po.at rh _ rfl (.of rfl)⟩)
 ·rw [show vx = .bl _ from qx]
  exact fQ call_int1 (.inr ⟨_,rfl,po.at rh _ rfl (.of rfl)⟩)
 ·split at po
  ·rename_i n en
   split at po
   ·rename_i hl
    rw [show vx = .str _ from qx]
    exact fQ call_int_str ⟨_,n,rfl,en,hl,po.at rh _ rfl (.of rfl)⟩
   ·exact po.elim
  ·exact po.elim
 ·exact po.elim
theorem aEb (hK : X.K = g.K) : SC1 g X Wx (.type "tuple") fF := by
 intro x h σ H μ vx Q rh qx po
 unfold fF at po
 split at po
 ·rename_i ws ew
  obtain ⟨a,vs,rfl,s1,z⟩ := iL rh qx ew
  exact fQ call_tuple_of ⟨a,vs,rfl, .inl ⟨by rw [hK]; exact s1,fun p np => po μ _ (.new rh.trk np) (rh.new np) _ (.newT rh np z) (.of rfl)⟩⟩
 ·split at po
  ·rename_i ws ew
   obtain ⟨a,vs,e1,s1,z⟩ := fO qx ew
   subst e1
   exact fQ call_tuple_of ⟨a,vs,rfl, .inr ⟨by rw [hK]; exact s1,po.at rh _ qx (.of (by cases x <;> first | rfl | cases ew))⟩⟩
  ·exact po.elim
theorem aC5 {x : Str} {acc : Array Value} {g' : Gx} {μ : List Addr} {H : Hp} : RVs g' μ H (x.cps.toList.map fun c => D.str ⟨#[c]⟩) (x.cps.toList.map fun c => V.str ⟨#[c]⟩) := by
 generalize x.cps.toList = l
 induction l with
 | nil => rfl
 | cons c l ih => exact ⟨_,_,rfl,rfl,rfl,ih⟩
theorem xT (hc : X.calm = true) : CallR X (.type "list") (fun xs H Q => ∃ z : Str,xs = [.str z] /\ z.cps.size <= sizeLine /\ ∀ p,H p = none -> Q (.ref p) (upd H p (.lst (z.cps.toList.map fun c => .str ⟨#[c]⟩)))) := by
 intro pins s σ H xs us Q I r h
 obtain ⟨z,rfl,hz,q⟩ := h
 obtain ⟨u,rfl,t,rfl⟩ := vals1 r
 refine PySem.call_list_str (hn := hz) (I.ok.hd hc) z t fun h' tk acc c' hk e' hi => ?_
 refine ⟨.ref s.heap.objs.size,upd H s.heap.objs.size (.lst (z.cps.toList.map fun c => .str ⟨#[c]⟩)),I.laid hk (Nat.le_refl _) (show ObjOk X.prog X.w _ _ _ (.lst _) from ⟨?_,acc.toList,c', ?_, ?_⟩),rfl,q _ (I.hok.fresh (Nat.le_refl _))⟩
 ·rw [List.length_map]; simpa using hz
 ·obtain ⟨h1,h2⟩ := hi
  refine vals_of_at (by simp [h1]) fun j x u hx hu => ?_
  obtain ⟨c,t',ec,rfl⟩ := h2 j u (by simpa using hu)
  have hx' : (z.cps.toList[j]?).map (fun c => V.str ⟨#[c]⟩) = some x := by simpa using hx
  have ec' : z.cps.toList[j]? = some c := by simpa using ec
  rw [ec'] at hx'
  cases hx'
  exact ⟨t',rfl⟩
 ·rw [Array.toArray_toList]; exact e'
theorem aFN (hK : X.K = g.K) (hc : X.calm = true) : SC1 g X Wx (.type "list") fJ := by
 intro x h σ H μ vx Q rh qx po
 unfold fJ at po
 have young : ∀ {ws : List D} {p : Addr},H p = none -> Fr H (.tl ws) (.ref p) := fun np c ec => by cases ec; exact np
 split at po
 ·rename_i ws ew
  obtain ⟨a,vs,rfl,s1,z⟩ := iL rh qx ew
  exact fQ call_list_of ⟨a,vs,rfl, .inl (by rw [hK]; exact s1),fun p np => po μ _ (.new rh.trk np) (rh.new np) _ (.newL rh np z) (young np)⟩
 ·split at po
  ·rename_i ws ew
   obtain ⟨a,vs,rfl,s1,z⟩ := fO qx ew
   exact fQ call_list_of ⟨a,vs,rfl, .inr (by rw [hK]; exact s1),fun p np => po μ _ (.new rh.trk np) (rh.new np) _ (.newL rh np z) (young np)⟩
  ·split at po
   ·split at po
    ·rename_i z _ _ hz
     rw [show vx = .str _ from qx]
     exact fQ (xT hc) ⟨z,rfl,hz,fun p np => po μ _ (.new rh.trk np) (rh.new np) _ (.newL rh np (aC5 (acc := #[]))) (young np)⟩
    ·exact po.elim
   ·exact po.elim
theorem aAs {μ : List Addr} {H : Hp} : ∀ {ws : List D} {bs : List Bool} {vs : List V},aJ toB ws = some bs -> RVs g μ H ws vs -> vs = bs.map V.bl
 | [],ks,vs,e,r => by
  unfold aJ at e; cases e
  exact r
 | w :: ws,ks,vs,e,r => by
  obtain ⟨v,rr,rfl,_,q,z⟩ := r
  unfold aJ at e
  split at e
  ·rename_i a b ea eb
   cases e
   unfold toB at ea
   split at ea
   ·cases ea
    rw [show v = .bl _ from q,aAs eb z]; rfl
   ·cases ea
  ·cases e
theorem aHd (hK : X.K = g.K) (hc : X.calm = true) : SC1 g X Wx (.builtin "all") kM := by
 intro x h σ H μ vx Q rh qx po
 unfold kM at po
 split at po
 ·rename_i ws ew
  obtain ⟨a,vs,rfl,s1,z⟩ := iL rh qx ew
  split at po
  ·rename_i bs eb
   rw [aAs eb z] at s1
   exact fQ (cr_all hc) ⟨a,bs,rfl,by rw [hK]; exact s1,po.at rh _ rfl (.of rfl)⟩
  ·exact po.elim
 ·exact po.elim
theorem aHe (hK : X.K = g.K) (hc : X.calm = true) : SC1 g X Wx (.builtin "any") tM := by
 intro x h σ H μ vx Q rh qx po
 unfold tM at po
 split at po
 ·rename_i ws ew
  obtain ⟨a,vs,rfl,s1,z⟩ := iL rh qx ew
  split at po
  ·rename_i bs eb
   rw [aAs eb z] at s1
   exact fQ (cr_any hc) ⟨a,bs,rfl,by rw [hK]; exact s1,po.at rh _ rfl (.of rfl)⟩
  ·exact po.elim
 ·exact po.elim
theorem aBC (hg : X.A.guards = some []) (hu : X.A.units + 65 < cLine) : CallR X (.builtin "repr") (fun xs H Q => ∃ v d,xs = [v] /\ Dp X.K H v d /\ SeqAt.shaped d = true /\ d.showable = true /\ d.shown.length <= sizeLine /\ Q (.str d.shown) H) := by
 intro pins s σ H xs us Q I r h
 obtain ⟨v,d,rfl,hd,sd,sh,hz,q⟩ := h
 obtain ⟨u,rfl,rv⟩ := vals1 r
 obtain ⟨as,rd⟩ := Dp.reads I d v u hd rv
 have dp := SeqAt.depth_of_shaped sd
 have nd : d.hasDict = false := PyData.hasDict_of_canLay d (SeqAt.canLay_of_shaped sd)
 cases hd with
 | non => cases rv; exact PySem.P.repr_of_none ⟨.str _,H,I.tok _,⟨_,rfl⟩,q⟩
 | bl b => cases rv; exact PySem.P.repr_of_bool ⟨.str _,H,I.tok _,⟨_,rfl⟩,q⟩
 | int i =>
  obtain ⟨t,rfl⟩ := rv
  exact PySem.P.repr_of_int (of_decide_eq_true sh) ⟨.str _,H,I.tok _,⟨_,rfl⟩,q⟩
 | str x =>
  obtain ⟨t,rfl⟩ := rv
  exact PySem.P.repr_of_str (hsz := hz) ⟨.str _,H,I.tok _,⟨_,rfl⟩,q⟩
 | lst hs ha =>
  cases rv
  exact repr_of_reads' rd sh (PyData.noDict_hsm nd) hg (by omega) (fun _ _ e => e) (fun h' u tk hk => ⟨.str _,H,I.kept (t' := tk) hk,⟨_,rfl⟩,q⟩) hz
 | tup hs ha =>
  cases rv
  exact repr_of_reads' rd sh (PyData.noDict_hsm nd) hg (by omega) (fun _ _ e => e) (fun h' u tk hk => ⟨.str _,H,I.kept (t' := tk) hk,⟨_,rfl⟩,q⟩) hz
theorem aFO (hK : X.K = g.K) (hg : X.A.guards = some []) (hu : X.A.units + 65 < cLine) : SC1 g X Wx (.builtin "repr") uY := by
 intro x h σ H μ vx Q rh qx po
 unfold uY at po
 split at po
 ·rename_i d e
  split at po
  ·rename_i hs
   simp only [Bool.and_eq_true,decide_eq_true_eq] at hs
   obtain ⟨⟨h1,h2⟩,h3⟩ := hs
   exact fQ (aBC hg hu) ⟨vx,d,rfl,by rw [hK]; exact dY rh _ _ _ _ e qx,h3,h1,h2,po.at rh _ rfl (.of rfl)⟩
  ·exact po.elim
 ·exact po.elim
theorem aHi (hc : X.calm = true) : SC2 g X Wx (.builtin "max") tX := by
 intro x y h σ H μ vx vy Q rh qx qy po
 unfold tX at po
 split at po
 ·rw [show vx = .int _ from qx,show vy = .int _ from qy]
  exact fQ (call_max2 hc) ⟨_,_,rfl,po.at rh _ rfl (.of rfl)⟩
 ·exact po.elim
theorem aHj (hc : X.calm = true) : SC2 g X Wx (.builtin "min") tZ := by
 intro x y h σ H μ vx vy Q rh qx qy po
 unfold tZ at po
 split at po
 ·rw [show vx = .int _ from qx,show vy = .int _ from qy]
  exact fQ (call_min2 hc) ⟨_,_,rfl,po.at rh _ rfl (.of rfl)⟩
 ·exact po.elim
theorem aHU {h : Hh} {μ : List Addr} {H : Hp} {x : D} {vx : V} {t : String} (rh : RH g μ h H) (qx : RV g μ H x vx) (e : tyD h x = some t) : TyX g.K H vx (.type t) := by
 unfold tyD at e
 split at e
 ·cases e; rw [show vx = _ from qx]; exact .base .non
 ·cases e; rw [show vx = _ from qx]; exact .base (.bl _)
 ·cases e; rw [show vx = _ from qx]; exact .base (.int _)
 ·cases e; rw [show vx = _ from qx]; exact .base (.str _)
 ·cases e; obtain ⟨a,vs,rfl,q,_⟩ := qx; exact .base (.tup q)
 ·cases e
  obtain ⟨a,vs,rfl,q,_⟩ := qx
  rcases q with (q | ⟨o,q⟩) | ⟨o,its,n,q,c,_⟩
  ·exact .base (.tup q)
  ·exact .fTuple q
  ·exact .kTuple q c
 ·cases e; obtain ⟨a,vs,rfl,q,_⟩ := qx; exact .base (.lst q)
 ·cases e
  obtain ⟨a,vs,rfl,q,_⟩ := qx
  rcases q with ⟨o,q⟩ | ⟨o,its,n,q,c,_⟩
  ·exact .base (.frz q)
  ·exact .kList q c
 ·rename_i i
  obtain ⟨a,ea,rfl⟩ := qx
  split at e
  ·rename_i ws e3
   cases e
   obtain ⟨b,eb,vs,hb,z⟩ := rh.cell i _ e3
   rw [ea] at eb; cases eb
   exact .base (.lst hb)
  ·rename_i ws e3
   cases e
   obtain ⟨b,eb,vs,hb,z⟩ := rh.cell i _ e3
   rw [ea] at eb; cases eb
   exact .base (.dK hb)
  ·rename_i ws e3
   cases e
   obtain ⟨b,eb,vs,hb,z⟩ := rh.cell i _ e3
   rw [ea] at eb; cases eb
   exact .base (.dT hb)
  ·cases e
 ·cases e
end
end PV
end
section
namespace PV
open PySem PySem.Spec PyProof.Rows L2
/-- evaluate,then keep -/
def mSt (m : M D) : M D := fun σ h => (m σ h).bind fun w h1 => .ok (aQ w h1).1 (aQ w h1).2
theorem aI3 {g : Gx} {X : Cx} {Wx : WX} {e : Expr} {m : M D} (he : SE g X Wx e m) : SE g X Wx e (mSt m) := by
 intro σw h σ H μ Q rs rh po
 refine he σw h σ H μ Q rs rh (po.bind2.imp fun w h1 μ1 H1 x1 r1 p1 v qv fv => ?_)
 obtain ⟨μ1',x1',r1',q1',_⟩ := jI r1 qv fv x1
 exact (p1 μ1' H1 x1').at r1' v q1' (.of fE)
def aBQ (X : Cx) (id : String) : V -> List V -> Hp -> VK -> Prop := fun x xs H Q => ∀ pins s σ v us,Inv X pins σ H s -> RelV x v -> Vals xs us -> wpAny (model X.prog X.w) X.A (call (.builtin id) (v :: us)) (EP X pins σ Q) X.xe s
theorem yG {X : Cx} {id : String} : MtR X id (aBQ X id) := fun pins s σ H x xs v us Q I rx rs h => h pins s σ v us I rx rs
theorem aBP {X : Cx} {id : String} {r : V -> List V -> Hp -> VK -> Prop} (p : MtR X id r) {x : V} {xs : List V} {H : Hp} {Q : VK} (h : r x xs H Q) : aBQ X id x xs H Q := fun pins s σ v us I rx rs => p pins s σ H x xs v us Q I rx rs h
/-- the type whose methods are looked up -/
def tyM (h : Hh) : D -> Option String
 | .str _ => some "str"
 | .tl _ => some "list"
 | .fl _ => some "list"
 | .ref i => match h[i]? with
  | some (.lst _) => some "list"
  | some (.dK _) => some "dict"
  | some (.dT _) => some "dict"
  | _ => none
 | _ => none
theorem aDf {g : Gx} {h : Hh} {μ : List Addr} {H : Hp} {x : D} {vx : V} {t : String} (rh : RH g μ h H) (qx : RV g μ H x vx) (e : tyM h x = some t) : tyV g.K t vx H := by
 unfold tyM at e
 split at e
 ·cases e; rw [show vx = .str _ from qx]; rfl
 ·cases e; obtain ⟨a,vs,rfl,q,_⟩ := qx; exact .inl ⟨rfl,vs, .of q⟩
 ·cases e; obtain ⟨a,vs,rfl,q,_⟩ := qx; exact .inl ⟨rfl,vs,q.sq⟩
 ·rename_i i
  obtain ⟨a,ea,rfl⟩ := qx
  split at e
  ·rename_i ws e3
   cases e
   obtain ⟨b,eb,vs,hb,z⟩ := rh.cell i _ e3
   rw [ea] at eb; cases eb
   exact .inl ⟨rfl,vs, .of hb⟩
  ·rename_i ws e3
   cases e
   obtain ⟨b,eb,vs,hb,z⟩ := rh.cell i _ e3
   rw [ea] at eb; cases eb
   exact .inr (.inr (.inl ⟨rfl, .inl ⟨vs,hb⟩⟩))
  ·rename_i ws e3
   cases e
   obtain ⟨b,eb,vs,hb,z⟩ := rh.cell i _ e3
   rw [ea] at eb; cases eb
   exact .inr (.inr (.inl ⟨rfl, .inr ⟨vs,hb⟩⟩))
  ·cases e
 ·cases e
/-- what the library knows of a method -/
structure MtF (T : String) (name : Str) (id : String) : Prop where
 pa : PlainAttrs T
 slot : Slot T name id
 ty : typeOf (.builtin id) = pure (.type "method_descriptor")
abbrev Op0 := D -> Hh -> R D
abbrev Op1 := D -> D -> Hh -> R D
abbrev Op2 := D -> D -> D -> Hh -> R D
def mM0 (f : String -> Option Op0) (o : M D) : M D := fun σ h => (o σ h).bind fun x h1 => match tyM h1 x with
 | some T => match f T with
  | some op => op x h1
  | none => .bad
 | none => .bad
def mM1 (f : String -> Option Op1) (o a : M D) : M D := fun σ h => (o σ h).bind fun x h1 => match tyM h1 x with
 | some T => match f T with
  | some op => (a σ h1).bind fun y h2 => op x y h2
  | none => .bad
 | none => .bad
def mM2 (f : String -> Option Op2) (o a b : M D) : M D := fun σ h => (o σ h).bind fun x h1 => match tyM h1 x with
 | some T => match f T with
  | some op => (a σ h1).bind fun y h2 => (b σ h2).bind fun z h3 => op x y z h3
  | none => .bad
 | none => .bad
section
variable (g : Gx) (X : Cx) (Wx : WX) (id : String)
def SM1 (op : Op1) : Prop := ∀ (x y : D) (h : Hh) (σ : L2.St) (H : Hp) (μ : List Addr) (vx vy : V) (Q : VK),RH g μ h H -> RV g μ H x vx -> RV g μ H y vy ->
 Po g Wx σ μ H (op x y h) (fun w h' μ' H' => ∀ v,RV g μ' H' w v -> Fr H w v -> Q v H') -> aBQ X id vx [vy] H Q
def SM2 (op : Op2) : Prop := ∀ (x y z : D) (h : Hh) (σ : L2.St) (H : Hp) (μ : List Addr) (vx vy vz : V) (Q : VK),RH g μ h H -> RV g μ H x vx -> RV g μ H y vy -> RV g μ H z vz ->
 Po g Wx σ μ H (op x y z h) (fun w h' μ' H' => ∀ v,RV g μ' H' w v -> Fr H w v -> Q v H') -> aBQ X id vx [vy,vz] H Q
end
section
variable {g : Gx} {X : Cx} {Wx : WX} {o a b : Expr} {mo ma mb : M D} {name : Str} {apos cpos : Pos} {T0 id0 : String}
theorem aI0 {f : String -> Option Op1} (hK : X.K = g.K) (F0 : MtF T0 name id0) (hf : ∀ T op,f T = some op -> ∃ id,MtF T name id /\ SM1 g X Wx id op)
  (hbase : attributeBase o name X.env (eval o X.env) = eval o X.env) (hline : (apos.endLine == cpos.line) = true) (hs : starEach [a] X.env = [(false,eval a X.env)])
  (ho : SE g X Wx o mo) (ha : SE g X Wx a ma) : SE g X Wx (.Call (.Attribute o name apos) [a] [] cpos) (mM1 f mo ma) := by
 intro σw h σ H μ Q rs rh po
 have hfew : ((backTo cpos (starEach [a] X.env)).all (fun x => !x.1) && (backToKw cpos (keywordEach [] X.env)).all (fun x => x.1.isSome)
   && decide ([a].length + ([] : List Keyword).length + (if ([] : List Keyword).isEmpty then 0 else 1) < 30)) = true := by rw [hs]; rfl
 unfold mM1 at po
 cases hx : mo σw h with
 | bad => rw [hx] at po; exact po.elim
 | exc c fs h1 =>
  rw [hx] at po
  refine eM (pe_bm F0.pa F0.slot F0.ty yG aX (pa_cons aX pa_nil hs) hbase hfew hline hs rfl) (ho σw h σ H μ _ rs rh ?_)
  rw [hx]
  exact po
 | ok x h1 =>
  rw [hx] at po
  rw [R.bind_ok] at po
  split at po
  ·rename_i T eT
   split at po
   ·rename_i op ef
    obtain ⟨id,F,sm⟩ := hf T op ef
    refine eM (pe_bm F.pa F.slot F.ty yG aX (pa_cons aX pa_nil hs) hbase hfew hline hs rfl) (ho σw h σ H μ _ rs rh ?_)
    rw [hx]
    intro μ1 H1 x1 r1 vx qx fx
    refine ⟨by rw [hK]; exact aDf r1 qx eT, ?_⟩
    refine ha σw h1 σ H1 μ1 _ (rs.ext rh.trk x1) r1 ((po.ext x1).bind.imp fun y h2 μ2 H2 x2 r2 p2 vy qy fy => ?_)
    exact sm x y h2 σ H2 μ2 vx vy Q r2 (qx.ext r1.trk x2) qy (p2.imp fun w h3 μ3 H3 x3 r3 q3 v qv fv => q3 v qv (fv.back (x1.trans x2)))
   ·exact po.elim
  ·exact po.elim
theorem aI1 {f : String -> Option Op2} (hK : X.K = g.K) (F0 : MtF T0 name id0) (hf : ∀ T op,f T = some op -> ∃ id,MtF T name id /\ SM2 g X Wx id op)
  (hbase : attributeBase o name X.env (eval o X.env) = eval o X.env) (hline : (apos.endLine == cpos.line) = true) (hs : starEach [a,b] X.env = [(false,eval a X.env),(false,eval b X.env)]) (hs2 : starEach [b] X.env = [(false,eval b X.env)])
  (ho : SE g X Wx o mo) (ha : SE g X Wx a ma) (hb : SE g X Wx b mb) : SE g X Wx (.Call (.Attribute o name apos) [a,b] [] cpos) (mM2 f mo ma mb) := by
 intro σw h σ H μ Q rs rh po
 have hfew : ((backTo cpos (starEach [a,b] X.env)).all (fun x => !x.1) && (backToKw cpos (keywordEach [] X.env)).all (fun x => x.1.isSome)
   && decide ([a,b].length + ([] : List Keyword).length + (if ([] : List Keyword).isEmpty then 0 else 1) < 30)) = true := by rw [hs]; rfl
 have pa := pa_cons (X := X) (e := a) (es := [b]) aX (pa_cons aX pa_nil hs2) (by rw [hs,hs2])
 unfold mM2 at po
 cases hx : mo σw h with
 | bad => rw [hx] at po; exact po.elim
 | exc c fs h1 =>
  rw [hx] at po
  refine eM (pe_bm F0.pa F0.slot F0.ty yG aX pa hbase hfew hline (by rw [hs,hs2]) (by rw [hs2]; rfl)) (ho σw h σ H μ _ rs rh ?_)
  rw [hx]
  exact po
 | ok x h1 =>
  rw [hx] at po
  rw [R.bind_ok] at po
  split at po
  ·rename_i T eT
   split at po
   ·rename_i op ef
    obtain ⟨id,F,sm⟩ := hf T op ef
    refine eM (pe_bm F.pa F.slot F.ty yG aX pa hbase hfew hline (by rw [hs,hs2]) (by rw [hs2]; rfl)) (ho σw h σ H μ _ rs rh ?_)
    rw [hx]
    intro μ1 H1 x1 r1 vx qx fx
    refine ⟨by rw [hK]; exact aDf r1 qx eT, ?_⟩
    refine ha σw h1 σ H1 μ1 _ (rs.ext rh.trk x1) r1 ((po.ext x1).bind.imp fun y h2 μ2 H2 x2 r2 p2 vy qy fy => ?_)
    refine hb σw h2 σ H2 μ2 _ (rs.ext rh.trk (x1.trans x2)) r2 (p2.bind.imp fun z h3 μ3 H3 x3 r3 p3 vz qz fz => ?_)
    exact sm x y z h3 σ H3 μ3 vx vy vz Q r3 ((qx.ext r1.trk x2).ext r2.trk x3) (qy.ext r2.trk x3) qz (p3.imp fun w h4 μ4 H4 x4 r4 q4 v qv fv => q4 v qv (fv.back ((x1.trans x2).trans x3)))
   ·exact po.elim
  ·exact po.elim
end
/-- the tracked list at i -/
def dE (h : Hh) : D -> Option (Nat × List D)
 | .ref i => match h[i]? with
  | some (.lst ws) => some (i,ws)
  | _ => none
 | _ => none
def cL : Op1 := fun x y h => match dE h x with
 | some (i,ws) => if ws.length < sizeLine /\ y.isTl = false then .ok .non (h.set i (.lst (ws ++ [y]))) else .bad
 | none => .bad
def mO : Op1 := fun x y h => match dE h x with
 | some (i,ws) => match asM h y with
  | some zs => if ws.length + zs.length <= sizeLine then .ok .non (h.set i (.lst (ws ++ zs))) else .bad
  | none => .bad
 | none => .bad
def eW : Op1 := fun x y h => match dE h x with
 | some (i,ws) => match y with
  | .int n => if -(2 ^ 63) <= n /\ n < 2 ^ 63 then match seqIndex? n ws.length with
    | some k => match ws[k]? with
     | some z => .ok z (h.set i (.lst (ws.eraseIdx k)))
     | none => .bad
    | none => .bad
   else .bad
  | _ => .bad
 | none => .bad
def toS : D -> Option Str
 | .str x => some x
 | _ => none
section
variable {g : Gx} {X : Cx} {Wx : WX} {μ : List Addr} {h : Hh} {H : Hp}
theorem qD {x : D} {vx : V} {i : Nat} {ws : List D} (rh : RH g μ h H) (qx : RV g μ H x vx) (e : dE h x = some (i,ws)) : ∃ a vs,vx = .ref a /\ μ[i]? = some a /\ H a = some (.lst vs) /\ RVs g μ H ws vs := by
 unfold dE at e
 split at e
 ·rename_i j
  obtain ⟨a,ea,rfl⟩ := qx
  split at e
  ·rename_i ws' e3
   cases e
   obtain ⟨b,eb,vs,hb,z⟩ := rh.cell _ _ e3
   rw [ea] at eb; cases eb
   exact ⟨a,vs,rfl,ea,hb,z⟩
  ·cases e
 ·cases e
theorem wrL {a : Addr} {i : Nat} {ws : List D} {vs : List V} (rh : RH g μ h H) (ea : μ[i]? = some a) (z : RVs g μ H ws vs) : Ext μ H μ (upd H a (.lst vs)) /\ RH g μ (h.set i (.lst ws)) (upd H a (.lst vs)) :=
 ⟨.wr rh.trk ea rfl,rh.wr ea rfl ⟨vs,upd_same,z.ext rh.trk (.wr rh.trk ea rfl)⟩⟩
theorem tW {α β : Type} {f : α -> Option β} : ∀ {l : List α} {r : List β},aJ f l = some r -> r.length = l.length
 | [],r,e => by unfold aJ at e; cases e; rfl
 | x :: xs,r,e => by
  unfold aJ at e
  split at e
  ·rename_i a b ea eb
   cases e
   simp [tW eb]
  ·cases e
theorem aC7 : SM1 g X Wx "list.append" cL := by
 intro x y h σ H μ vx vy Q rh qx qy po
 unfold cL at po
 split at po
 ·rename_i i ws e
  split at po
  ·rename_i hl
   obtain ⟨a,vs,rfl,ea,ha,z⟩ := qD rh qx e
   have z2 : RVs g μ H (ws ++ [y]) (vs ++ [vy]) := z.append ⟨vy,[],rfl,hl.2,qy,rfl⟩
   obtain ⟨x1,r1⟩ := wrL rh ea z2
   exact aBP mt_append ⟨a,vs,vy,rfl,rfl,ha,by rw [z.length]; exact hl.1,po μ _ x1 r1 _ rfl (.of rfl)⟩
  ·exact po.elim
 ·exact po.elim
theorem aC8 : SM1 g X Wx "list.extend" mO := by
 intro x y h σ H μ vx vy Q rh qx qy po
 unfold mO at po
 split at po
 ·rename_i i ws e
  split at po
  ·rename_i zs ez
   split at po
   ·rename_i hl
    obtain ⟨a,vs,rfl,ea,ha,z⟩ := qD rh qx e
    obtain ⟨b,us,rfl,hb,zb⟩ := rA rh qy ez
    obtain ⟨x1,r1⟩ := wrL rh ea (z.append zb)
    exact aBP mt_extend ⟨a,b,vs,us,rfl,rfl,ha,hb,by rw [z.length,zb.length]; exact hl,po μ _ x1 r1 _ rfl (.of rfl)⟩
   ·exact po.elim
  ·exact po.elim
 ·exact po.elim
theorem RVs.dropLast {ws : List D} {vs : List V} (r : RVs g μ H ws vs) : RVs g μ H ws.dropLast vs.dropLast := by
 rw [List.dropLast_eq_take,List.dropLast_eq_take,r.length]
 exact r.take _
theorem RVs.eraseIdx {ws : List D} {vs : List V} (r : RVs g μ H ws vs) (k : Nat) : RVs g μ H (ws.eraseIdx k) (vs.eraseIdx k) := by
 rw [List.eraseIdx_eq_take_drop_succ,List.eraseIdx_eq_take_drop_succ]
 exact (r.take _).append (r.drop _)
theorem aEh : SM1 g X Wx "list.pop" eW := by
 intro x y h σ H μ vx vy Q rh qx qy po
 unfold eW at po
 split at po
 ·rename_i i ws e
  split at po
  ·rename_i n
   split at po
   ·rename_i hn
    split at po
    ·rename_i k ek
     split at po
     ·rename_i w ew
      obtain ⟨a,vs,rfl,ea,ha,z⟩ := qD rh qx e
      obtain ⟨v,ev,nt,qv⟩ := z.get ew
      obtain ⟨x1,r1⟩ := wrL rh ea (z.eraseIdx k)
      rw [show vy = .int n from qy]
      exact aBP mt_popAt ⟨a,vs,n,k,v,rfl,rfl,ha,hn.1,hn.2,by rw [z.length]; exact ek,ev,po μ _ x1 r1 _ (qv.ext rh.trk x1) (.of nt)⟩
     ·exact po.elim
    ·exact po.elim
   ·exact po.elim
  ·exact po.elim
 ·exact po.elim
end
end PV
end
section
namespace PySem
open Sem (wp)
open AutoSeq1 (wpAny_loadPart')
end PySem
namespace PV
open PySem PySem.Spec PyProof.Rows L2
end PV
end
section
namespace PV
open PySem PySem.Spec PyProof.Rows L2
inductive RT where
 | nx (σ : Sg) (h : Hh) | ret (w : D) (h : Hh) | brk (σ : Sg) (h : Hh) | cont (σ : Sg) (h : Hh)
 | exc (c : Nat) (fs : List (Str × D)) (σ : Sg) (h : Hh) | bad
 deriving Inhabited
abbrev MS := Sg -> Hh -> RT
/-- an expression's result,then a statement's -/
def R.then {α : Type} (r : R α) (σ : Sg) (f : α -> Hh -> RT) : RT := match r with
 | .ok a h => f a h
 | .exc c fs h => .exc c fs σ h
 | .bad => .bad
def RT.seq (r : RT) (f : Sg -> Hh -> RT) : RT := match r with
 | .nx σ h => f σ h
 | r => r
@[simp] theorem R.then_ok {α : Type} (a : α) (h : Hh) (σ : Sg) (f : α -> Hh -> RT) : (R.ok a h).then σ f = f a h := id rfl
@[simp] theorem R.then_exc {α : Type} (c : Nat) (fs : List (Str × D)) (h : Hh) (σ : Sg) (f : α -> Hh -> RT) : (R.exc c fs h : R α).then σ f = .exc c fs σ h := id rfl
@[simp] theorem R.then_bad {α : Type} (σ : Sg) (f : α -> Hh -> RT) : (R.bad : R α).then σ f = .bad := id rfl
@[simp] theorem RT.seq_nx (σ : Sg) (h : Hh) (f : Sg -> Hh -> RT) : (RT.nx σ h).seq f = f σ h := id rfl
@[simp] theorem RT.seq_ret (w : D) (h : Hh) (f : Sg -> Hh -> RT) : (RT.ret w h).seq f = .ret w h := id rfl
@[simp] theorem RT.seq_brk (σ : Sg) (h : Hh) (f : Sg -> Hh -> RT) : (RT.brk σ h).seq f = .brk σ h := id rfl
@[simp] theorem RT.seq_cont (σ : Sg) (h : Hh) (f : Sg -> Hh -> RT) : (RT.cont σ h).seq f = .cont σ h := id rfl
@[simp] theorem RT.seq_exc (c : Nat) (fs : List (Str × D)) (σ : Sg) (h : Hh) (f : Sg -> Hh -> RT) : (RT.exc c fs σ h).seq f = .exc c fs σ h := id rfl
@[simp] theorem RT.seq_bad (f : Sg -> Hh -> RT) : RT.bad.seq f = .bad := id rfl
def PoS (g : Gx) (Wx : WX) (μ : List Addr) (H : Hp) (r : RT) (E : Ends) : Prop := match r with
 | .nx σw h' => ∀ μ' H' σ',Ext μ H μ' H' -> RH g μ' h' H' -> RS g μ' H' σw σ' -> E.nx σ' H'
 | .ret w h' => ∀ μ' H' v,Ext μ H μ' H' -> RH g μ' h' H' -> RV g μ' H' w v -> Fr H w v -> E.rt v H'
 | .brk σw h' => ∀ μ' H' σ',Ext μ H μ' H' -> RH g μ' h' H' -> RS g μ' H' σw σ' -> E.bk σ' H'
 | .cont σw h' => ∀ μ' H' σ',Ext μ H μ' H' -> RH g μ' h' H' -> RS g μ' H' σw σ' -> E.ct σ' H'
 | .exc c fs σw h' => ∀ μ' H' σ' cv d,Ext μ H μ' H' -> RH g μ' h' H' -> RS g μ' H' σw σ' -> XV g μ' H' c fs cv d -> Wx cv d σ' H'
 | .bad => False
section
variable {g : Gx} {Wx : WX} {μ μ' : List Addr} {H H' : Hp} {r : RT} {E E' : Ends}
theorem PoS.ext (p : PoS g Wx μ H r E) (x : Ext μ H μ' H') : PoS g Wx μ' H' r E := by
 cases r with
 | nx σ h => exact fun μ2 H2 σ2 x2 r2 s2 => p μ2 H2 σ2 (x.trans x2) r2 s2
 | ret w h => exact fun μ2 H2 v x2 r2 q2 f2 => p μ2 H2 v (x.trans x2) r2 q2 (f2.back x)
 | brk σ h => exact fun μ2 H2 σ2 x2 r2 s2 => p μ2 H2 σ2 (x.trans x2) r2 s2
 | cont σ h => exact fun μ2 H2 σ2 x2 r2 s2 => p μ2 H2 σ2 (x.trans x2) r2 s2
 | exc c fs σ h => exact fun μ2 H2 σ2 cv d x2 r2 s2 v2 => p μ2 H2 σ2 cv d (x.trans x2) r2 s2 v2
 | bad => exact p
/-- from a statement's wish to an expression's -/
theorem PoS.then {α : Type} {r : R α} {σw : Sg} {σ : L2.St} {h : Hh} {f : α -> Hh -> RT} (rs : RS g μ H σw σ) (rh : RH g μ h H) (p : PoS g Wx μ H (r.then σw f) E) :
  Po g Wx σ μ H r fun a h1 μ1 H1 => ∀ μ2 H2,Ext μ H μ2 H2 -> PoS g Wx μ2 H2 (f a h1) E := by
 cases r with
 | ok a h1 => exact fun _ _ _ _ μ2 H2 x2 => PoS.ext (r := f a h1) p x2
 | exc c fs h1 => exact fun μ2 H2 cv d x2 r2 v2 => p μ2 H2 σ cv d x2 r2 (rs.ext rh.trk x2) v2
 | bad => exact p
theorem PoS.imp (p : PoS g Wx μ H r E) (h1 : ∀ σ H,E.nx σ H -> E'.nx σ H) (h2 : ∀ v H,E.rt v H -> E'.rt v H) (h3 : ∀ σ H,E.bk σ H -> E'.bk σ H) (h4 : ∀ σ H,E.ct σ H -> E'.ct σ H) : PoS g Wx μ H r E' := by
 cases r with
 | nx σ h => exact fun μ2 H2 σ2 x2 r2 s2 => h1 _ _ (p μ2 H2 σ2 x2 r2 s2)
 | ret w h => exact fun μ2 H2 v x2 r2 q2 f2 => h2 _ _ (p μ2 H2 v x2 r2 q2 f2)
 | brk σ h => exact fun μ2 H2 σ2 x2 r2 s2 => h3 _ _ (p μ2 H2 σ2 x2 r2 s2)
 | cont σ h => exact fun μ2 H2 σ2 x2 r2 s2 => h4 _ _ (p μ2 H2 σ2 x2 r2 s2)
 | exc c fs σ h => exact p
 | bad => exact p
end
def aEp (X : Cx) (st : Stmt) : TS := fun E σ H => ∀ pins s,Inv X pins σ H s -> wpAny (model X.prog X.w) X.A (exec st X.env) (SP X pins E) X.xe s
theorem aEO {X : Cx} {st : Stmt} : PS X st (aEp X st) := ⟨fun pins s σ H E I h => h pins s I⟩
theorem oQ {X : Cx} {st : Stmt} {t : TS} (p : PS X st t) {σ : L2.St} {H : Hp} {E : Ends} (h : t E σ H) : aEp X st E σ H := fun pins s I => p.run pins s σ H E I h
def aEo (X : Cx) (st : List Stmt) : TS := fun E σ H => ∀ pins s,Inv X pins σ H s -> wpAny (model X.prog X.w) X.A (execs st X.env) (SP X pins E) X.xe s
theorem rK {X : Cx} {st : List Stmt} : PSs X st (aEo X st) := ⟨fun pins s σ H E I h => h pins s I⟩
theorem aBV {X : Cx} {st : List Stmt} {t : TS} (p : PSs X st t) {σ : L2.St} {H : Hp} {E : Ends} (h : t E σ H) : aEo X st E σ H := fun pins s I => p.run pins s σ H E I h
section
variable (g : Gx) (X : Cx) (Wx : WX)
def SS (st : Stmt) (m : MS) : Prop := ∀ (σw : Sg) (h : Hh) (σ : L2.St) (H : Hp) (μ : List Addr) (E : Ends),RS g μ H σw σ -> RH g μ h H -> PoS g Wx μ H (m σw h) E -> aEp X st E σ H
def SL (st : List Stmt) (m : MS) : Prop := ∀ (σw : Sg) (h : Hh) (σ : L2.St) (H : Hp) (μ : List Addr) (E : Ends),RS g μ H σw σ -> RH g μ h H -> PoS g Wx μ H (m σw h) E -> aEo X st E σ H
end
def hZ : MS := fun σ h => .nx σ h
def aS (a b : MS) : MS := fun σ h => (a σ h).seq b
def cQ (m : M D) : MS := fun σ h => (m σ h).then σ fun _ h1 => .nx σ h1
def bX (m : M D) : MS := fun σ h => (m σ h).then σ fun w h1 => .ret w h1
def fH (c : M Bool) (a b : MS) : MS := fun σ h => (c σ h).then σ fun x h1 => if x = true then a σ h1 else b σ h1
section
variable {g : Gx} {X : Cx} {Wx : WX} {st : Stmt} {rest a b : List Stmt} {e : Expr} {m m' : MS} {me : M D} {mc : M Bool} {pos : Pos}
theorem PoS.at {σw : Sg} {σ : L2.St} {h : Hh} {μ : List Addr} {H : Hp} {E : Ends} (p : PoS g Wx μ H (.nx σw h) E) (rh : RH g μ h H) (rs : RS g μ H σw σ) : E.nx σ H := p μ H σ (Ext.refl rh.trk) rh rs
theorem aHy : SL g X Wx [] hZ := fun σw h σ H μ E rs rh po => aBV pss_nil (po.at rh rs)
theorem aFT (h1 : SS g X Wx st m) (h2 : SL g X Wx rest m') : SL g X Wx (st :: rest) (aS m m') := by
 intro σw h σ H μ E rs rh po
 refine aBV (pss_cons aEO rK) (h1 σw h σ H μ _ rs rh ?_)
 unfold aS at po
 cases hx : m σw h with
 | nx σ1 h1 =>
  rw [hx] at po
  intro μ1 H1 σ1' x1 r1 s1
  exact h2 σ1 h1 σ1' H1 μ1 E s1 r1 (PoS.ext (r := m' σ1 h1) po x1)
 | ret w h1 => rw [hx] at po; exact po
 | brk σ1 h1 => rw [hx] at po; exact po
 | cont σ1 h1 => rw [hx] at po; exact po
 | exc c fs σ1 h1 => rw [hx] at po; exact po
 | bad => rw [hx] at po; exact po
theorem aHz (h1 : SS g X Wx st m) : SL g X Wx [st] m := fun σw h σ H μ E rs rh po => aBV (pss_one aEO) (h1 σw h σ H μ E rs rh po)
theorem aF4 (he : SE g X Wx e me) (hs : swapsWith e none pos.line X.env = pure false) : SS g X Wx (.Expr e pos) (cQ me) := by
 intro σw h σ H μ E rs rh po
 refine oQ (ps_expr aX hs) (he σw h σ H μ _ rs rh ((PoS.then rs rh po).imp fun w h1 μ1 H1 x1 r1 p1 v qv fv => ?_))
 exact (p1 μ1 H1 x1).at r1 (rs.ext rh.trk x1)
theorem aHG (he : SE g X Wx e me) : SS g X Wx (.Return (some e) pos) (bX me) := by
 intro σw h σ H μ E rs rh po
 refine oQ (ps_ret aX) (he σw h σ H μ _ rs rh ?_)
 unfold bX at po
 cases hx : me σw h with
 | ok w h1 => rw [hx] at po; exact fun μ1 H1 x1 r1 v qv fv => po μ1 H1 v x1 r1 qv fv
 | exc c fs h1 => rw [hx] at po; exact fun μ2 H2 cv d x2 r2 v2 => po μ2 H2 σ cv d x2 r2 (rs.ext rh.trk x2) v2
 | bad => rw [hx] at po; exact po.elim
theorem aJh (hc : ST g X Wx e mc) (ha : SL g X Wx a m) (hb : SL g X Wx b m') : SS g X Wx (.If e a b pos) (fH mc m m') := by
 intro σw h σ H μ E rs rh po
 refine oQ (ps_if qH rK rK) (hc σw h σ H μ _ rs rh ((PoS.then rs rh po).imp fun x h1 μ1 H1 x1 r1 p1 => ?_))
 cases x with
 | true => exact ha σw h1 σ H1 μ1 E (rs.ext rh.trk x1) r1 (p1 μ1 H1 x1)
 | false => exact hb σw h1 σ H1 μ1 E (rs.ext rh.trk x1) r1 (p1 μ1 H1 x1)
end
inductive Tg where
 | nm (i : Nat) | tu (ts : List Tg)
 deriving Inhabited
mutual
def Tg.set : Tg -> D -> Sg -> Hh -> Option Sg
 | .nm i,w,σ,_ => some (σ.set i (some w))
 | .tu ts,w,σ,h => match (match asT w with | some ws => some ws | none => asL h w) with
  | some ws => Tg.sets ts ws σ h
  | none => none
def Tg.sets : List Tg -> List D -> Sg -> Hh -> Option Sg
 | [],[],σ,_ => some σ
 | t :: ts,w :: ws,σ,h => match Tg.set t w σ h with
  | some σ1 => Tg.sets ts ws σ1 h
  | none => none
 | _,_,_,_ => none
end
mutual
def Tg.slots : Tg -> List Nat
 | .nm i => [i]
 | .tu ts => Tg.slotss ts
def Tg.slotss : List Tg -> List Nat
 | [] => []
 | t :: ts => Tg.slots t ++ Tg.slotss ts
end
def aCb (X : Cx) (tg : Expr) : TG := fun v σ H Q => ∀ pins s u,Inv X pins σ H s -> RelV v u -> wpAny (model X.prog X.w) X.A (assign tg X.env u) (fun _ s' => ∃ σ' H',Inv X pins σ' H' s' /\ Q σ' H') X.xe s
theorem aBU {X : Cx} {tg : Expr} : PG X tg (aCb X tg) := ⟨fun pins s σ H v u Q I r h => h pins s u I r⟩
theorem aDQ {X : Cx} {tg : Expr} {t : TG} (p : PG X tg t) {v : V} {σ : L2.St} {H : Hp} {Q : L2.St -> Hp -> Prop} (h : t v σ H Q) : aCb X tg v σ H Q := fun pins s u I r => p.run pins s σ H v u Q I r h
def aCc (X : Cx) (tg : List Expr) : TGs := fun vs σ H Q => ∀ pins s us,Inv X pins σ H s -> Vals vs us -> wpAny (model X.prog X.w) X.A (assignInOrder ((assignEach tg X.env).map (·.2)) us) (fun _ s' => ∃ σ' H',Inv X pins σ' H' s' /\ Q σ' H') X.xe s
theorem zQ {X : Cx} {tg : List Expr} : PGs X tg (aCc X tg) := ⟨fun pins s σ H vs us Q I r h => h pins s us I r⟩
theorem aEL {X : Cx} {tg : List Expr} {t : TGs} (p : PGs X tg t) {vs : List V} {σ : L2.St} {H : Hp} {Q : L2.St -> Hp -> Prop} (h : t vs σ H Q) : aCc X tg vs σ H Q := fun pins s us I r => p.run pins s σ H vs us Q I r h
/-- a target of names: it sets its own slots and nothing else -/
def SG (g : Gx) (X : Cx) (tg : Expr) (t : Tg) : Prop := ∀ (w : D) (v : V) (σw σw' : Sg) (h : Hh) (σ : L2.St) (H : Hp) (μ : List Addr) (Q : L2.St -> Hp -> Prop),RS g μ H σw σ -> RH g μ h H -> w.isTl = false -> RV g μ H w v ->
 t.set w σw h = some σw' -> (∀ σ',RS g μ H σw' σ' -> (∀ vs : List Nat,(∀ i ∈ t.slots,i ∈ vs) -> wipe σ' vs = wipe σ vs) -> Q σ' H) -> aCb X tg v σ H Q
def SGs (g : Gx) (X : Cx) (tg : List Expr) (ts : List Tg) : Prop := ∀ (ws : List D) (vs : List V) (σw σw' : Sg) (h : Hh) (σ : L2.St) (H : Hp) (μ : List Addr) (Q : L2.St -> Hp -> Prop),RS g μ H σw σ -> RH g μ h H -> RVs g μ H ws vs ->
 Tg.sets ts ws σw h = some σw' -> (∀ σ',RS g μ H σw' σ' -> (∀ vs : List Nat,(∀ i ∈ Tg.slotss ts,i ∈ vs) -> wipe σ' vs = wipe σ vs) -> Q σ' H) -> aCc X tg vs σ H Q
section
variable {g : Gx} {X : Cx} {pos : Pos}
theorem aAw (σ : L2.St) (i : Nat) (o : Option V) : ∀ vs : List Nat,i ∈ vs -> wipe (σ.set i o) vs = wipe σ vs
 | [],h => by simp at h
 | v :: vs,h => by
  unfold wipe
  by_cases e : i ∈ vs
  ·rw [aAw σ i o vs e]
  ·have e1 : i = v := by
    rcases List.mem_cons.mp h with z | z
    ·exact z
    ·exact absurd z e
   subst e1
   apply List.ext_getElem?
   intro j
   by_cases hj : i = j
   ·subst hj
    by_cases hl : i < σ.length
    ·rw [List.getElem?_set_self (by rw [wipe_length,List.length_set]; exact hl),List.getElem?_set_self (by rw [wipe_length]; exact hl)]
    ·rw [List.getElem?_eq_none (by rw [List.length_set,wipe_length,List.length_set]; omega),List.getElem?_eq_none (by rw [List.length_set,wipe_length]; omega)]
   ·rw [List.getElem?_set_ne hj,List.getElem?_set_ne hj]
    -- away from i the two are alike
    have key : ∀ vs : List Nat,i ∉ vs -> ∀ j,i ≠ j -> (wipe (σ.set i o) vs)[j]? = (wipe σ vs)[j]? := by
     intro vs
     induction vs with
     | nil => intro _ j hj; exact List.getElem?_set_ne hj
     | cons v vs ih =>
      intro hn j hj
      unfold wipe
      have hn2 : i ∉ vs := fun z => hn (List.mem_cons_of_mem _ z)
      by_cases hv : v = j
      ·subst hv
       by_cases hl : v < σ.length
       ·rw [List.getElem?_set_self (by rw [wipe_length,List.length_set]; exact hl),List.getElem?_set_self (by rw [wipe_length]; exact hl)]
       ·rw [List.getElem?_eq_none (by rw [List.length_set,wipe_length,List.length_set]; omega),List.getElem?_eq_none (by rw [List.length_set,wipe_length]; omega)]
      ·rw [List.getElem?_set_ne hv,List.getElem?_set_ne hv]
       exact ih hn2 j hj
    exact key vs e j hj
theorem aBo {i : Nat} {x : Str} (hN : X.N.Nodup) (hi : X.N[i]? = some x) (hx : Loc X.env.scope x) (hf : X.fn x = true \/ X.env.scope.names.lookup x = some .local) : SG g X (.Name x pos) (.nm i) := by
 intro w v σw σw' h σ H μ Q rs rh nt q e k
 have e : some (σw.set i (some w)) = some σw' := by simpa [Tg.set] using e
 cases e
 exact aDQ (pg_name hN hi hx hf) (k _ (rs.set nt q i) fun vs hv => aAw _ _ _ _ (hv i (by simp [Tg.slots])))
theorem aFQ : SGs g X [] [] := by
 intro ws vs σw σw' h σ H μ Q rs rh q e k
 cases ws with
 | nil =>
  have e : some σw = some σw' := by simpa [Tg.sets] using e
  cases e
  rw [show vs = [] from q]
  exact aEL pgs_nil ⟨rfl,k σ rs fun _ _ => rfl⟩
 | cons _ _ => simp [Tg.sets] at e
theorem aEe {e : Expr} {es : List Expr} {t : Tg} {ts : List Tg} (h1 : SG g X e t) (h2 : SGs g X es ts) (hs : (assignEach (e :: es) X.env).map (·.2) = assign e X.env :: (assignEach es X.env).map (·.2)) : SGs g X (e :: es) (t :: ts) := by
 intro ws vs σw σw' h σ H μ Q rs rh q e' k
 cases ws with
 | nil => simp [Tg.sets] at e'
 | cons w ws =>
  obtain ⟨v,rr,rfl,nt,qv,z⟩ := q
  simp only [Tg.sets] at e'
  split at e'
  ·rename_i σ1 e1
   refine aEL (pgs_cons aBU zQ hs) ⟨v,rr,rfl, ?_⟩
   refine h1 w v σw σ1 h σ H μ _ rs rh nt qv e1 fun σ' rs' w1 => ?_
   refine h2 ws rr σ1 σw' h σ' H μ _ rs' rh z e' fun σ2 rs2 w2 => ?_
   refine k σ2 rs2 fun vs hv => ?_
   rw [w2 vs fun i hi => hv i (by simp [Tg.slotss,hi]),w1 vs fun i hi => hv i (by simp [Tg.slotss,hi])]
  ·cases e'
theorem aHv {es : List Expr} {k : Nat} {ts : List Tg} (hK : X.K = g.K) (hc : X.calm = true) (hs : SGs g X es ts) (hn : (assignEach es X.env).length = ts.length) (hst : (assignEach es X.env).findIdx? (·.1) = none) : SG g X (.Tuple es k pos) (.tu ts) := by
 intro w v σw σw' h σ H μ Q rs rh nt q e kk
 have len : ∀ {ts : List Tg} {ws : List D} {σ σ' : Sg},Tg.sets ts ws σ h = some σ' -> ws.length = ts.length := by
  intro ts
  induction ts with
  | nil => intro ws σ σ' e; cases ws with
   | nil => rfl
   | cons _ _ => simp [Tg.sets] at e
  | cons t ts ih => intro ws σ σ' e; cases ws with
   | nil => simp [Tg.sets] at e
   | cons w ws =>
    simp only [Tg.sets] at e
    split at e
    ·rename_i σ1 e1; simp [ih e]
    ·cases e
 simp only [Tg.set] at e
 split at e
 ·rename_i ws ew
  split at ew
  ·rename_i ws' e1
   cases ew
   obtain ⟨a,vs,rfl,s1,z⟩ := fO q e1
   refine aDQ (pg_tup hc zQ hn hst) ⟨a,vs,rfl,by rw [hK]; exact s1,by rw [z.length]; exact len e, ?_⟩
   exact hs _ vs σw σw' h σ H μ Q rs rh z e fun σ' r' w' => kk σ' r' fun us hu => w' us fun i hi => hu i (by simpa [Tg.slots] using hi)
  ·obtain ⟨a,vs,rfl,s1,z⟩ := iL rh q ew
   refine aDQ (pg_lst hc zQ hn hst) ⟨a,vs,rfl,by rw [hK]; exact s1,by rw [z.length]; exact len e, ?_⟩
   exact hs _ vs σw σw' h σ H μ Q rs rh z e fun σ' r' w' => kk σ' r' fun us hu => w' us fun i hi => hu i (by simpa [Tg.slots] using hi)
 ·cases e
end
end PV
end
section
namespace PV
open PySem PySem.Spec PyProof.Rows L2
def aR (t : Tg) (m : M D) : MS := fun σ h => (m σ h).then σ fun w h1 => match t.set (aQ w h1).1 σ (aQ w h1).2 with
 | some σ1 => .nx σ1 (aQ w h1).2
 | none => .bad
section
variable {g : Gx} {X : Cx} {Wx : WX} {e tg : Expr} {me : M D} {t : Tg} {pos : Pos}
theorem vK (he : SE g X Wx e me) (hg : SG g X tg t) (hs : swapsWithSole [tg] e pos.line X.env = pure false) (hw : swappedStores [tg] e X.env = pure none) (h1 : (assignEach [tg] X.env).map (·.2) = [assign tg X.env]) :
  SS g X Wx (.Assign [tg] e pos) (aR t me) := by
 intro σw h σ H μ E rs rh po
 refine oQ (ps_asg aX aBU hs hw h1) (he σw h σ H μ _ rs rh ((PoS.then rs rh po).imp fun w h1 μ1 H1 x1 r1 p1 v qv fv => ?_))
 obtain ⟨μ1',x1',r1',q1',_⟩ := jI r1 qv fv x1
 have p2 := p1 μ1' H1 x1'
 split at p2
 ·rename_i σ2 e2
  exact hg _ v σw σ2 _ σ H1 μ1' _ (rs.ext rh.trk x1') r1' fE q1' e2 fun σ' rs' _ => p2.at r1' rs'
 ·exact p2.elim
/-- a,b = x,y with plain local names -/
theorem aHF {i j : Nat} {x y : Str} {a b : Expr} {ma mb : M D} {px py pt : Pos} {kt k2 pt2} (hc : X.calm = true) (hN : X.N.Nodup) (hi : X.N[i]? = some x) (hj : X.N[j]? = some y) (hij : i ≠ j)
  (hx : X.env.scope.names.lookup x = some .local) (hy : X.env.scope.names.lookup y = some .local) (ha : SA g X Wx [a,b] (aB [ma,mb]))
  (hw : swappedStores [.Tuple [.Name x px, .Name y py] kt pt] (.Tuple [a,b] k2 pt2) X.env = pure (some [x,y]))
  (hs : swapsWithSole [.Tuple [.Name x px, .Name y py] kt pt] (.Tuple [a,b] k2 pt2) pos.line X.env = pure false) :
  SS g X Wx (.Assign [.Tuple [.Name x px, .Name y py] kt pt] (.Tuple [a,b] k2 pt2) pos) (aR (.tu [.nm i, .nm j]) (bF (aB [ma,mb]))) := by
 intro σw h σ H μ E rs rh po
 refine oQ (ps_par hc hN hi hj hij hx hy yH hw hs) (ha σw h σ H μ _ rs rh ?_)
 unfold aR bF at po
 cases hx : aB [ma,mb] σw h with
 | bad => rw [hx] at po; exact po.elim
 | exc c fs h1 => rw [hx] at po; exact fun μ2 H2 cv d x2 r2 v2 => po μ2 H2 σ cv d x2 r2 (rs.ext rh.trk x2) v2
 | ok ws h1 =>
  rw [hx] at po
  intro μ1 H1 x1 r1 vs qs
  rw [R.bind_ok] at po
  split at po
  ·rw [R.then_ok] at po
   simp only [aQ] at po
   have len : ws.length = 2 := by
    have : ∀ {σw h} ,aB [ma,mb] σw h = .ok ws h1 -> ws.length = 2 := by
     intro σw h e
     simp only [aB] at e
     cases h2 : ma σw h with
     | bad => rw [h2] at e; cases e
     | exc _ _ _ => rw [h2] at e; cases e
     | ok w2 hh2 =>
      rw [h2,R.bind_ok] at e
      cases h3 : mb σw (aQ w2 hh2).2 with
      | bad => rw [h3] at e; cases e
      | exc _ _ _ => rw [h3] at e; cases e
      | ok w3 hh3 => rw [h3] at e; simp only [R.bind_ok] at e; cases e; rfl
    exact this hx
   match ws,len,qs with
   | [w1,w2],_,qs =>
    obtain ⟨v1,r1',rfl,n1,q1,v2,r2',rfl,n2,q2,e3⟩ := qs
    rw [show r2' = [] from e3]
    simp only [Tg.set,asT,Tg.sets] at po
    exact ⟨v1,v2,rfl,po μ1 H1 _ x1 r1 (((rs.ext rh.trk x1).set n1 q1 i).set n2 q2 j)⟩
  ·exact po.elim
theorem rH : ∀ {ms : List (M D)} {σw : Sg} {h h1 : Hh} {ws : List D},aB ms σw h = .ok ws h1 -> ws.length = ms.length
 | [],σw,h,h1,ws,e => by simp only [aB] at e; cases e; rfl
 | m :: ms,σw,h,h1,ws,e => by
  simp only [aB] at e
  cases h2 : m σw h with
  | bad => rw [h2] at e; cases e
  | exc _ _ _ => rw [h2] at e; cases e
  | ok w2 hh2 =>
   rw [h2,R.bind_ok] at e
   cases h3 : aB ms σw (aQ w2 hh2).2 with
   | bad => rw [h3] at e; cases e
   | exc _ _ _ => rw [h3] at e; cases e
   | ok w3 hh3 =>
    rw [h3] at e
    simp only [R.bind_ok] at e
    cases e
    simp [rH h3]
end
def qI {κ : Type} [DecidableEq κ] (kvs : List (κ × D)) (k : κ) (w : D) : List (κ × D) :=
 if kvs.any (fun kv => decide (kv.1 = k)) then kvs.map (fun kv => if kv.1 = k then (kv.1,w) else kv) else kvs ++ [(k,w)]
def kG (x y w : D) (h : Hh) : Option Hh := match dE h x with
 | some (i,ws) => match y with
  | .int k => match ixN ws.length k with
   | some j => if w.isTl = false then some (h.set i (.lst (ws.set j w))) else none
   | none => none
  | _ => none
 | none => match x with
  | .ref i => match h[i]? with
   | some (.dK kvs) => match toK y with
    | some k => if kvs.length < sizeLine /\ w.isTl = false then some (h.set i (.dK (qI kvs k w))) else none
    | none => none
   | some (.dT kvs) => match y with
    | .tup ks => match aJ toK ks with
     | some ks => if kvs.length < sizeLine /\ w.isTl = false then some (h.set i (.dT (qI kvs ks w))) else none
     | none => none
    | _ => none
   | _ => none
  | _ => none
def zV (X : Cx) : TSet := fun o i v H Q => ∀ pins s σ ov iv u,Inv X pins σ H s -> RelV o ov -> RelV i iv -> RelV v u -> wpAny (model X.prog X.w) X.A (setItem ov iv u) (fun _ s' => ∃ H',Inv X pins σ H' s' /\ Q H') X.xe s
theorem wF {X : Cx} : PSet X (zV X) := fun pins s σ H o i v ov iv u Q I ro ri rv h => h pins s σ ov iv u I ro ri rv
theorem zU {X : Cx} {t : TSet} (p : PSet X t) {o i v : V} {H : Hp} {Q : Hp -> Prop} (h : t o i v H Q) : zV X o i v H Q := fun pins s σ ov iv u I ro ri rv => p pins s σ H o i v ov iv u Q I ro ri rv h
section
variable {g : Gx} {X : Cx} {Wx : WX} {μ : List Addr} {h : Hh} {H : Hp}
theorem RKs.any {κ : Type} [DecidableEq κ] {kvs : List (κ × D)} {vs : List (κ × V)} (r : RKs g μ H kvs vs) (k : κ) : kvs.any (fun kv => decide (kv.1 = k)) = vs.any (fun kv => decide (kv.1 = k)) := by
 induction kvs generalizing vs with
 | nil => rw [show vs = [] from r]; rfl
 | cons p kvs ih => obtain ⟨v,rr,rfl,_,_,z⟩ := r; simp [ih z]
theorem RKs.append {κ : Type} {a b : List (κ × D)} {c d : List (κ × V)} (r : RKs g μ H a c) (s : RKs g μ H b d) : RKs g μ H (a ++ b) (c ++ d) := by
 induction a generalizing c with
 | nil => rw [show c = [] from r]; exact s
 | cons p a ih => obtain ⟨v,rr,rfl,n,q,z⟩ := r; exact ⟨v,_,rfl,n,q,ih z⟩
theorem RKs.length {κ : Type} {kvs : List (κ × D)} {vs : List (κ × V)} (r : RKs g μ H kvs vs) : vs.length = kvs.length := by
 induction kvs generalizing vs with
 | nil => rw [show vs = [] from r]; rfl
 | cons p kvs ih => obtain ⟨v,rr,rfl,_,_,z⟩ := r; simp [ih z]
theorem RKs.repl {κ : Type} [DecidableEq κ] (k : κ) {w : D} {v : V} (nt : w.isTl = false) (q : RV g μ H w v) : ∀ {kvs : List (κ × D)} {vs : List (κ × V)},RKs g μ H kvs vs ->
  RKs g μ H (kvs.map fun kv => if kv.1 = k then (kv.1,w) else kv) (vs.map fun kv => if kv.1 = k then (kv.1,v) else kv)
 | [],vs,r => by rw [show vs = [] from r]; rfl
 | p :: kvs,_,r => by
  obtain ⟨v',rr,rfl,n,q',z⟩ := r
  by_cases e : p.1 = k
  ·simp only [List.map_cons,e,if_true]
   exact ⟨v,_,rfl,nt,q,RKs.repl k nt q z⟩
  ·simp only [List.map_cons,e,if_false]
   exact ⟨v',_,rfl,n,q',RKs.repl k nt q z⟩
theorem wH {κ : Type} [DecidableEq κ] {kvs : List (κ × D)} {vs : List (κ × V)} (r : RKs g μ H kvs vs) (k : κ) {w : D} {v : V} (nt : w.isTl = false) (q : RV g μ H w v) : RKs g μ H (qI kvs k w) (putK vs k v) := by
 unfold qI putK
 rw [r.any k]
 split
 ·exact r.repl k nt q
 ·exact r.append ⟨v,[],rfl,nt,q,rfl⟩
theorem RVs.set {ws : List D} {vs : List V} (r : RVs g μ H ws vs) {w : D} {v : V} (nt : w.isTl = false) (q : RV g μ H w v) (j : Nat) : RVs g μ H (ws.set j w) (vs.set j v) := by
 induction ws generalizing vs j with
 | nil => rw [show vs = [] from r]; rfl
 | cons p ws ih =>
  obtain ⟨v',rr,rfl,n,q',z⟩ := r
  cases j with
  | zero => exact ⟨v,rr,rfl,nt,q,z⟩
  | succ j => exact ⟨v',_,rfl,n,q',ih z j⟩
theorem wV (hu : X.A.units + 1 < cLine) {x y w : D} {vx vy vw : V} {h2 : Hh} {Q : Hp -> Prop} (rh : RH g μ h H) (qx : RV g μ H x vx) (qy : RV g μ H y vy) (qw : RV g μ H w vw) (e : kG x y w h = some h2)
  (k : ∀ H',Ext μ H μ H' -> RH g μ h2 H' -> Q H') : zV X vx vy vw H Q := by
 unfold kG at e
 split at e
 ·rename_i i ws ew
  split at e
  ·rename_i n
   split at e
   ·rename_i j ej
    split at e
    ·rename_i nt
     cases e
     obtain ⟨a,vs,rfl,ea,ha,z⟩ := qD rh qx ew
     obtain ⟨x1,r1⟩ := wrL rh ea (z.set nt qw j)
     exact zU set_list ⟨a,vs,n,j,rfl,qy,ha,by rw [z.length]; exact ej,k _ x1 r1⟩
    ·cases e
   ·cases e
  ·cases e
 ·split at e
  ·rename_i i _
   obtain ⟨a,ea,rfl⟩ := qx
   split at e
   ·rename_i kvs e3
    obtain ⟨b,eb,vs,hb,z⟩ := rh.cell i _ e3
    rw [ea] at eb; cases eb
    split at e
    ·rename_i kk ek
     split at e
     ·rename_i hl
      cases e
      have z2 := wH z kk hl.2 qw
      have x1 : Ext μ H μ (upd H a (.dK (putK vs kk vw))) := .wr rh.trk ea rfl
      rw [vM ek qy]
      exact zU (set_dict hu) ⟨a,_,rfl,DPut.k hb (by rw [z.length]; exact hl.1),k _ x1 (rh.wr ea rfl ⟨_,upd_same,z2.ext rh.trk x1⟩)⟩
     ·cases e
    ·cases e
   ·rename_i kvs e3
    obtain ⟨b,eb,vs,hb,z⟩ := rh.cell i _ e3
    rw [ea] at eb; cases eb
    split at e
    ·rename_i ks
     split at e
     ·rename_i kk ek
      split at e
      ·rename_i hl
       cases e
       obtain ⟨c,us,rfl,hc,zc⟩ := qy
       rw [xD ek zc] at hc
       have z2 := wH z kk hl.2 qw
       have x1 : Ext μ H μ (upd H a (.dT (putK vs kk vw))) := .wr rh.trk ea rfl
       exact zU (set_dict hu) ⟨a,_,rfl,DPut.t hb hc (by rw [z.length]; exact hl.1),k _ x1 (rh.wr ea rfl ⟨_,upd_same,z2.ext rh.trk x1⟩)⟩
      ·cases e
     ·cases e
    ·cases e
   ·cases e
  ·cases e
variable {e o i : Expr} {me mo mi : M D} {pos tpos : Pos}
def iP (me mo mi : M D) : MS := fun σ h => (mSt me σ h).then σ fun w h1 => (mo σ h1).then σ fun x h2 => (mi σ h2).then σ fun y h3 => match kG x y w h3 with
 | some h4 => .nx σ h4
 | none => .bad
theorem aHH (hu : X.A.units + 1 < cLine) (he : SE g X Wx e me) (ho : SE g X Wx o mo) (hi : SE g X Wx i mi)
  (ha : ∀ v,assign (.Subscript o i tpos) X.env v = (do
   let ov <- holding [v] (eval o X.env)
   let iv <- holding [v,ov] (eval i X.env)
   standAt tpos
   holding [v,ov,iv] (setItem ov iv v)
   release [v,ov,iv] []))
  (hs : swapsWithSole [.Subscript o i tpos] e pos.line X.env = pure false) (hw : swappedStores [.Subscript o i tpos] e X.env = pure none) (h1 : (assignEach [.Subscript o i tpos] X.env).map (·.2) = [assign (.Subscript o i tpos) X.env]) :
  SS g X Wx (.Assign [.Subscript o i tpos] e pos) (iP me mo mi) := by
 intro σw h σ H μ E rs rh po
 refine oQ (ps_asg aX (pg_sub aX aX wF ha) hs hw h1) ?_
 refine aI3 he σw h σ H μ _ rs rh ((PoS.then rs rh po).imp fun w h1 μ1 H1 x1 r1 p1 vw qw fw => ?_)
 have rs1 := rs.ext rh.trk x1
 refine ho σw h1 σ H1 μ1 _ rs1 r1 ((PoS.then rs1 r1 (p1 μ1 H1 x1)).imp fun x h2 μ2 H2 x2 r2 p2 vx qx fx => ?_)
 have rs2 := rs1.ext r1.trk x2
 refine hi σw h2 σ H2 μ2 _ rs2 r2 ((PoS.then rs2 r2 (p2 μ2 H2 x2)).imp fun y h3 μ3 H3 x3 r3 p3 vy qy fy => ?_)
 have p4 := p3 μ3 H3 x3
 split at p4
 ·rename_i h4 e4
  refine wV hu r3 (qx.ext r2.trk x3) qy ((qw.ext r1.trk x2).ext r2.trk x3) e4 fun H4 x4 r4 => ?_
  exact p4 μ3 H4 σ x4 r4 ((rs2.ext r2.trk x3).ext r3.trk x4)
 ·exact p4.elim
end
def fK : Nat := 16777300
/-- none: not known; some none: it ends -/
abbrev Src := Nat -> Hh -> Option (Option D)
/-- like Ext; what S names may have been written meanwhile -/
structure ExtS (S : Addr -> Prop) (μ : List Addr) (H : Hp) (μ' : List Addr) (H' : Hp) : Prop where
 pre : ∃ e,μ' = μ ++ e /\ ∀ x ∈ e,H x = none
 fr' : ∀ b o,H b = some o -> b ∉ μ -> ¬ S b -> rF o = false -> H' b = some o
 lv : ∀ x ∈ μ,H' x ≠ none
 ls : ∀ x,S x -> H x ≠ none -> H' x ≠ none
 tb : ∀ b ps,H b = some (.tbl ps) -> ¬ S b -> ∃ ps',H' b = some (.tbl ps')
theorem ExtS.fr {S : Addr -> Prop} {μ μ' : List Addr} {H H' : Hp} (x : ExtS S μ H μ' H') (b : Addr) (o : HO) (q : H b = some o) (n : b ∉ μ) (s : ¬ S b) (t : rF o = false := by rfl) : H' b = some o := x.fr' b o q n s t
theorem ExtS.kp {S : Addr -> Prop} {μ μ' : List Addr} {H H' : Hp} (x : ExtS S μ H μ' H') {b : Addr} {o : HO} (q : H b = some o) : H' b ≠ none := by
 by_cases hm : b ∈ μ
 ·exact x.lv b hm
 ·by_cases hs : S b
  ·exact x.ls b hs (by rw [q]; simp)
  ·by_cases ht : rF o = true
   ·obtain ⟨ps,rfl⟩ := aA6 ht
    obtain ⟨ps',e⟩ := x.tb b ps q hs
    rw [e]; simp
   ·rw [x.fr' b o q hm hs (by simpa using ht)]; simp
/-- what was in the making at a state -/
def vP (μ : List Addr) (H : Hp) (b : Addr) : Prop := ∃ o,H b = some o /\ eL o = true /\ b ∉ μ
def FrS (S : Addr -> Prop) (w : D) (v : V) : Prop := match w with
 | .tl _ => ∀ a,v = .ref a -> ¬ S a
 | _ => True
section
variable {g : Gx} {S : Addr -> Prop} {μ μ' μ1 μ2 : List Addr} {H H' H1 H2 : Hp} {w : D} {v : V}
theorem Ext.toS (x : Ext μ H μ' H') (hs : ∀ b,S b -> H b ≠ none -> b ∉ μ) : ExtS S μ H μ' H' := ⟨x.pre,fun b o q n _ t => x.fr' b o q n t,x.lv,fun b sb n => by
 cases q : H b with
 | none => exact absurd q n
 | some o => exact x.kp q,fun b ps q _ => x.tb b ps q⟩
theorem ExtS.trans (a : ExtS S μ H μ1 H1) (b : Ext μ1 H1 μ2 H2) (hs : ∀ b,S b -> b ∉ μ1) : ExtS S μ H μ2 H2 := by
 have kp := fun {b : Addr} {o : HO} (q : H b = some o) => a.kp q
 have kb := fun {c : Addr} {o : HO} (q : H1 c = some o) => b.kp q
 obtain ⟨⟨e1,rfl,f1⟩,r1,l1,s1,t1⟩ := a
 obtain ⟨⟨e2,rfl,f2⟩,r2,l2,t2⟩ := b
 refine ⟨⟨e1 ++ e2,by simp,fun x hx => ?_⟩,fun b o q n ns nt => r2 b o (r1 b o q n ns nt) ?_ nt,fun x hx => l2 x (List.mem_append_left _ hx),fun x sx n => ?_,fun b ps e ns => let ⟨ps1,e1⟩ := t1 b ps e ns; t2 b ps1 e1⟩
 ·rcases List.mem_append.mp hx with hx | hx
  ·exact f1 x hx
  ·cases q : H x with
   | none => rfl
   | some o => exact absurd (f2 x hx) (kp q)
 ·intro hm
  rcases List.mem_append.mp hm with hm | hm
  ·exact n hm
  ·rw [f1 b hm] at q; cases q
 ·cases q : H1 x with
  | none => exact absurd q (s1 x sx n)
  | some o => exact kb q
theorem Ext.transS (a : Ext μ H μ1 H1) (b : ExtS S μ1 H1 μ2 H2) (hs : ∀ b,S b -> H b ≠ none -> b ∉ μ) : ExtS S μ H μ2 H2 := by
 have kp := fun {b : Addr} {o : HO} (q : H b = some o) => a.kp q
 obtain ⟨⟨e1,rfl,f1⟩,r1,l1,t1⟩ := a
 obtain ⟨⟨e2,rfl,f2⟩,r2,l2,s2,t2⟩ := b
 refine ⟨⟨e1 ++ e2,by simp,fun x hx => ?_⟩,fun b o q n ns nt => r2 b o (r1 b o q n nt) ?_ ns nt,fun x hx => l2 x (List.mem_append_left _ hx),fun x sx n => s2 x sx ?_,fun b ps e ns => let ⟨ps1,e1⟩ := t1 b ps e; t2 b ps1 e1 ns⟩
 ·rcases List.mem_append.mp hx with hx | hx
  ·exact f1 x hx
  ·cases q : H x with
   | none => rfl
   | some o => exact absurd (f2 x hx) (kp q)
 ·intro hm
  rcases List.mem_append.mp hm with hm | hm
  ·exact n hm
  ·rw [f1 b hm] at q; cases q
 ·cases q : H x with
  | none => exact absurd q n
  | some o => exact kp q
theorem ExtS.upd {a : Addr} {o' : HO} (x : ExtS S μ H μ' H') (sa : S a) : ExtS S μ H μ' (L2.upd H' a o') :=
 ⟨x.pre,fun b u q nb ns nt => by rw [upd_ne (show b ≠ a from fun z => ns (by rw [z]; exact sa))]; exact x.fr' b u q nb ns nt,fun y hy => by
  by_cases hy' : y = a
  ·subst hy'; rw [upd_same]; simp
  ·rw [upd_ne hy']; exact x.lv y hy,fun y sy n => by
  by_cases hy' : y = a
  ·subst hy'; rw [upd_same]; simp
  ·rw [upd_ne hy']; exact x.ls y sy n,fun b ps e ns => by
  rw [upd_ne (show b ≠ a from fun z => ns (by rw [z]; exact sa))]; exact x.tb b ps e ns⟩
theorem ExtS.get (x : ExtS S μ H μ' H') {i : Nat} {a : Addr} (e : μ[i]? = some a) : μ'[i]? = some a := by
 obtain ⟨⟨e1,rfl,_⟩,_,_⟩ := x
 exact vY e
theorem ExtS.notin (x : ExtS S μ H μ' H') {a : Addr} {o : HO} (q : H a = some o) (n : a ∉ μ) : a ∉ μ' := by
 obtain ⟨⟨e1,rfl,f1⟩,_,_⟩ := x
 intro hm
 rcases List.mem_append.mp hm with hm | hm
 ·exact n hm
 ·rw [f1 a hm] at q; cases q
theorem Fr.toS (f : Fr H w v) : FrS (vP μ H) w v := by
 cases w <;> first | exact True.intro | skip
 rintro a e ⟨o,q,_⟩
 have := f a e
 rw [this] at q; cases q
/-- S names what may be written,and nothing tracked -/
structure SOk (S : Addr -> Prop) (μ : List Addr) (H : Hp) : Prop where
 mu : ∀ b,S b -> ∃ o,H b = some o /\ eL o = true
 nin : ∀ b,S b -> b ∉ μ
theorem SOk.of (x : Ext μ H μ' H') : SOk (vP μ H) μ' H' := ⟨fun b ⟨o,q,m,n⟩ => ⟨o,x.fr' b o q n (tT m),m⟩,fun b ⟨o,q,m,n⟩ => x.notin q n⟩
theorem SOk.ext (s : SOk S μ H) (x : Ext μ H μ' H') : SOk S μ' H' := ⟨fun b sb => let ⟨o,q,m⟩ := s.mu b sb; ⟨o,x.fr' b o q (s.nin b sb) (tT m),m⟩,fun b sb => let ⟨o,q,m⟩ := s.mu b sb; x.notin q (s.nin b sb)⟩
end
mutual
theorem RV.extS {g : Gx} {S : Addr -> Prop} {μ μ' : List Addr} {H H' : Hp} (t : Trk μ H) (s : SOk S μ H) (x : ExtS S μ H μ' H') : ∀ {w : D} {v : V},FrS S w v -> RV g μ H w v -> RV g μ' H' w v
 | .non,_,_,r => r
 | .bl _,_,_,r => r
 | .int _,_,_,r => r
 | .str _,_,_,r => r
 | .ty _,_,_,r => r
 | .fn _,_,_,r => r
 | .cls _,_,_,r => r
 | .ref i,_,_,r => by
  obtain ⟨a,e,q⟩ := r
  exact ⟨a,x.get e,q⟩
 | .xc c ks ws,_,_,r => by
  obtain ⟨a,C,d,vs,e,hC,q,hl,hd,z⟩ := r
  refine ⟨a,C,d,vs,e,hC,x.fr _ _ q (fun hm => ?_) (fun hm => ?_),hl, ?_,RVs.extS t s x z⟩
  ·obtain ⟨o,eo,k⟩ := t a hm
   rw [q] at eo; cases eo; cases k
  ·obtain ⟨o,eo,k⟩ := s.mu a hm
   rw [q] at eo; cases eo; cases k
  ·rcases hd with hd | ⟨dx,e1,e2⟩
   ·exact .inl hd
   ·refine .inr ⟨dx,e1,x.fr _ _ e2 (fun hm => ?_) fun hm => ?_⟩
    ·obtain ⟨o,eo,k⟩ := t dx hm
     rw [e2] at eo; cases eo; cases k
    ·obtain ⟨o,eo,k⟩ := s.mu dx hm
     rw [e2] at eo; cases eo; cases k
 | .tup ws,_,_,r => by
  obtain ⟨a,vs,e,q,z⟩ := r
  refine ⟨a,vs,e,x.fr _ _ q (fun hm => ?_) fun hm => ?_,RVs.extS t s x z⟩
  ·obtain ⟨o,eo,k⟩ := t a hm
   rw [q] at eo; cases eo; cases k
  ·obtain ⟨o,eo,k⟩ := s.mu a hm
   rw [q] at eo; cases eo; cases k
 | .kt ws,_,_,r => by
  obtain ⟨a,vs,e,q,z⟩ := r
  refine ⟨a,vs,e, ?_,RVs.extS t s x z⟩
  rcases q with (q | ⟨o,q⟩) | q
  ·refine .inl (.inl (x.fr _ _ q (fun hm => ?_) fun hm => ?_))
   ·obtain ⟨o,eo,k⟩ := t a hm
    rw [q] at eo; cases eo; cases k
   ·obtain ⟨o,eo,k⟩ := s.mu a hm
    rw [q] at eo; cases eo; cases k
  ·refine .inl (.inr ⟨o,x.fr _ _ q (fun hm => ?_) fun hm => ?_⟩)
   ·obtain ⟨o,eo,k⟩ := t a hm
    rw [q] at eo; cases eo; cases k
   ·obtain ⟨o,eo,k⟩ := s.mu a hm
    rw [q] at eo; cases eo; cases k
  ·exact .inr q
 | .fl ws,_,_,r => by
  obtain ⟨a,vs,e,q,z⟩ := r
  refine ⟨a,vs,e, ?_,RVs.extS t s x z⟩
  rcases q with ⟨o,q⟩ | q
  ·refine .inl ⟨o,x.fr _ _ q (fun hm => ?_) fun hm => ?_⟩
   ·obtain ⟨o,eo,k⟩ := t a hm
    rw [q] at eo; cases eo; cases k
   ·obtain ⟨o,eo,k⟩ := s.mu a hm
    rw [q] at eo; cases eo; cases k
  ·exact .inr q
 | .tl ws,_,f,r => by
  obtain ⟨a,vs,e,q,n,z⟩ := r
  exact ⟨a,vs,e,x.fr _ _ q n (f a e),x.notin q n,RVs.extS t s x z⟩
theorem RVs.extS {g : Gx} {S : Addr -> Prop} {μ μ' : List Addr} {H H' : Hp} (t : Trk μ H) (s : SOk S μ H) (x : ExtS S μ H μ' H') : ∀ {ws : List D} {vs : List V},RVs g μ H ws vs -> RVs g μ' H' ws vs
 | [],_,r => r
 | w :: ws,_,r => by
  obtain ⟨v,rr,e,nt,q,z⟩ := r
  exact ⟨v,rr,e,nt,RV.extS t s x (by cases w <;> first | exact True.intro | cases nt) q,RVs.extS t s x z⟩
end
/-- the source may be asked at every later state -/
structure SrcOk (g : Gx) (J : It) (src : Src) (S : Addr -> Prop) (μ : List Addr) (H : Hp) : Prop where
 so : SOk S μ H
 ok : ∀ μ' H' h',ExtS S μ H μ' H' -> RH g μ' h' H' -> ∀ i,match src i h' with
  | none => True
  | some none => J.stop i H'
  | some (some w) => J.go i H' /\ ∀ x H2,J.yld i H' x H2 -> Ext μ' H' μ' H2 /\ RH g μ' h' H2 /\ w.isTl = false /\ RV g μ' H2 w x
theorem SrcOk.ext {g : Gx} {J : It} {src : Src} {S : Addr -> Prop} {μ μ' : List Addr} {H H' : Hp} (s : SrcOk g J src S μ H) (x : Ext μ H μ' H') : SrcOk g J src S μ' H' := ⟨s.so.ext x,fun μ2 H2 h2 x2 r2 i => s.ok μ2 H2 h2 (x.transS x2 fun b sb _ => s.so.nin b sb) r2 i⟩
theorem SrcOk.at {g : Gx} {J : It} {src : Src} {S : Addr -> Prop} {μ : List Addr} {H : Hp} {h : Hh} (s : SrcOk g J src S μ H) (r : RH g μ h H) (i : Nat) : match src i h with
  | none => True
  | some none => J.stop i H
  | some (some w) => J.go i H /\ ∀ x H2,J.yld i H x H2 -> Ext μ H μ H2 /\ RH g μ h H2 /\ w.isTl = false /\ RV g μ H2 w x := s.ok μ H h ((Ext.refl r.trk).toS fun b sb _ => s.so.nin b sb) r i
def xB (X : Cx) (tg iter : Expr) : TI := fun σ H R => ∀ pins s,Inv X pins σ H s -> wpAny (model X.prog X.w) X.A (eval iter X.env) (fun v s1 => wpAny (model X.prog X.w) X.A (pyIter v) (PIE X pins σ tg R) X.xe s1) X.xe s
theorem uU {X : Cx} {tg iter : Expr} : PI X tg iter (xB X tg iter) := ⟨fun pins s σ H R I h => h pins s I⟩
theorem zR {X : Cx} {tg iter : Expr} {t : TI} (p : PI X tg iter t) {σ : L2.St} {H : Hp} {R : It -> Hp -> Prop} (h : t σ H R) : xB X tg iter σ H R := fun pins s I => p.run pins s σ H R I h
def SI (g : Gx) (X : Cx) (Wx : WX) (tg iter : Expr) (m : M Src) : Prop := ∀ (σw : Sg) (h : Hh) (σ : L2.St) (H : Hp) (μ : List Addr) (R : It -> Hp -> Prop),RS g μ H σw σ -> RH g μ h H ->
 Po g Wx σ μ H (m σw h) (fun src h' μ' H' => ∀ J,SrcOk g J src (vP μ H) μ' H' -> R J H') -> xB X tg iter σ H R
def lW (src : Src) (t : Tg) (b : MS) : Nat -> Nat -> MS
 | 0,_ => fun _ _ => .bad
 | n + 1,i => fun σ h => match src i h with
  | none => .bad
  | some none => .nx σ h
  | some (some w) => match t.set w σ h with
   | none => .bad
   | some σ1 => match b σ1 h with
    | .nx σ2 h2 => lW src t b n (i + 1) σ2 h2
    | .cont σ2 h2 => lW src t b n (i + 1) σ2 h2
    | .brk σ2 h2 => .nx σ2 h2
    | r => r
def nZ (mi : M Src) (t : Tg) (b : MS) : MS := fun σ h => (mi σ h).then σ fun src h1 => lW src t b fK 0 σ h1
section
variable {g : Gx} {X : Cx} {Wx : WX} {tg iter : Expr} {body : List Stmt} {mi : M Src} {t : Tg} {mb : MS} {pos : Pos}
theorem aHE (hp : PassesOwn (model X.prog X.w) X.A X.env X.xe) (hc : X.calm = true) (hi : SI g X Wx tg iter mi) (hg : SG g X tg t) (hb : SL g X Wx body mb) (hs : ∀ x,foldedSetIterable iter X.env x = pure x) :
  SS g X Wx (.For tg iter body [] pos) (nZ mi t mb) := by
 intro σw h σ H μ E rs rh po
 refine oQ (ps_for hp hc uU aBU rK hs) (hi σw h σ H μ _ rs rh ((PoS.then rs rh po).imp fun src h1 μ1 H1 x1 r1 p1 J sk => ?_))
 generalize vP μ H = S0 at sk
 refine ⟨fun i m σ H => ∃ σw h μ,RS g μ H σw σ /\ RH g μ h H /\ SrcOk g J src S0 μ H /\ PoS g Wx μ H (lW src t mb m i σw h) E,⟨fK,σw,h1,μ1,rs.ext rh.trk x1,r1,sk,p1 μ1 H1 x1⟩, ?_⟩
 rintro i m σ H ⟨σw,h,μ,rs,rh,sk,po⟩
 cases m with
 | zero => exact po.elim
 | succ n =>
  simp only [lW] at po
  have sk1 := sk.at rh i
  cases e1 : src i h with
  | none => rw [e1] at po; exact po.elim
  | some o =>
   rw [e1] at po sk1
   cases o with
   | none => exact .inl ⟨sk1,po.at rh rs⟩
   | some w =>
    obtain ⟨go,yl⟩ := sk1
    refine .inr ⟨go,fun σ' H' => ∃ σw h μ,RS g μ H' σw σ' /\ RH g μ h H' /\ SrcOk g J src S0 μ H' /\ PoS g Wx μ H' (lW src t mb n (i + 1) σw h) E,fun σ' H' q => ⟨n,Nat.lt_succ_self n,q⟩,fun x H2 y => ?_⟩
    obtain ⟨x2,r2,nt,q2⟩ := yl x H2 y
    simp only at po
    cases e2 : t.set w σw h with
    | none => rw [e2] at po; exact po.elim
    | some σ1 =>
     rw [e2] at po
     simp only at po
     refine hg w x σw σ1 h σ H2 μ _ (rs.ext rh.trk x2) r2 nt q2 e2 fun σ3 rs3 _ => ?_
     refine hb σ1 h σ3 H2 μ _ rs3 r2 ?_
     cases hx : mb σ1 h with
     | nx σ4 h4 => rw [hx] at po; exact fun μ5 H5 σ5 x5 r5 s5 => ⟨σ4,h4,μ5,s5,r5,sk.ext (x2.trans x5),PoS.ext (r := lW src t mb n (i + 1) σ4 h4) po (x2.trans x5)⟩
     | cont σ4 h4 => rw [hx] at po; exact fun μ5 H5 σ5 x5 r5 s5 => ⟨σ4,h4,μ5,s5,r5,sk.ext (x2.trans x5),PoS.ext (r := lW src t mb n (i + 1) σ4 h4) po (x2.trans x5)⟩
     | brk σ4 h4 => rw [hx] at po; exact fun μ5 H5 σ5 x5 r5 s5 => po μ5 H5 σ5 (x2.trans x5) r5 s5
     | ret w4 h4 => rw [hx] at po; exact fun μ5 H5 v x5 r5 q5 f5 => po μ5 H5 v (x2.trans x5) r5 q5 (f5.back x2)
     | exc c fs σ4 h4 => rw [hx] at po; exact fun μ5 H5 σ5 cv d x5 r5 s5 v5 => po μ5 H5 σ5 cv d (x2.trans x5) r5 s5 v5
     | bad => rw [hx] at po; exact po.elim
end
end PV
end
section
namespace PV
open PySem PySem.Spec PyProof.Rows L2
def aAo (x : D) : Src := fun i h => match asL h x with
 | some ws => some ws[i]?
 | none => none
def aEj (ws : List D) : Src := fun i _ => some ws[i]?
def aAp (z : Str) : Src := fun i _ => some ((z.cps.toList[i]?).map fun c => .str ⟨#[c]⟩)
def qP (lo : Int) (n : Nat) : Src := fun i _ => some (if i < n then some (.int (lo + i)) else none)
section
variable {g : Gx} {X : Cx} {Wx : WX} {S : Addr -> Prop} {μ : List Addr} {H : Hp} {h : Hh}
theorem fst {x : D} {v : V} {ws : List D} (e : asT x = some ws) : FrS S x v := by
 cases x <;> first | exact True.intro | cases e
theorem aEk {x : D} {a : Addr} (hv : RV g μ H x (.ref a)) (tr : Trk μ H) (so : SOk S μ H) (fx : FrS S x (.ref a)) : SrcOk g (Itl g.K a) (aAo x) S μ H := by
 refine ⟨so, ?_⟩
 intro μ' H' h' x1 r1 i
 unfold aAo
 cases e : asL h' x with
 | none => exact True.intro
 | some ws =>
  obtain ⟨b,vs,eb,s1,z⟩ := iL r1 (hv.extS tr so x1 fx) e
  cases eb
  cases e2 : ws[i]? with
  | none => simp only [e2]; exact ⟨vs,s1,by rw [z.length]; exact List.getElem?_eq_none_iff.mp e2⟩
  | some w =>
   simp only [e2]
   obtain ⟨v,ev,nt,q⟩ := z.get e2
   refine ⟨⟨vs,v,s1,ev⟩,fun y H2 yl => ?_⟩
   obtain ⟨rfl,yl⟩ := yl
   have := yl vs s1
   rw [ev] at this; cases this
   exact ⟨.refl r1.trk,r1,nt,q⟩
theorem aF3 {x : D} {ws : List D} {a : Addr} (hv : RV g μ H x (.ref a)) (tr : Trk μ H) (so : SOk S μ H) (e : asT x = some ws) : SrcOk g (Itt g.K a) (aEj ws) S μ H := by
 refine ⟨so, ?_⟩
 intro μ' H' h' x1 r1 i
 unfold aEj
 obtain ⟨b,vs,eb,s1,z⟩ := fO (hv.extS tr so x1 (fst e)) e
 cases eb
 cases e2 : ws[i]? with
 | none => exact ⟨vs,s1,by rw [z.length]; exact List.getElem?_eq_none_iff.mp e2⟩
 | some w =>
  obtain ⟨v,ev,nt,q⟩ := z.get e2
  refine ⟨⟨vs,v,s1,ev⟩,fun y H2 yl => ?_⟩
  obtain ⟨rfl,yl⟩ := yl
  have := yl vs s1
  rw [ev] at this; cases this
  exact ⟨.refl r1.trk,r1,nt,q⟩
theorem aF2 (so : SOk S μ H) (z : Str) : SrcOk g (Its z) (aAp z) S μ H := by
 refine ⟨so, ?_⟩
 intro μ' H' h' x1 r1 i
 unfold aAp
 cases e2 : z.cps.toList[i]? with
 | none =>
  have := List.getElem?_eq_none_iff.mp e2
  show z.cps.size <= i
  simpa using this
 | some c =>
  have e3 : z.cps[i]? = some c := by simpa using e2
  refine ⟨?_,fun y H2 yl => ?_⟩
  ·show i < z.cps.size
   have := (List.getElem?_eq_some_iff.mp e2).1
   simpa using this
  ·obtain ⟨rfl,c',ec,rfl⟩ := yl
   rw [e3] at ec; cases ec
   exact ⟨.refl r1.trk,r1,rfl,rfl⟩
theorem aF1 (so : SOk S μ H) (lo : Int) (n : Nat) : SrcOk g (Itr lo n) (qP lo n) S μ H := by
 refine ⟨so, ?_⟩
 intro μ' H' h' x1 r1 i
 unfold qP
 by_cases hi : i < n
 ·rw [if_pos hi]
  refine ⟨hi,fun y H2 yl => ?_⟩
  obtain ⟨rfl,rfl⟩ := yl
  exact ⟨.refl r1.trk,r1,rfl,rfl⟩
 ·rw [if_neg hi]
  exact Nat.le_of_not_lt hi
end
/-- what a plain expression is walked as -/
def qO (x : D) (h : Hh) : Option Src := match asT x with
 | some ws => some (aEj ws)
 | none => match asL h x with
  | some _ => some (aAo x)
  | none => match x with
   | .str z => some (aAp z)
   | _ => none
def miE (m : M D) : M Src := fun σ h => (m σ h).bind fun x h1 => match qO x h1 with
 | some s => .ok s h1
 | none => .bad
def kP (m : M D) : M Src := fun σ h => (m σ h).bind fun x h1 => match x with
 | .int j => if -(2 ^ 62) <= j /\ j < 2 ^ 62 then .ok (qP 0 j.toNat) h1 else .bad
 | _ => .bad
section
variable {g : Gx} {X : Cx} {Wx : WX} {tg e e2 : Expr} {me me2 : M D} {p pos tpos : Pos} {elts : List Expr} {kk : Nat}
theorem aK1 (hK : X.K = g.K) (he : SE g X Wx e me) : SI g X Wx tg e (miE me) := by
 intro σw h σ H μ Rr rs rh po
 unfold miE at po
 cases hx : me σw h with
 | bad => rw [hx] at po; exact po.elim
 | exc c fs h1 =>
  rw [hx] at po
  refine zR (pi_list aX) (he σw h σ H μ _ rs rh ?_)
  rw [hx]; exact po
 | ok x h1 =>
  rw [hx,PV.R.bind_ok] at po
  unfold qO at po
  cases e1 : asT x with
  | some ws =>
   rw [e1] at po
   refine zR (pi_tup aX) (he σw h σ H μ _ rs rh ?_)
   rw [hx]
   intro μ1 H1 x1 r1 v q f
   obtain ⟨a,vs,rfl,s1,z⟩ := fO q e1
   refine ⟨a,rfl,⟨vs,by rw [hK]; exact s1⟩, ?_⟩
   rw [hK]
   exact po μ1 H1 x1 r1 _ (aF3 q r1.trk (.of x1) e1)
  | none =>
   rw [e1] at po
   cases e2 : asL h1 x with
   | some ws =>
    simp only [e2] at po
    refine zR (pi_list aX) (he σw h σ H μ _ rs rh ?_)
    rw [hx]
    intro μ1 H1 x1 r1 v q f
    obtain ⟨a,vs,rfl,s1,z⟩ := iL r1 q e2
    refine ⟨a,rfl,⟨vs,by rw [hK]; exact s1⟩, ?_⟩
    rw [hK]
    exact po μ1 H1 x1 r1 _ (aEk q r1.trk (.of x1) f.toS)
   | none =>
    simp only [e2] at po
    cases x <;> first | exact po.elim | skip
    rename_i z
    refine zR (pi_str aX) (he σw h σ H μ _ rs rh ?_)
    rw [hx]
    intro μ1 H1 x1 r1 v q f
    exact ⟨z,q,po μ1 H1 x1 r1 _ (aF2 (.of x1) z)⟩
theorem aI4 (hg : Gl X "range") (hm : X.mg "range" = none) (hs : starEach [e] X.env = [(false,eval e X.env)]) (he : SE g X Wx e me) : SI g X Wx tg (.Call (.Name "range" p) [e] [] pos) (kP me) := by
 intro σw h σ H μ Rr rs rh po
 refine zR (pi_range1 hg hm (pa_cons aX pa_nil hs) hs) (he σw h σ H μ _ rs rh (po.bind.imp fun x h1 μ1 H1 x1 r1 p1 v q f => ?_))
 split at p1
 ·split at p1
  ·rename_i j hj
   rw [show v = .int j from q]
   exact ⟨j,rfl,hj.1,hj.2,p1.at r1 _ (aF1 (.of x1) 0 j.toNat)⟩
  ·exact p1.elim
 ·exact p1.elim
end
end PV
end
section
namespace PV
open PySem PySem.Spec PyProof.Rows L2
section
variable {g : Gx} {μ μ' μ1 : List Addr} {h : Hh} {H H' H1 : Hp} {a : Addr} {o o' : HO}
theorem aF0 {b : Addr} {vs : List V} (q : H a = some o) (m : eL o = true) (s : SqT g.K H b vs) : SqT g.K (upd H a o') b vs := by
 rcases s with (s | ⟨ob,s⟩) | s
 ·refine .inl (.inl ?_)
  rw [upd_ne (fun z => by subst z; rw [q] at s; cases s; cases m)]
  exact s
 ·refine .inl (.inr ⟨ob, ?_⟩)
  rw [upd_ne (fun z => by subst z; rw [q] at s; cases s; cases m)]
  exact s
 ·exact .inr s
theorem aFY {b : Addr} {vs : List V} (q : H a = some o) (m : eL o = true) (s : SqF g.K H b vs) : SqF g.K (upd H a o') b vs := by
 rcases s with ⟨ob,s⟩ | s
 ·refine .inl ⟨ob, ?_⟩
  rw [upd_ne (fun z => by subst z; rw [q] at s; cases s; cases m)]
  exact s
 ·exact .inr s
end
mutual
theorem RV.upd {g : Gx} {μ : List Addr} {H : Hp} {a : Addr} {o o' : HO} (q : H a = some o) (m : eL o = true) : ∀ {w : D} {v : V},w.isTl = false -> RV g μ H w v -> RV g μ (L2.upd H a o') w v
 | .non,_,_,r => r
 | .bl _,_,_,r => r
 | .int _,_,_,r => r
 | .str _,_,_,r => r
 | .ty _,_,_,r => r
 | .fn _,_,_,r => r
 | .cls _,_,_,r => r
 | .ref i,_,_,r => r
 | .xc c ks ws,_,_,r => by
  obtain ⟨b,C,d,vs,e,hC,s,hl,hd,z⟩ := r
  refine ⟨b,C,d,vs,e,hC, ?_,hl, ?_,RVs.upd q m z⟩
  ·rw [upd_ne (fun y => by subst y; rw [q] at s; cases s; cases m)]
   exact s
  ·rcases hd with hd | ⟨dx,e1,e2⟩
   ·exact .inl hd
   ·refine .inr ⟨dx,e1, ?_⟩
    rw [upd_ne (fun y => by subst y; rw [q] at e2; cases e2; cases m)]
    exact e2
 | .tup ws,_,_,r => by
  obtain ⟨b,vs,e,s,z⟩ := r
  refine ⟨b,vs,e, ?_,RVs.upd q m z⟩
  rw [upd_ne (fun y => by subst y; rw [q] at s; cases s; cases m)]
  exact s
 | .kt ws,_,_,r => by
  obtain ⟨b,vs,e,s,z⟩ := r
  exact ⟨b,vs,e,aF0 q m s,RVs.upd q m z⟩
 | .fl ws,_,_,r => by
  obtain ⟨b,vs,e,s,z⟩ := r
  exact ⟨b,vs,e,aFY q m s,RVs.upd q m z⟩
 | .tl ws,_,n,_ => by cases n
theorem RVs.upd {g : Gx} {μ : List Addr} {H : Hp} {a : Addr} {o o' : HO} (q : H a = some o) (m : eL o = true) : ∀ {ws : List D} {vs : List V},RVs g μ H ws vs -> RVs g μ (L2.upd H a o') ws vs
 | [],_,r => r
 | w :: ws,_,r => by
  obtain ⟨v,rr,e,nt,z,zs⟩ := r
  exact ⟨v,rr,e,nt,RV.upd q m nt z,RVs.upd q m zs⟩
end
section
variable {g : Gx} {μ μ' μ1 : List Addr} {h : Hh} {H H' H1 : Hp} {a : Addr} {o o' : HO}
theorem RKs.upd {κ : Type} (q : H a = some o) (m : eL o = true) : ∀ {ws : List (κ × D)} {vs : List (κ × V)},RKs g μ H ws vs -> RKs g μ (L2.upd H a o') ws vs
 | [],_,r => r
 | w :: ws,_,r => by
  obtain ⟨v,rr,e,nt,z,zs⟩ := r
  exact ⟨v,rr,e,nt,z.upd q m nt,RKs.upd q m zs⟩
theorem RH.upd (r : RH g μ h H) (q : H a = some o) (m : eL o = true) (na : a ∉ μ) : RH g μ h (L2.upd H a o') :=
 ⟨r.len,r.nd,fun i c e => by
  obtain ⟨b,eb,rc⟩ := r.cell i c e
  have nb : b ≠ a := fun z => na (by rw [<- z]; exact gH eb)
  refine ⟨b,eb, ?_⟩
  cases c with
  | lst ws => obtain ⟨vs,e1,z⟩ := rc; exact ⟨vs,(upd_ne nb).trans e1,z.upd q m⟩
  | dK ws => obtain ⟨vs,e1,z⟩ := rc; exact ⟨vs,(upd_ne nb).trans e1,z.upd q m⟩
  | dT ws => obtain ⟨vs,e1,z⟩ := rc; exact ⟨vs,(upd_ne nb).trans e1,z.upd q m⟩
  | ins c fs => obtain ⟨C,dx,vs,k,e1,z⟩ := rc; exact ⟨C,dx,vs,k,(upd_ne nb).trans e1,z.upd q m⟩,aBr ⟨o,q,m⟩ r.tabs⟩
theorem Ext.updN (x : Ext μ1 H1 μ H) (t : Trk μ1 H1) (n : H1 a = none) : Ext μ1 H1 μ (L2.upd H a o') :=
 ⟨x.pre,fun b u q nb nt => by rw [upd_ne (ne_of_none q n)]; exact x.fr' b u q nb nt,fun y hy => by
  rw [upd_ne (t.ne n hy)]; exact x.lv y hy,fun b ps q => by
  rw [upd_ne (ne_of_none q n)]; exact x.tb b ps q⟩
end
/-- a loop over J: each turn by stp,at the end Fin -/
def aBw (J : It) (stp : V -> Hp -> (Hp -> Prop) -> Prop) (H : Hp) (Fin : Hp -> Prop) : Prop := ∃ W : Nat -> Nat -> Hp -> Prop,(∃ m,W 0 m H) /\ ∀ i m H,W i m H ->
 (J.stop i H /\ Fin H) \/ (J.go i H /\ ∃ Nx : Hp -> Prop,(∀ H',Nx H' -> ∃ m',m' < m /\ W (i + 1) m' H') /\ ∀ x H',J.yld i H x H' -> stp x H' Nx)
/-- what has been made so far: acc,told by rel; Gr: the ground it stands on -/
structure Gd (g : Gx) {α : Type} (rel : List Addr -> Hp -> α -> HO -> Prop) (Gr : List Addr -> Hp -> Prop) (a : Addr) (μ : List Addr) (h : Hh) (acc : α) (H : Hp) : Prop where
 x : Gr μ H
 r : RH g μ h H
 na : a ∉ μ
 ob : ∃ o,H a = some o /\ eL o = true /\ rel μ H acc o
structure GrOk (Gr : List Addr -> Hp -> Prop) (a : Addr) : Prop where
 ext : ∀ {μ H μ' H'},Gr μ H -> Trk μ H -> Ext μ H μ' H' -> Gr μ' H'
 up : ∀ {μ H o o'},Gr μ H -> H a = some o -> eL o = true -> a ∉ μ -> eL o' = true -> Gr μ (upd H a o')
def PoL (g : Gx) {α : Type} (rel : List Addr -> Hp -> α -> HO -> Prop) (Gr : List Addr -> Hp -> Prop) (a : Addr) (r : R α) (Fin : Hp -> Prop) : Prop := match r with
 | .ok acc h => ∀ μ H,Gd g rel Gr a μ h acc H -> Fin H
 | .exc _ _ _ => False
 | .bad => False
def lcL {α : Type} (src : Src) (t : Tg) (body : α -> Sg -> Hh -> R α) (σ0 : Sg) : Nat -> Nat -> α -> Hh -> R α
 | 0,_,_,_ => .bad
 | n + 1,i,acc,h => match src i h with
  | none => .bad
  | some none => .ok acc h
  | some (some w) => match t.set w σ0 h with
   | none => .bad
   | some σ1 => (body acc σ1 h).bind fun acc' h' => lcL src t body σ0 n (i + 1) acc' h'
/-- an exception out of a comprehension is not known here -/
def noX {α : Type} (r : R α) : R α := match r with
 | .exc _ _ _ => .bad
 | r => r
theorem aBJ {μ1 : List Addr} {H1 : Hp} {a : Addr} (tr : Trk μ1 H1) (nw : H1 a = none) : GrOk (Ext μ1 H1) a := ⟨fun x _ y => x.trans y,fun x _ _ _ _ => x.updN tr nw⟩
section
variable {g : Gx} {α : Type} {rel : List Addr -> Hp -> α -> HO -> Prop} {Gr Gr' : List Addr -> Hp -> Prop} {a : Addr} {J : It} {src : Src} {t : Tg} {body : α -> Sg -> Hh -> R α} {σ0 : Sg} {stp : V -> Hp -> (Hp -> Prop) -> Prop} {Fin : Hp -> Prop}
theorem PoL.bind {r : R α} {f : α -> Hh -> R α} (p : PoL g rel Gr a (r.bind f) Fin) : PoL g rel Gr a r fun H => ∃ acc h μ,Gd g rel Gr a μ h acc H /\ PoL g rel Gr a (f acc h) Fin := by
 cases r with
 | ok acc h => exact fun μ H G => ⟨acc,h,μ,G,p⟩
 | exc _ _ _ => exact p
 | bad => exact p
theorem Gd.sub {μ : List Addr} {h : Hh} {acc : α} {H : Hp} (G : Gd g rel Gr a μ h acc H) (s : Gr μ H -> Gr' μ H) : Gd g rel Gr' a μ h acc H := ⟨s G.x,G.r,G.na,G.ob⟩
theorem PoL.sub {r : R α} (p : PoL g rel Gr a r Fin) (s : ∀ {μ H},Gr' μ H -> Gr μ H) : PoL g rel Gr' a r Fin := by
 cases r with
 | ok acc h => exact fun μ H G => p μ H (G.sub s)
 | exc _ _ _ => exact p
 | bad => exact p
theorem Gd.ext {μ μ' : List Addr} {h h' : Hh} {acc : α} {H H' : Hp} (go : GrOk Gr a) (mono : ∀ {μ μ' H H' acc o},Trk μ H -> Ext μ H μ' H' -> rel μ H acc o -> rel μ' H' acc o)
  (G : Gd g rel Gr a μ h acc H) (x : Ext μ H μ' H') (r : RH g μ' h' H') : Gd g rel Gr a μ' h' acc H' := by
 obtain ⟨o,eo,mo,ro⟩ := G.ob
 exact ⟨go.ext G.x G.r.trk x,r,x.notin eo G.na,o,x.fr' a o eo G.na (tT mo),mo,mono G.r.trk x ro⟩
theorem sN (go : GrOk Gr a) (mono : ∀ {μ μ' H H' acc o},Trk μ H -> Ext μ H μ' H' -> rel μ H acc o -> rel μ' H' acc o)
  (sk : ∀ μ H h,Gr μ H -> RH g μ h H -> ∀ i,match src i h with
   | none => True
   | some none => J.stop i H
   | some (some w) => J.go i H /\ ∀ x H2,J.yld i H x H2 -> Ext μ H μ H2 /\ RH g μ h H2 /\ w.isTl = false /\ RV g μ H2 w x)
  (step : ∀ (w : D) (x : V) (acc : α) (h : Hh) (μ : List Addr) (H : Hp) (σ1 : Sg) (Nx : Hp -> Prop),Gd g rel Gr a μ h acc H -> w.isTl = false -> RV g μ H w x -> t.set w σ0 h = some σ1 -> PoL g rel Gr a (body acc σ1 h) Nx -> stp x H Nx)
  {n : Nat} {acc : α} {h : Hh} {μ : List Addr} {H : Hp} (G : Gd g rel Gr a μ h acc H) (po : PoL g rel Gr a (lcL src t body σ0 n 0 acc h) Fin) : aBw J stp H Fin := by
 refine ⟨fun i m H => ∃ acc h μ,Gd g rel Gr a μ h acc H /\ PoL g rel Gr a (lcL src t body σ0 m i acc h) Fin,⟨n,acc,h,μ,G,po⟩, ?_⟩
 rintro i m H ⟨acc,h,μ,G,po⟩
 cases m with
 | zero => exact po.elim
 | succ n =>
  simp only [lcL] at po
  have sk1 := sk μ H h G.x G.r i
  cases e1 : src i h with
  | none => rw [e1] at po; exact po.elim
  | some ow =>
   rw [e1] at po sk1
   cases ow with
   | none => exact .inl ⟨sk1,po μ H G⟩
   | some w =>
    obtain ⟨go1,yl⟩ := sk1
    refine .inr ⟨go1,fun H' => ∃ acc h μ,Gd g rel Gr a μ h acc H' /\ PoL g rel Gr a (lcL src t body σ0 n (i + 1) acc h) Fin,fun H' q => ⟨n,Nat.lt_succ_self n,q⟩,fun x H2 y => ?_⟩
    obtain ⟨x2,r2,nt,q2⟩ := yl x H2 y
    simp only at po
    cases e2 : t.set w σ0 h with
    | none => rw [e2] at po; exact po.elim
    | some σ1 =>
     rw [e2] at po
     exact step w x acc h μ H2 σ1 _ (G.ext go mono x2 r2) nt q2 e2 (PoL.bind (f := fun acc' h' => lcL src t body σ0 n (i + 1) acc' h') po)
theorem kR {α : Type} {r : R α} {c : Nat} {fs : List (Str × D)} {h : Hh} : noX r ≠ .exc c fs h := by
 cases r <;> intro z <;> cases z
theorem bind_exc {α β : Type} {r : R α} {f : α -> Hh -> R β} {c : Nat} {fs : List (Str × D)} {h : Hh} (e : r.bind f = .exc c fs h) : r = .exc c fs h \/ ∃ a h',r = .ok a h' /\ f a h' = .exc c fs h := by
 cases r with
 | ok a h' => exact .inr ⟨a,h',rfl,e⟩
 | exc c' fs' h' => refine .inl ?_; cases e; rfl
 | bad => cases e
theorem pB {α : Type} {src : Src} {t : Tg} {body : α -> Sg -> Hh -> R α} {σ0 : Sg} (hb : ∀ acc σ h c fs h',body acc σ h ≠ .exc c fs h') {c : Nat} {fs : List (Str × D)} {h' : Hh} : ∀ (n i : Nat) (acc : α) (h : Hh),lcL src t body σ0 n i acc h ≠ .exc c fs h'
 | 0,i,acc,h => fun z => by cases z
 | n + 1,i,acc,h => fun z => by
  simp only [lcL] at z
  split at z
  ·cases z
  ·cases z
  ·split at z
   ·cases z
   ·rcases bind_exc z with z | ⟨a,h2,_,z⟩
    ·exact hb _ _ _ _ _ _ z
    ·exact pB hb n (i + 1) a h2 z
end
def dM (σ : Sg) : List Nat -> Sg
 | [] => σ
 | v :: vs => (dM σ vs).set v none
theorem RS.wipe {g : Gx} {μ : List Addr} {H : Hp} {σw : Sg} {σ : L2.St} (r : RS g μ H σw σ) : ∀ vs : List Nat,RS g μ H (dM σw vs) (L2.wipe σ vs)
 | [] => r
 | v :: vs => by
  have ih := RS.wipe r vs
  refine ⟨by unfold dM L2.wipe; rw [List.length_set,List.length_set]; exact ih.1,fun i w e => ?_⟩
  unfold dM at e
  unfold L2.wipe
  by_cases hv : v = i
  ·subst hv
   by_cases hl : v < (dM σw vs).length
   ·rw [List.getElem?_set_self hl] at e; cases e
   ·rw [List.getElem?_eq_none (by simpa using hl)] at e; cases e
  ·rw [List.getElem?_set_ne hv] at e ⊢
   exact ih.2 i w e
theorem oG (σ : L2.St) (vs : List Nat) : wipe (wipe σ vs) vs = wipe σ vs := by
 have key : ∀ (us : List Nat) (τ : L2.St),(∀ i ∈ us,i < τ.length -> τ[i]? = some none) -> wipe τ us = τ := by
  intro us
  induction us with
  | nil => intro τ _; rfl
  | cons v us ih =>
   intro τ hz
   unfold wipe
   rw [ih τ fun i hi hl => hz i (List.mem_cons_of_mem _ hi) hl]
   by_cases hv : v < τ.length
   ·have e := hz v (by simp) hv
    apply List.ext_getElem?
    intro j
    by_cases hj : v = j
    ·subst hj
     rw [List.getElem?_set_self hv,e]
    ·rw [List.getElem?_set_ne hj]
   ·rw [List.set_eq_of_length_le (by omega)]
 refine key vs (wipe σ vs) fun i hi hl => ?_
 cases q : (wipe σ vs)[i]? with
 | none => rw [List.getElem?_eq_none_iff] at q; omega
 | some o =>
  cases o with
  | none => rfl
  | some v => exact absurd hi (wipe_some q).2
abbrev jE (g : Gx) : List Addr -> Hp -> List D -> HO -> Prop := fun μ H acc o => ∃ vs,o = .lst vs /\ RVs g μ H acc vs
def hV (mt : M Bool) (me : M D) : List D -> Sg -> Hh -> R (List D) := fun acc σ h => (noX (mt σ h)).bind fun b h2 => if b = true then
  (noX (me σ h2)).bind fun y h3 => if acc.length < sizeLine then .ok (acc ++ [(aQ y h3).1]) (aQ y h3).2 else .bad
 else .ok acc h2
def mLc (mi : M Src) (t : Tg) (mt : M Bool) (me : M D) (vs : List Nat) : M D := fun σ h => (mi σ h).bind fun src h1 => (lcL src t (hV mt me) (dM σ vs) fK 0 [] h1).bind fun acc h2 => .ok (.tl acc) h2
def wC (mi : M Src) (t : Tg) (mt : M Bool) (mi1 : M Src) (t1 : Tg) (mt1 : M Bool) (me : M D) (vs vs1 : List Nat) : M D := fun σ h => (mi σ h).bind fun src h1 =>
 (lcL src t (fun acc σ1 h => (noX (mt σ1 h)).bind fun b h2 => if b = true then (noX (mi1 σ1 h2)).bind fun src1 h3 => lcL src1 t1 (hV mt1 me) (dM σ1 vs1) fK 0 acc h3 else .ok acc h2) (dM σ vs) fK 0 [] h1).bind fun acc h2 => .ok (.tl acc) h2
/-- no exception is wanted -/
abbrev WF : WX := fun _ _ _ _ => False
section
variable {g : Gx} {X : Cx} {Wx : WX} {elt tg iter tg1 iter1 : Expr} {ifs ifs1 : List Expr} {scope : Scope} {own : List (Str × Nat)} {pos : Pos} {mi mi1 : M Src} {t t1 : Tg} {mt mt1 : M Bool} {me : M D}
/-- in every block that the comprehension may run in -/
abbrev BX (X : Cx) (scope : Scope) (s : Shared) (H : Hp) (C : Addr) (cl : List (Str × Addr)) (fp : List Addr) : Cx := X.blk s H scope (compEnvC scope cl C X.env) fp
def tB1 (X : Cx) (scope : Scope) (e : Expr) : TE := fun σ H Q => ∀ s0 H0 C cl fp,tOf (BX X scope s0 H0 C cl fp) e σ H Q
def tBG (X : Cx) (scope : Scope) (e : Expr) : TG := fun v σ H Q => ∀ s0 H0 C cl fp,aCb (BX X scope s0 H0 C cl fp) e v σ H Q
def SB (g : Gx) (X : Cx) (scope : Scope) (e : Expr) (m : M D) : Prop := ∀ s0 H0 C cl fp,SE g (BX X scope s0 H0 C cl fp) WF e m
def SBT (g : Gx) (X : Cx) (scope : Scope) (e : Expr) (m : M Bool) : Prop := ∀ s0 H0 C cl fp,ST g (BX X scope s0 H0 C cl fp) WF e m
def SBI (g : Gx) (X : Cx) (scope : Scope) (tg e : Expr) (m : M Src) : Prop := ∀ s0 H0 C cl fp,SI g (BX X scope s0 H0 C cl fp) WF tg e m
def SBG (g : Gx) (X : Cx) (scope : Scope) (e : Expr) (t : Tg) : Prop := ∀ s0 H0 C cl fp,SG g (BX X scope s0 H0 C cl fp) e t
def tBT (X : Cx) (scope : Scope) (e : Expr) : TT := fun σ H Q => ∀ s0 H0 C cl fp,aCe (BX X scope s0 H0 C cl fp) e σ H Q
def tBI (X : Cx) (scope : Scope) (tg e : Expr) : TI := fun σ H R => ∀ s0 H0 C cl fp,xB (BX X scope s0 H0 C cl fp) tg e σ H R
/-- from a loop's wish to an expression's,within a block -/
theorem PoL.po {α β : Type} {rel : List Addr -> Hp -> β -> HO -> Prop} {Gr : List Addr -> Hp -> Prop} {μ : List Addr} {H : Hp} {a : Addr} {σ : L2.St} {acc : β} {h : Hh} {r : R α} {f : α -> Hh -> R β} {Nx : Hp -> Prop} (go : GrOk Gr a)
  (mono : ∀ {μ μ' H H' acc o},Trk μ H -> Ext μ H μ' H' -> rel μ H acc o -> rel μ' H' acc o) (G : Gd g rel Gr a μ h acc H) (p : PoL g rel Gr a ((noX r).bind f) Nx) :
  Po g WF σ μ H r fun x h1 μ1' H1' => (∀ μ2 H2,Ext μ H μ2 H2 -> RH g μ2 h1 H2 -> Gd g rel Gr a μ2 h1 acc H2) /\ PoL g rel Gr a (f x h1) Nx := by
 cases r with
 | ok x h1 => exact fun μ2 H2 x2 r2 => ⟨fun μ3 H3 x3 r3 => G.ext go mono x3 r3,p⟩
 | exc c fs h1 => exact p.elim
 | bad => exact p.elim
theorem gD {μ μ' : List Addr} {H H' : Hp} {acc : List D} {o : HO} (tr : Trk μ H) (x : Ext μ H μ' H') (r : jE g μ H acc o) : jE g μ' H' acc o := by
 obtain ⟨vs,e,z⟩ := r
 exact ⟨vs,e,z.ext tr x⟩
/-- the tests of a clause: none or one -/
inductive STs (g : Gx) (X : Cx) (scope : Scope) : List Expr -> M Bool -> Prop
 | nil : STs g X scope [] (fun _ h => .ok true h)
 | one {c : Expr} {m : M Bool} (hc : SBT g X scope c m) : STs g X scope [c] m
def tTs (X : Cx) (scope : Scope) : List Expr -> TT
 | [c] => tBT X scope c
 | _ => tYes
theorem pF {m : M Bool} (h : STs g X scope ifs m) (s0 : Shared) (H0 : Hp) (C : Addr) (cl : List (Str × Addr)) (fp : List Addr) : PTs (BX X scope s0 H0 C cl fp) ifs (tTs X scope ifs) := by
 cases h with
 | nil => exact pts_nil
 | one hc => exact pts_one ⟨fun pins s σ H Q I hq => hq s0 H0 C cl fp pins s I⟩
theorem uI {m : M Bool} (h : STs g X scope ifs m) {σw : Sg} {hh : Hh} {σ : L2.St} {H : Hp} {μ : List Addr} {Q : Bool -> Hp -> Prop} (rs : RS g μ H σw σ) (rh : RH g μ hh H) (p : Po g WF σ μ H (m σw hh) (fun b h' μ' H' => Q b H')) : tTs X scope ifs σ H Q := by
 cases h with
 | nil => exact p.at rh
 | one hc => exact fun s0 H0 C cl fp => hc s0 H0 C cl fp σw hh σ H μ Q rs rh p
theorem xF {acc : List D} {σ : Sg} {h : Hh} {c : Nat} {fs : List (Str × D)} {h' : Hh} : hV mt me acc σ h ≠ .exc c fs h' := fun z => by
 unfold hV at z
 rcases bind_exc z with z | ⟨b,h2,_,z⟩
 ·exact kR z
 ·split at z
  ·rcases bind_exc z with z | ⟨y,h3,_,z⟩
   ·exact kR z
   ·split at z <;> cases z
  ·cases z
/-- one turn's end: the test,the element -/
theorem aEW {Gr : List Addr -> Hp -> Prop} {μ : List Addr} {H : Hp} {a : Addr} {acc : List D} {h : Hh} {σw : Sg} {σ : L2.St} {Nx : Hp -> Prop} (go : GrOk Gr a) (hts : STs g X scope ifs mt) (he : SB g X scope elt me)
  (G : Gd g (jE g) Gr a μ h acc H) (rs : RS g μ H σw σ) (p : PoL g (jE g) Gr a (hV mt me acc σw h) Nx) :
  tTs X scope ifs σ H fun b H3 => if b = true then tB1 X scope elt σ H3 fun y H4 => ∃ acc,H4 a = some (.lst acc) /\ acc.length < sizeLine /\ Nx (upd H4 a (.lst (acc ++ [y]))) else Nx H3 := by
 refine uI hts rs G.r ((PoL.po (rel := jE g) go gD G p).imp fun b h2 μ2 H2 x2 r2 q2 => ?_)
 obtain ⟨G2,p2⟩ := q2
 have G2 := G2 μ2 H2 x2 r2
 cases b with
 | false => exact p2 μ2 H2 G2
 | true =>
  simp only [if_true] at p2 ⊢
  intro s0 H0 C cl fp
  refine he s0 H0 C cl fp σw h2 σ H2 μ2 _ (rs.ext G.r.trk x2) r2 ((PoL.po (rel := jE g) go gD G2 p2).imp fun y h3 μ3 H3 x3 r3 q3 v qv fv => ?_)
  obtain ⟨G3,p3⟩ := q3
  obtain ⟨μ3',x3',r3',qv',_⟩ := jI r3 qv fv x3
  have G4 : Gd g (jE g) Gr a μ3' (aQ y h3).2 acc H3 := G2.ext go gD x3' r3'
  obtain ⟨x4,r4,na4,o,eo,mo,vs,rfl,z⟩ := G4
  split at p3
  ·rename_i hl
   refine ⟨vs,eo,by rw [z.length]; exact hl,p3 μ3' _ ⟨go.up x4 eo rfl na4 rfl,r4.upd eo rfl na4,na4,_,upd_same,rfl,vs ++ [v],rfl, ?_⟩⟩
   exact RVs.append (z.upd eo rfl) ⟨v,[],rfl,fE,qv'.upd eo rfl fE,rfl⟩
  ·exact p3.elim
theorem aCy {Wx : WX} {μ0 μ1 : List Addr} {H0 H1 : Hp} {D : Addr} {r : R (List PV.D)} {σ : L2.St} {Q : VK} (nx : ∀ c fs h,r ≠ .exc c fs h) (x1 : Ext μ0 H0 μ1 H1) (nD : H1 D = none)
  (p1 : Po g Wx σ μ1 H1 (r.bind fun acc h2 => .ok (.tl acc) h2) fun w h' μ' H' => ∀ v,RV g μ' H' w v -> Fr H0 w v -> Q v H') : PoL g (jE g) (Ext μ1 H1) D r fun H2 => Q (.ref D) H2 := by
 cases r with
 | bad => exact p1.elim
 | exc c fs h2 => exact absurd rfl (nx c fs h2)
 | ok acc h2 =>
  intro μ2 H2 G2
  obtain ⟨o,eo,mo,vs,rfl,z⟩ := G2.ob
  refine p1 μ2 H2 G2.x G2.r (.ref D) ⟨D,vs,rfl,eo,G2.na,z⟩ fun c ec => ?_
  cases ec
  exact Fr.back (w := .tl []) (v := .ref D) x1 (fun c ec => by cases ec; exact nD) D rfl
theorem aCr {μ1 : List Addr} {H1 : Hp} {h1 : Hh} {D : Addr} (r1 : RH g μ1 h1 H1) (nD : H1 D = none) : Gd g (jE g) (Ext μ1 H1) D μ1 h1 [] (upd H1 D (.lst [])) := ⟨.new r1.trk nD,r1.new nD,fun hm => r1.trk.ne nD hm rfl,_,upd_same,rfl,[],rfl,rfl⟩
/-- the block's slots -/
theorem aBa (hi : SI g X Wx tg iter mi) (hg : SBG g X scope tg t) (hts : STs g X scope ifs mt) (he : SB g X scope elt me) (hsl : ∀ i ∈ t.slots,i ∈ own.map (·.2))
  {σw : Sg} {h : Hh} {σ : L2.St} {H : Hp} {μ : List Addr} {Q : VK} (rs : RS g μ H σw σ) (rh : RH g μ h H)
  (po : Po g Wx σ μ H (mLc mi t mt me (own.map (·.2)) σw h) (fun w h' μ' H' => ∀ v,RV g μ' H' w v -> Fr H w v -> Q v H')) :
  tLc (xB X tg iter) (tBG X scope tg) (tTs X scope ifs) (tB1 X scope elt) (own.map (·.2)) σ H Q := by
 refine hi σw h σ H μ _ rs rh (po.bind.imp fun src h1 μ1 H1 x1 r1 p1 J sk D nD => ?_)
 have rs1 := (rs.ext rh.trk x1).wipe (own.map (·.2))
 have pl := aCy (fun c fs h => pB (fun _ _ _ _ _ _ => xF) _ _ _ _) x1 nD p1
 have go := aBJ (a := D) r1.trk nD
 refine sN (rel := jE g) go gD (fun μ H h x r i => (sk.ext x).at r i) (fun w x acc h μ H' σ1 Nx G nt qx e2 p2 => ?_) (aCr r1 nD) pl
 intro s0 H0 C cl fp
 refine hg s0 H0 C cl fp w x _ σ1 h _ H' μ _ (rs1.ext r1.trk G.x) G.r nt qx e2 fun σ' rs' w' => ⟨?_,aEW go hts he G rs' p2⟩
 rw [w' _ hsl,oG]
theorem aIZ (hc : X.calm = true) (hN : X.N.Nodup) (ok : BlkOk X.N X.env.scope scope own) (hsl : ∀ i ∈ t.slots,i ∈ own.map (·.2)) (hs : ∀ x,foldedSetIterable iter X.env x = pure x)
  (hi : SI g X Wx tg iter mi) (hg : SBG g X scope tg t) (hts : STs g X scope ifs mt) (he : SB g X scope elt me) : SE g X Wx (.ListComp elt [⟨tg,iter,ifs,0⟩] scope pos) (mLc mi t mt me (own.map (·.2))) := by
 intro σw h σ H μ Q rs rh po
 refine eM (pe_lc hc hN uU ok (fun s0 H0 C cl fp => (⟨fun pins s σ H v u Q I r q => q s0 H0 C cl fp pins s u I r⟩ : PG _ _ (tBG X scope tg))) (fun s0 H0 C cl fp => pF hts s0 H0 C cl fp)
  (fun s0 H0 C cl fp => (⟨fun pins s σ H Q I q => q s0 H0 C cl fp pins s I⟩ : PE _ _ (tB1 X scope elt))) hs) ?_
 exact aBa hi hg hts he hsl rs rh po
end
end PV
end
section
namespace PV
open PySem PySem.Spec PyProof.Rows L2
structure FnG (P : Program) (w : World) (K : PySem.W.Frag) (mg : Str -> Option Value) (base : Heap) (CX : CXT) (k : Nat) (f : Addr) (fd : FuncData) (ps : List Str) (sp : Sp) : Prop where
 len : ∀ vs H Q E,sp vs H Q E -> vs.length = ps.length
 run : ∀ (A : Around) (outer : List Env) (s : Shared) (H : Hp) (args : Args) (us : List Value) (vs : List V) (Q : VK) (E : XK),A.guards = some [] -> Room k A -> Env0 P w K mg base A outer s H -> BindsTo s fd args (ps.zip us) -> Vals vs us -> sp vs H Q E ->
  codeAny (model P w) A (.call (.ref f) args) (CR CX outer P w H s Q E) s
theorem aGo {CX : CXT} {P : Program} {w : World} {K : PySem.W.Frag} {mg : Str -> Option Value} {base : Heap} {k : Nat} {f : Addr} {name qual : Str} {params : Arguments} {body : List Stmt} {scope : Scope} {dV kV doc pm cdv ct oc : Value} {an od : Option Addr}
  {osl : Array (Option Value)} {N ps : List Str} {sp : Sp} (lk : K.lookup f = some ⟨oc,od, .func (PySem.W.fnOf name qual params body scope dV kV doc pm an cdv ct),osl⟩) (hcd : PySem.W.codeIn K cdv qual = true) (S : FnScope N ps scope)
  (len : ∀ vs H Q E,sp vs H Q E -> vs.length = ps.length)
  (hbody : ∀ (A : Around) (outer : List Env) (s : Shared) (H : Hp) (vs : List V) (Q : VK) (E : XK),A.guards = some [] -> Room k (A.deeper (envOfC qual scope s.heap.objs.size f cdv)) -> sp vs H Q E ->
   ∃ t,PSs (cxOf CX P w K mg base N qual scope f cdv A outer s H E) body t /\ t { nx := fun _ H' => Q .non H',rt := Q } (start N vs) H) :
  FnG P w K mg base CX (k + 1) f (PySem.W.fnOf name qual params body scope dV kV doc pm an cdv ct) ps sp := by
 refine ⟨len,fun A outer s H args us vs Q E hgd hr e0 hb r hsp => ?_⟩
 have hl := len _ _ _ _ hsp
 have KX : K.In s.heap := e0.mod.kin.keeps fun b o e => (e0.bs b o e).1
 have lim : s.heap.NoLimit := e0.mod.nolimit.keeps fun b o e => (e0.bs b o e).1
 have hkind : ∀ y ∈ ps.zip us,scope.names.lookup y.1 = some .local \/ (scope.names.lookup y.1 = some .cell /\ ((cellsFrom (s.heap.objs.size + 1) scope.names []).lookup y.1).isSome = true) := fun ⟨n,v⟩ hy => by
  rcases S.par n (List.of_mem_zip hy).1 with q | q
  ·exact .inl q
  ·exact .inr ⟨q,PySem.W.cellsFrom_some _ _ _ (.inl q)⟩
 refine codeAny_call_function hr.depth (KX _ _ lk) rfl S.co S.gen rfl (PySem.W.codeRec_of KX hcd) (hb _ _ _ _ ?_)
 refine wpAny_newFunctionEnv_cells S.kind hkind fun env he s1 x => ?_
 subst he
 refine ⟨lim.keeps x.toInCall.keep,codeAny_func ?_⟩
 obtain ⟨t,ht,hq⟩ := hbody A outer s H vs Q E hgd (hr.deeper _) hsp
 have I : Inv (cxOf CX P w K mg base N qual scope f cdv A outer s H E) [] (start N vs) H s1 := inv_start S hr.hd e0 hl r x
 refine wpAny_mono (ht.run [] s1 (start N vs) H _ I hq) (fun fl s' hs => ?_) fun e s' hs => hs
 have fin : ∀ {σ' : L2.St} {H' : Hp} {v : V} {u : Value},Inv (cxOf CX P w K mg base N qual scope f cdv A outer s H E) [] σ' H' s' -> RelV v u -> Q v H' -> CE outer P w H s Q u s' :=
  fun {σ' H' v u} J rv q => ⟨v,H',J.os,J.bare,J.base,J.hok,rv,q⟩
 cases fl with
 | ret u =>
  obtain ⟨v,σ',H',J,rv,q⟩ := hs
  exact fin J rv q
 | next =>
  obtain ⟨σ',H',J,q⟩ := hs
  exact fin (v := V.non) (u := Value.none) J rfl q
 | brk =>
  obtain ⟨_,_,_,q⟩ := hs
  exact False.elim q
 | cont =>
  obtain ⟨_,_,_,q⟩ := hs
  exact False.elim q
def aDm (X : Cx) (f : Addr) (vs : List V) (σ : L2.St) (H : Hp) (Q : VK) : Prop := ∀ pins s us,Inv X pins σ H s -> Vals vs us -> wpAny (model X.prog X.w) X.A (call (.ref f) us) (EP X pins σ Q) X.xe s
section
variable {X : Cx} {W : WX} {k : Nat} {f : Addr} {fd : FuncData} {ps : List Str} {sp : Sp} {dvs : List V} {ds : List Value} {x : Str} {p pos : Pos} {e : Expr} {es : List Expr}
theorem aGj {σ : L2.St} {H : Hp} {Q : VK} {vs : List V} (tk : Takes X W) (hgd : X.A.guards = some []) (F : FnG X.prog X.w X.K X.mg X.base (CX X.prog X.w) k f fd ps sp) (hr : Room k X.A) (hb : Binds X.K fd ps ds) (hd : Vals dvs ds)
  (h : sp (vs ++ dvs) H Q (fun cv d H' => W cv d σ H')) : aDm X f vs σ H Q := by
 intro pins s us I r
 have r2 : Vals (vs ++ dvs) (us ++ ds) := r.append hd
 have hl : (us ++ ds).length = ps.length := by rw [<- r2.length]; exact F.len _ _ _ _ h
 refine wpAny_call (codeAny_mono (F.run X.A X.stack s H ⟨us,[]⟩ (us ++ ds) (vs ++ dvs) Q _ hgd hr I.env0 (hb s us I.kIn hl) r2 h) fun r s' hq => ?_)
 cases r with
 | error e => exact tk _ _ (XE.of_call I (fun _ _ _ z => z) hq)
 | ok fl =>
  cases fl with
  | ret u => exact I.after hq
  | next => exact False.elim hq
  | brk => exact False.elim hq
  | cont => exact False.elim hq
def tCG (X : Cx) (f : Addr) (t : TA) : TE := fun σ H Q => t σ H fun vs H1 => aDm X f vs σ H1 Q
theorem aIG (hg : Gl X x) (hm : X.mg x = some (.ref f)) (hk : PySem.W.keepIn X.K (.ref f) = true) (hdb : (x == ("__debug__" : Str)) = false) (he : starEach (e :: es) X.env = (false,eval e X.env) :: starEach es X.env)
  (hpl : (backTo pos (starEach es X.env)).any (·.1) = false) : PE X (.Call (.Name x p) (e :: es) [] pos) (tCG X f (aCa X (e :: es))) := by
 refine ⟨fun pins s σ H Q I h => ?_⟩
 refine wpAny_Call_Name_kw (ld_glob I hg hm ?_ hdb)
 refine PySem.W.callWith_K (h₀ := X.base) I.ok.mod.kin hk (thn (h pos pins s I) fun us s1 ⟨vs,H1,I1,r,q⟩ => ⟨I1.kIn, ?_⟩) he hpl
 exact q pins s1 us I1 r
end
mutual
def D.lim (n : Nat) : D -> Bool
 | .ref i => decide (i < n)
 | .tup ws => D.lims n ws
 | .kt ws => D.lims n ws
 | .tl ws => D.lims n ws
 | .fl ws => D.lims n ws
 | .xc _ _ ws => D.lims n ws
 | _ => true
def D.lims (n : Nat) : List D -> Bool
 | [] => true
 | w :: ws => D.lim n w && D.lims n ws
end
def gR {κ : Type} (n : Nat) : List (κ × D) -> Bool
 | [] => true
 | p :: ps => D.lim n p.2 && gR n ps
def Cl.lim (n : Nat) : Cl -> Bool
 | .lst ws => D.lims n ws
 | .dK kvs => gR n kvs
 | .dT kvs => gR n kvs
 | .ins _ fs => gR n fs
/-- the cells of the caller as they were,or without a hold on new ones -/
def iH (n : Nat) : Hh -> Hh -> Bool
 | [],_ => true
 | c :: cs,d :: ds => (decide (d = c) || d.lim n) && iH n cs ds
 | _ :: _,[] => false
def gc (h : Hh) (w : D) (h' : Hh) : R D := if iH h.length h h' = true then
  if w.lim h.length = true then .ok w (h'.take h.length) else match w with
   | .ref i => match h'[i]? with
    | some (.lst ws) => if D.lims h.length ws = true /\ h.length <= i then .ok (.tl ws) (h'.take h.length) else .ok w h'
    | some c => if c.lim h.length = true /\ h.length <= i then .ok (.ref h.length) (h'.take h.length ++ [c]) else .ok w h'
    | none => .ok w h'
   | w => .ok w h'
 else .ok w h'
def gcX (h : Hh) (c : Nat) (fs : List (Str × D)) (h' : Hh) : R D := if iH h.length h h' = true /\ gR h.length fs = true then .exc c fs (h'.take h.length) else .exc c fs h'
def gcR (h : Hh) (r : R D) : R D := match r with
 | .ok w h' => gc h w h'
 | .exc c fs h' => gcX h c fs h'
 | .bad => .bad
mutual
theorem RV.lim {g : Gx} {μ : List Addr} {H : Hp} : ∀ {w : D} {v : V},RV g μ H w v -> D.lim μ.length w = true
 | .non,_,_ => rfl
 | .bl _,_,_ => rfl
 | .int _,_,_ => rfl
 | .str _,_,_ => rfl
 | .ty _,_,_ => rfl
 | .fn _,_,_ => rfl
 | .cls _,_,_ => rfl
 | .ref i,_,r => by
  obtain ⟨a,e,_⟩ := r
  simp only [D.lim,decide_eq_true_eq]
  rcases Nat.lt_or_ge i μ.length with z | z
  ·exact z
  ·rw [List.getElem?_eq_none z] at e; cases e
 | .tup ws,_,r => by obtain ⟨_,_,_,_,z⟩ := r; simp only [D.lim]; exact RVs.lim z
 | .xc c ks ws,_,r => by obtain ⟨_,_,_,_,_,_,_,_,_,z⟩ := r; simp only [D.lim]; exact RVs.lim z
 | .kt ws,_,r => by obtain ⟨_,_,_,_,z⟩ := r; simp only [D.lim]; exact RVs.lim z
 | .fl ws,_,r => by obtain ⟨_,_,_,_,z⟩ := r; simp only [D.lim]; exact RVs.lim z
 | .tl ws,_,r => by obtain ⟨_,_,_,_,_,z⟩ := r; simp only [D.lim]; exact RVs.lim z
theorem RVs.lim {g : Gx} {μ : List Addr} {H : Hp} : ∀ {ws : List D} {vs : List V},RVs g μ H ws vs -> D.lims μ.length ws = true
 | [],_,_ => rfl
 | w :: ws,_,r => by
  obtain ⟨v,rr,_,_,q,z⟩ := r
  simp only [D.lims,RV.lim q,RVs.lim z,Bool.and_self]
end
mutual
theorem RV.cut {g : Gx} {μ e : List Addr} {H : Hp} : ∀ {w : D} {v : V},D.lim μ.length w = true -> RV g (μ ++ e) H w v -> RV g μ H w v
 | .non,_,_,r => r
 | .bl _,_,_,r => r
 | .int _,_,_,r => r
 | .str _,_,_,r => r
 | .ty _,_,_,r => r
 | .fn _,_,_,r => r
 | .cls _,_,_,r => r
 | .ref i,_,l,r => by
  obtain ⟨a,ea,q⟩ := r
  simp only [D.lim,decide_eq_true_eq] at l
  rw [List.getElem?_append_left l] at ea
  exact ⟨a,ea,q⟩
 | .xc c ks ws,_,l,r => by obtain ⟨a,C,d,vs,e1,hC,q,hl,hd,z⟩ := r; exact ⟨a,C,d,vs,e1,hC,q,hl,hd,RVs.cut (by simpa only [D.lim] using l) z⟩
 | .tup ws,_,l,r => by obtain ⟨a,vs,e1,q,z⟩ := r; exact ⟨a,vs,e1,q,RVs.cut (by simpa only [D.lim] using l) z⟩
 | .kt ws,_,l,r => by obtain ⟨a,vs,e1,q,z⟩ := r; exact ⟨a,vs,e1,q,RVs.cut (by simpa only [D.lim] using l) z⟩
 | .fl ws,_,l,r => by obtain ⟨a,vs,e1,q,z⟩ := r; exact ⟨a,vs,e1,q,RVs.cut (by simpa only [D.lim] using l) z⟩
 | .tl ws,_,l,r => by obtain ⟨a,vs,e1,q,n,z⟩ := r; exact ⟨a,vs,e1,q,fun hm => n (List.mem_append_left _ hm),RVs.cut (by simpa only [D.lim] using l) z⟩
theorem RVs.cut {g : Gx} {μ e : List Addr} {H : Hp} : ∀ {ws : List D} {vs : List V},D.lims μ.length ws = true -> RVs g (μ ++ e) H ws vs -> RVs g μ H ws vs
 | [],_,_,r => r
 | w :: ws,_,l,r => by
  obtain ⟨v,rr,e1,nt,q,z⟩ := r
  simp only [D.lims,Bool.and_eq_true] at l
  exact ⟨v,rr,e1,nt,RV.cut l.1 q,RVs.cut l.2 z⟩
end
section
variable {g : Gx} {μ e : List Addr} {H H' : Hp} {h h' : Hh}
theorem RKs.cut {κ : Type} : ∀ {ws : List (κ × D)} {vs : List (κ × V)},gR μ.length ws = true -> RKs g (μ ++ e) H ws vs -> RKs g μ H ws vs
 | [],_,_,r => r
 | w :: ws,_,l,r => by
  obtain ⟨v,rr,e1,nt,q,z⟩ := r
  simp only [gR,Bool.and_eq_true] at l
  exact ⟨v,rr,e1,nt,q.cut l.1,RKs.cut l.2 z⟩
theorem RKs.lim {κ : Type} : ∀ {ws : List (κ × D)} {vs : List (κ × V)},RKs g μ H ws vs -> gR μ.length ws = true
 | [],_,_ => rfl
 | w :: ws,_,r => by
  obtain ⟨v,rr,_,_,q,z⟩ := r
  simp only [gR,q.lim,RKs.lim z,Bool.and_self]
theorem RC.lim {a : Addr} {c : Cl} (r : RC g μ H a c) : c.lim μ.length = true := by
 cases c with
 | lst ws => obtain ⟨_,_,z⟩ := r; exact z.lim
 | dK ws => obtain ⟨_,_,z⟩ := r; exact z.lim
 | dT ws => obtain ⟨_,_,z⟩ := r; exact z.lim
 | ins c fs => obtain ⟨_,_,_,_,_,z⟩ := r; exact z.lim
theorem RC.cut {a : Addr} {c : Cl} (l : c.lim μ.length = true) (r : RC g (μ ++ e) H a c) : RC g μ H a c := by
 cases c with
 | lst ws => obtain ⟨vs,q,z⟩ := r; exact ⟨vs,q,z.cut l⟩
 | dK ws => obtain ⟨vs,q,z⟩ := r; exact ⟨vs,q,z.cut l⟩
 | dT ws => obtain ⟨vs,q,z⟩ := r; exact ⟨vs,q,z.cut l⟩
 | ins c fs => obtain ⟨C,dx,vs,k,q,z⟩ := r; exact ⟨C,dx,vs,k,q,z.cut l⟩
theorem zA {n : Nat} : ∀ {h h' : Hh} {i : Nat} {c : Cl},iH n h h' = true -> i < h.length -> h'[i]? = some c -> h[i]? = some c \/ c.lim n = true
 | [],_,i,c,_,hl,_ => by simp at hl
 | d :: ds,[],i,c,k,_,_ => by simp [iH] at k
 | d :: ds,d' :: ds',0,c,k,_,e => by
  simp only [iH,Bool.and_eq_true,Bool.or_eq_true,decide_eq_true_eq] at k
  simp at e; subst e
  rcases k.1 with z | z
  ·exact .inl (by simp [z])
  ·exact .inr z
 | d :: ds,d' :: ds',i + 1,c,k,hl,e => by
  simp only [iH,Bool.and_eq_true] at k
  simp at e hl
  rcases zA k.2 (by simpa using hl) e with z | z
  ·exact .inl (by simpa using z)
  ·exact .inr z
theorem zB {n : Nat} : ∀ {h h' : Hh},iH n h h' = true -> h.length <= h'.length
 | [],_,_ => Nat.zero_le _
 | d :: ds,[],k => by simp [iH] at k
 | d :: ds,d' :: ds',k => by
  simp only [iH,Bool.and_eq_true] at k
  simp only [List.length_cons]
  exact Nat.succ_le_succ (zB k.2)
/-- the cells of the caller,by themselves -/
theorem RH.shrink (r0 : RH g μ h H) (r : RH g (μ ++ e) h' H') (k : iH h.length h h' = true) : RH g μ (h'.take h.length) H' := by
 have hl := zB k
 refine ⟨by rw [List.length_take,r0.len]; omega,r0.nd,fun i c ei => ?_,r.tabs⟩
 have hi : i < h.length := by
  rcases Nat.lt_or_ge i h.length with z | z
  ·exact z
  ·rw [List.getElem?_take_eq_none z] at ei; cases ei
 rw [List.getElem?_take_of_lt hi] at ei
 obtain ⟨a,ea,rc⟩ := r.cell i c ei
 rw [List.getElem?_append_left (by rw [r0.len]; exact hi)] at ea
 refine ⟨a,ea,rc.cut ?_⟩
 rcases zA k hi ei with z | z
 ·obtain ⟨b,_,rc0⟩ := r0.cell i c z
  exact rc0.lim
 ·rw [r0.len]; exact z
theorem Ext.shrink (x : Ext μ H (μ ++ e) H') : Ext μ H μ H' := ⟨⟨[],by simp,by simp⟩,x.fr',x.lv,x.tb⟩
/-- what a call leaves is enough -/
theorem aEE {σ : L2.St} {Wx : WX} {r : R D} {Q' : VK} (r0 : RH g μ h H) (po : Po g Wx σ μ H (gcR h r) (fun w h' μ' H' => ∀ v,RV g μ' H' w v -> Fr H w v -> Q' v H')) :
  Po g Wx σ μ H r (fun w h' μ' H' => ∀ v,RV g μ' H' w v -> Fr H w v -> Q' v H') := by
 cases r with
 | bad => exact po
 | exc c fs h1 =>
  simp only [gcR,gcX] at po
  split at po
  ·rename_i k
   intro μ1 H1 cv d x1 r1 xv
   obtain ⟨⟨e1,rfl,_⟩,_,_⟩ := id x1
   obtain ⟨C,vs,k1,k2,k3,z⟩ := xv
   exact po μ H1 cv d x1.shrink (r0.shrink r1 k.1) ⟨C,vs,k1,k2,k3,z.cut (by rw [r0.len]; exact k.2)⟩
  ·exact po
 | ok w h1 =>
  simp only [gcR,gc] at po
  split at po
  ·rename_i k
   intro μ1 H1 x1 r1 v qv fv
   obtain ⟨⟨e1,rfl,fr1⟩,_,_⟩ := id x1
   have r2 := r0.shrink r1 k
   split at po
   ·rename_i kl
    exact po μ H1 x1.shrink r2 v (qv.cut (by rw [r0.len]; exact kl)) fv
   ·split at po
    ·rename_i i _
     have plain : ∀ {r : R D},r = .ok (.ref i) h1 -> Po g Wx σ μ H r (fun w h' μ' H' => ∀ v,RV g μ' H' w v -> Fr H w v -> Q' v H') -> Q' v H1 := fun er p => by
      subst er; exact p (μ ++ e1) H1 x1 r1 v qv fv
     obtain ⟨a,ea,rfl⟩ := qv
     split at po
     ·rename_i ws ec
      split at po
      ·rename_i hc
       obtain ⟨b,eb,vs,hb,z⟩ := r1.cell i _ ec
       rw [ea] at eb; cases eb
       rw [List.getElem?_append_right (by rw [r0.len]; exact hc.2)] at ea
       have hm : a ∈ e1 := gH ea
       have na : a ∉ μ := fun h2 => (List.nodup_append.mp r1.nd).2.2 a h2 a hm rfl
       exact po μ H1 x1.shrink r2 (.ref a) ⟨a,vs,rfl,hb,na,z.cut (by rw [r0.len]; exact hc.1)⟩ fun c ec => by cases ec; exact fr1 a hm
      ·exact plain rfl po
     ·rename_i c ncl ec
      split at po
      ·rename_i hc
       obtain ⟨b,eb,rc⟩ := r1.cell i _ ec
       rw [ea] at eb; cases eb
       rw [List.getElem?_append_right (by rw [r0.len]; exact hc.2)] at ea
       have hm : a ∈ e1 := gH ea
       have na : a ∉ μ := fun h2 => (List.nodup_append.mp r1.nd).2.2 a h2 a hm rfl
       have x3 : Ext μ H (μ ++ [a]) H1 := ⟨⟨[a],rfl,fun y hy => by
        have : y = a := by simpa using hy
        subst this; exact fr1 _ hm⟩,x1.fr',x1.lv,x1.tb⟩
       refine po (μ ++ [a]) H1 x3 (r2.track na (rc.cut (by rw [r0.len]; exact hc.1))) (.ref a) ⟨a, ?_,rfl⟩ (.of rfl)
       rw [<- r0.len]; simp
      ·exact plain rfl po
     ·exact plain rfl po
    ·exact po (μ ++ e1) H1 x1 r1 v qv fv
  ·exact po
end
end PV
end
section
namespace PV
open PySem PySem.Spec PyProof.Rows L2
/-- the values in the order of the parameters -/
def dR {α : Type} (perm : List Nat) (l : List α) : Option (List α) := aJ (fun i => l[i]?) perm
abbrev Cll := Nat -> List D -> Hh -> R D
def bA (cl : Cll) (f : Nat) (m : M (List D)) : M D := fun σ h => gcR h ((m σ h).bind fun ws h1 => cl f ws h1)
def nF (cl : Cll) (f : Nat) (m : M (List D)) (perm : List Nat) : M D := fun σ h => gcR h ((m σ h).bind fun ws h1 => match dR perm ws with
 | some ws => cl f ws h1
 | none => .bad)
/-- a def by its own-level meaning -/
def qN (g : Gx) (n : Nat) (cl : List D -> Hh -> R D) : Sp := fun vs H Q E => ∃ (ws : List D) (h : Hh) (μ : List Addr) (σ : L2.St),vs.length = n /\ RVs g μ H ws vs /\ RH g μ h H /\
 Po g (fun cv d _ H' => E cv d H') σ μ H (cl ws h) (fun w h' μ' H' => ∀ v,RV g μ' H' w v -> Fr H w v -> Q v H')
section
variable {g : Gx} {X : Cx} {Wx : WX} {k : Nat} {f : Nat} {fa : Addr} {fd : FuncData} {ps : List Str} {cl : Cll} {x : Str} {p pos : Pos} {e : Expr} {es : List Expr} {ms : List (M D)}
theorem aGi {n : Nat} {ds : List Value} {dws : List D} {dvs : List V} {σ : L2.St} {H : Hp} {Q : VK} {vs : List V} {ws : List D} {h : Hh} {μ : List Addr} (tk : Takes X Wx) (hgd : X.A.guards = some []) (hr : Room k X.A)
  (F : FnG X.prog X.w X.K X.mg X.base (CX X.prog X.w) k fa fd ps (qN g ps.length (cl f))) (hb : Binds X.K fd ps ds) (hd : Vals dvs ds) (rd : RVs g μ H dws dvs)
  (hl : vs.length + dvs.length = ps.length) (q : RVs g μ H ws vs) (rh : RH g μ h H)
  (po : Po g Wx σ μ H (cl f (ws ++ dws) h) (fun w h' μ' H' => ∀ v,RV g μ' H' w v -> Fr H w v -> Q v H')) : aDm X fa vs σ H Q := by
 refine aGj tk hgd F hr hb hd ⟨ws ++ dws,h,μ,σ,by rw [List.length_append]; exact hl,q.append rd,rh, ?_⟩
 cases hx : cl f (ws ++ dws) h with
 | ok w h1 => rw [hx] at po; exact po
 | exc c fs h1 => rw [hx] at po; exact po
 | bad => rw [hx] at po; exact po
theorem aFP {ds : List Value} {dws : List D} {dvs : List V} (tk : Takes X Wx) (hgd : X.A.guards = some []) (hr : Room k X.A) (F : FnG X.prog X.w X.K X.mg X.base (CX X.prog X.w) k fa fd ps (qN g ps.length (cl f)))
  (hb : Binds X.K fd ps ds) (hd : Vals dvs ds) (rd : ∀ μ H,RVs g μ H dws dvs) (hg : Gl X x) (hm : X.mg x = some (.ref fa)) (hk : PySem.W.keepIn X.K (.ref fa) = true) (hdb : (x == ("__debug__" : Str)) = false)
  (he : starEach (e :: es) X.env = (false,eval e X.env) :: starEach es X.env) (hpl : (backTo pos (starEach es X.env)).any (·.1) = false) (hl : ms.length + dws.length = ps.length)
  (ha : SA g X Wx (e :: es) (aB ms)) : SE g X Wx (.Call (.Name x p) (e :: es) [] pos) (bA (fun f ws h => cl f (ws ++ dws) h) f (aB ms)) := by
 intro σw h σ H μ Q rs rh po
 refine eM (aIG hg hm hk hdb he hpl) ?_
 have po2 := aEE rh po
 cases hx : aB ms σw h with
 | bad => rw [hx] at po2; exact po2.elim
 | exc c fs h1 =>
  rw [hx] at po2
  refine ha σw h σ H μ _ rs rh ?_
  rw [hx]; exact po2
 | ok ws h1 =>
  rw [hx,R.bind_ok] at po2
  refine ha σw h σ H μ _ rs rh ?_
  rw [hx]
  intro μ1 H1 x1 r1 vs qs
  have l1 := qs.length
  have l2 := rH hx
  have l3 := (rd μ1 H1).length
  exact aGi (n := 0) tk hgd hr F hb hd (rd μ1 H1) (by omega) qs r1 ((po2.ext x1).imp fun w h3 μ3 H3 x3 r3 q3 v qv fv => q3 v qv (fv.back x1))
def aCd (X : Cx) (kws : List Keyword) : TA := fun σ H Q => ∀ pos pins s,Inv X pins σ H s -> wpAny (model X.prog X.w) X.A (evalAll ((backToKw pos (keywordEach kws X.env)).map (·.2))) (AP X pins σ Q) X.xe s
theorem aII {kws : List Keyword} : PK X kws (aCd X kws) := ⟨fun pos pins s σ H Q I h => h pos pins s I⟩
theorem aGQ {kws : List Keyword} {t : TA} (p : PK X kws t) {σ : L2.St} {H : Hp} {Q : List V -> Hp -> Prop} (h : t σ H Q) : aCd X kws σ H Q := fun pos pins s I => p.run pos pins s σ H Q I h
def SK (g : Gx) (X : Cx) (Wx : WX) (kws : List Keyword) (m : M (List D)) : Prop := ∀ (σw : Sg) (h : Hh) (σ : L2.St) (H : Hp) (μ : List Addr) (Q : List V -> Hp -> Prop),RS g μ H σw σ -> RH g μ h H ->
 Po g Wx σ μ H (m σw h) (fun ws h' μ' H' => ∀ vs,RVs g μ' H' ws vs -> Q vs H') -> aCd X kws σ H Q
theorem aHw : SK g X Wx [] (aB []) := fun σw h σ H μ Q rs rh po => aGQ pk_nil (po.at rh [] rfl)
theorem aFS {nm : Option Str} {kpos : Pos} {kws : List Keyword} {ma : M D} (ha : SE g X Wx e ma) (hr : SK g X Wx kws (aB ms)) : SK g X Wx (⟨nm,e,kpos⟩ :: kws) (aB (ma :: ms)) := by
 intro σw h σ H μ Q rs rh po
 refine aGQ (pk_cons aX aII) (ha σw h σ H μ _ rs rh (po.bind2.imp fun w h1 μ1 H1 x1 r1 p1 v qv fv => ?_))
 obtain ⟨μ1',x1',r1',q1',_⟩ := jI r1 qv fv x1
 refine hr σw _ σ H1 μ1' _ (rs.ext rh.trk x1') r1' ((p1 μ1' H1 x1').bind.imp fun ws h2 μ2 H2 x2 r2 p2 vs qs => ?_)
 exact p2.at r2 (v :: vs) ⟨v,vs,rfl,fE,q1'.ext r1'.trk x2,qs⟩
/-- how a call with keywords binds -/
def KB (K : PySem.W.Frag) (fd : FuncData) (ps : List Str) (n : Nat) (ks : List Str) (perm : List Nat) : Prop := ∀ (s : Shared) (us ws xs : List Value),K.In s.heap -> us.length = n -> ws.length = ks.length -> dR perm (us ++ ws) = some xs ->
 BindsTo s fd ⟨us,ks.zip ws⟩ (ps.zip xs)
theorem aCM {μ : List Addr} {H : Hp} {ws xs : List D} {vs : List V} : ∀ {perm : List Nat},dR perm ws = some xs -> RVs g μ H ws vs -> ∃ ys,dR perm vs = some ys /\ RVs g μ H xs ys
 | perm,e,r => by
  unfold dR at e ⊢
  induction perm generalizing xs with
  | nil => unfold aJ at e; cases e; exact ⟨[],rfl,rfl⟩
  | cons i perm ih =>
   unfold aJ at e
   split at e
   ·rename_i a b ea eb
    cases e
    obtain ⟨v,ev,nt,q⟩ := r.get ea
    obtain ⟨ys,ey,z⟩ := ih eb
    refine ⟨v :: ys, ?_,v,ys,rfl,nt,q,z⟩
    unfold aJ
    rw [ev,ey]
   ·cases e
theorem aBT {vs ys : List V} {us : List Value} : ∀ {perm : List Nat},dR perm vs = some ys -> Vals vs us -> ∃ xs,dR perm us = some xs /\ Vals ys xs
 | perm,e,r => by
  unfold dR at e ⊢
  induction perm generalizing ys with
  | nil => unfold aJ at e; cases e; exact ⟨[],rfl, .nil⟩
  | cons i perm ih =>
   unfold aJ at e
   split at e
   ·rename_i a b ea eb
    cases e
    obtain ⟨u,eu,q⟩ := r.get ea
    obtain ⟨xs,ex,z⟩ := ih eb
    refine ⟨u :: xs, ?_, .cons q z⟩
    unfold aJ
    rw [eu,ex]
   ·cases e
/-- the call by values,with keywords -/
theorem aE1 {kws : List Keyword} {ks : List Str} {perm : List Nat} {n : Nat} {σ : L2.St} {H : Hp} {Q : VK} {vs zs ys : List V} {us zus : List Value} {pins : List (Addr × Obj)} {s : Shared} {sp : Sp} (tk : Takes X Wx) (hgd : X.A.guards = some []) (hr : Room k X.A)
  (F : FnG X.prog X.w X.K X.mg X.base (CX X.prog X.w) k fa fd ps sp) (kb : KB X.K fd ps n ks perm) (I : Inv X pins σ H s) (r : Vals vs us) (rz : Vals zs zus) (hn : vs.length = n) (hz : zs.length = ks.length)
  (ep : dR perm (vs ++ zs) = some ys) (h : sp ys H Q (fun cv d H' => Wx cv d σ H')) : wpAny (model X.prog X.w) X.A (call (.ref fa) us (ks.zip zus)) (EP X pins σ Q) X.xe s := by
 obtain ⟨xs,ex,rx⟩ := aBT ep (r.append rz)
 have hu : us.length = n := by rw [<- r.length]; exact hn
 have hw : zus.length = ks.length := by rw [<- rz.length]; exact hz
 refine wpAny_call (codeAny_mono (F.run X.A X.stack s H ⟨us,ks.zip zus⟩ xs ys Q _ hgd hr I.env0 (kb s us zus xs I.kIn hu hw ex) rx h) fun r s' hq => ?_)
 cases r with
 | error e => exact tk _ _ (XE.of_call I (fun _ _ _ z => z) hq)
 | ok fl =>
  cases fl with
  | ret u => exact I.after hq
  | next => exact False.elim hq
  | brk => exact False.elim hq
  | cont => exact False.elim hq
theorem aC3 {kws : List Keyword} {ks : List Str} {perm : List Nat} (tk : Takes X Wx) (hgd : X.A.guards = some []) (hr : Room k X.A) (F : FnG X.prog X.w X.K X.mg X.base (CX X.prog X.w) k fa fd ps (qN g ps.length (cl f)))
  (kb : KB X.K fd ps 0 ks perm) (hg : Gl X x) (hm : X.mg x = some (.ref fa)) (hk : PySem.W.keepIn X.K (.ref fa) = true) (hdb : (x == ("__debug__" : Str)) = false)
  (hall : (backToKw pos (keywordEach kws X.env)).all (·.1.isSome) = true) (hks : (backToKw pos (keywordEach kws X.env)).filterMap (·.1) = ks) (hno : (backToKw pos (keywordEach kws X.env)).any (·.1.isNone) = false)
  (hp : perm.length = ps.length) (hlk : ms.length = ks.length) (ha : SK g X Wx kws (aB ms)) : SE g X Wx (.Call (.Name x p) [] kws pos) (nF cl f (aB ms) perm) := by
 intro σw h σ H μ Q rs rh po
 have po2 := aEE rh po
 intro pins s I
 refine wpAny_Call_Name_kw (ld_glob I hg hm ?_ hdb)
 have main : aCd X kws σ H fun zs H1 => ∀ pins s us,Inv X pins σ H1 s -> Vals zs us -> wpAny (model X.prog X.w) X.A (call (.ref fa) [] (ks.zip us)) (EP X pins σ Q) X.xe s := by
  refine ha σw h σ H μ _ rs rh ?_
  cases hx : aB ms σw h with
  | bad => rw [hx] at po2; exact po2.elim
  | exc c fs h1 => rw [hx] at po2; exact po2
  | ok ws h1 =>
   rw [hx,R.bind_ok] at po2
   intro μ1 H1 x1 r1 vs qs pins s us I r
   have l1 := qs.length
   have l2 := rH hx
   cases ep : dR perm ws with
   | none => rw [ep] at po2; exact po2.elim
   | some xs =>
    rw [ep] at po2
    simp only at po2
    obtain ⟨ys,ey,z⟩ := aCM ep qs
    refine aE1 (kws := kws) tk hgd hr F kb I (.nil) r rfl (by omega) (by simpa using ey) ⟨xs,h1,μ1,σ, ?_,z,r1, ?_⟩
    ·rw [tW ey]; exact hp
    ·have po3 := (po2.ext x1).imp (Q' := fun w h' μ' H' => ∀ v,RV g μ' H' w v -> Fr H1 w v -> Q v H') fun w h3 μ3 H3 x3 r3 q3 v qv fv => q3 v qv (fv.back x1)
     cases hc : cl f xs h1 with
     | ok w h4 => rw [hc] at po3; exact po3
     | exc c fs h4 => rw [hc] at po3; exact po3
     | bad => rw [hc] at po3; exact po3
 refine PySem.W.callWith_KW0 (h₀ := X.base) I.ok.mod.kin hk hall (thn (main pos pins s I) fun us s1 ⟨vs,H1,I1,r,q⟩ => ⟨I1.kIn, ?_⟩) (by rw [hno]; rfl)
 rw [hks]
 exact q pins s1 us I1 r
end
end PV
end
section
namespace PV
open PySem PySem.Spec PyProof.Rows L2
def aKt (x : D) (h : Hh) : R D := match x with
 | .int i => .ok (.int (-i)) h
 | _ => .bad
def kC (f f' : D -> D -> Hh -> R D) (a b c : M D) : M D := fun σ h => (a σ h).bind fun x h1 => (b σ h1).bind fun y h2 => (f x y h2).bind fun z h3 => match z with
 | .bl true => (c σ h3).bind fun w h4 => f' y w h4
 | .bl false => .ok (.bl false) h3
 | _ => .bad
section
variable {g : Gx} {X : Cx} {Wx : WX} {a b c : Expr} {ma mb mc : M D} {f f' : D -> D -> Hh -> R D} {pos : Pos}
theorem xG {op op' : CmpOp} (so : SO g X Wx (compareOp op) f) (so' : SO g X Wx (compareOp op') f') (ha : SE g X Wx a ma) (hb : SE g X Wx b mb) (hc : SE g X Wx c mc) {σw : Sg} {h : Hh} {σ : L2.St} {H : Hp} {μ : List Addr} {Q : VK} (rs : RS g μ H σw σ) (rh : RH g μ h H)
  (po : Po g Wx σ μ H (kC f f' ma mb mc σw h) (fun w h' μ' H' => ∀ v,RV g μ' H' w v -> Fr H w v -> Q v H')) : tChain (rOf X (compareOp op)) (rOf X (compareOp op')) (tOf X a) (tOf X b) (tOf X c) σ H Q := by
 refine ha σw h σ H μ _ rs rh (po.bind.imp fun x h1 μ1 H1 x1 r1 p1 vx qx fx => ?_)
 refine hb σw h1 σ H1 μ1 _ (rs.ext rh.trk x1) r1 (p1.bind.imp fun y h2 μ2 H2 x2 r2 p2 vy qy fy => ?_)
 have rs2 := rs.ext rh.trk (x1.trans x2)
 refine so x y h2 σ H2 μ2 vx vy _ r2 (qx.ext r1.trk x2) qy (p2.bind.imp fun z h3 μ3 H3 x3 r3 p3 vz qz fz => ?_)
 split at p3
 ·refine ⟨true,qz, ?_⟩
  rw [if_pos rfl]
  refine hc σw h3 σ H3 μ3 _ (rs2.ext r2.trk x3) r3 (p3.bind.imp fun w h4 μ4 H4 x4 r4 p4 vw qw fw => ?_)
  exact so' y w h4 σ H4 μ4 vy vw Q r4 ((qy.ext r2.trk x3).ext r3.trk x4) qw (p4.imp fun w5 h5 μ5 H5 x5 r5 q5 v qv fv => q5 v qv (fv.back (((x1.trans x2).trans x3).trans x4)))
 ·refine ⟨false,qz, ?_⟩
  rw [if_neg Bool.false_ne_true]
  exact p3.at r3 _ rfl (.of rfl)
 ·exact p3.elim
theorem aEc {op op' : CmpOp} (so : SO g X Wx (compareOp op) f) (so' : SO g X Wx (compareOp op') f') (ha : SE g X Wx a ma) (hb : SE g X Wx b mb) (hc : SE g X Wx c mc) (hm : lastMarks [op,op'] [b,c] = false) :
  SE g X Wx (.Compare a [op,op'] [b,c] pos) (kC f f' ma mb mc) := fun σw h σ H μ Q rs rh po => eM (pe_chain qF qF aX aX aX hm) (xG so so' ha hb hc rs rh po)
theorem aEn {op op' : CmpOp} (so : SO g X Wx (compareOp op) f) (so' : SO g X Wx (compareOp op') f') (ha : SE g X Wx a ma) (hb : SE g X Wx b mb) (hc : SE g X Wx c mc) (hm : lastMarks [op,op'] [b,c] = false) :
  ST g X Wx (.Compare a [op,op'] [b,c] pos) (mB (kC f f' ma mb mc)) := fun σw h σ H μ Q rs rh po => aBW (pt_chain qF qF aX aX aX hm) (xG (Q := fun v H' => ∃ k,v = .bl k /\ Q k H') so so' ha hb hc rs rh (xC po))
end
section
variable {g : Gx} {X : Cx} {Wx : WX} {elt tg iter tg1 iter1 : Expr} {ifs ifs1 : List Expr} {scope : Scope} {own : List (Str × Nat)} {pos : Pos} {mi mi1 : M Src} {t t1 : Tg} {mt mt1 : M Bool} {me : M D} {vs1 : List Nat}
theorem aDH (hi : SI g X Wx tg iter mi) (hg : SBG g X scope tg t) (hts : STs g X scope ifs mt) (hi1 : SBI g X scope tg1 iter1 mi1) (hg1 : SBG g X scope tg1 t1) (hts1 : STs g X scope ifs1 mt1) (he : SB g X scope elt me)
  (hsl : ∀ i ∈ t.slots,i ∈ own.map (·.2)) (hsl1 : ∀ i ∈ t1.slots,i ∈ vs1)
  {σw : Sg} {h : Hh} {σ : L2.St} {H : Hp} {μ : List Addr} {Q : VK} (rs : RS g μ H σw σ) (rh : RH g μ h H)
  (po : Po g Wx σ μ H (wC mi t mt mi1 t1 mt1 me (own.map (·.2)) vs1 σw h) (fun w h' μ' H' => ∀ v,RV g μ' H' w v -> Fr H w v -> Q v H')) :
  tLc2 (xB X tg iter) (tBG X scope tg) (tTs X scope ifs) (tBI X scope tg1 iter1) (tBG X scope tg1) (tTs X scope ifs1) (tB1 X scope elt) (own.map (·.2)) vs1 σ H Q := by
 refine hi σw h σ H μ _ rs rh (po.bind.imp fun src h1 μ1 H1 x1 r1 p1 J sk D nD => ?_)
 have rs1 := (rs.ext rh.trk x1).wipe (own.map (·.2))
 generalize hbd : (fun (acc : List PV.D) (σ1 : Sg) (h : Hh) => (noX (mt σ1 h)).bind fun b h2 => if b = true then (noX (mi1 σ1 h2)).bind fun src1 h3 => lcL src1 t1 (hV mt1 me) (dM σ1 vs1) fK 0 acc h3 else .ok acc h2) = bd at p1
 have nb : ∀ acc σ h c fs h',bd acc σ h ≠ .exc c fs h' := by
  intro acc σ h c fs h' z
  rw [<- hbd] at z
  rcases bind_exc z with z | ⟨b,h2,_,z⟩
  ·exact kR z
  ·split at z
   ·rcases bind_exc z with z | ⟨y,h3,_,z⟩
    ·exact kR z
    ·exact pB (fun _ _ _ _ _ _ => xF) _ _ _ _ z
   ·cases z
 have pl := aCy (fun c fs h => pB nb _ _ _ _) x1 nD p1
 have go := aBJ (a := D) r1.trk nD
 refine sN (rel := jE g) go gD (fun μ H h x r i => (sk.ext x).at r i) (fun w x acc h μ H' σ1 Nx G nt qx e2 p2 => ?_) (aCr r1 nD) pl
 intro s0 H0 C cl fp
 refine hg s0 H0 C cl fp w x _ σ1 h _ H' μ _ (rs1.ext r1.trk G.x) G.r nt qx e2 fun σ' rs' w' => ⟨by rw [w' _ hsl,oG], ?_⟩
 rw [<- hbd] at p2
 refine uI hts rs' G.r ((PoL.po (rel := jE g) go gD G p2).imp fun b h2 μ2 H2 x2 r2 q2 => ?_)
 obtain ⟨G2,p3⟩ := q2
 have G2 := G2 μ2 H2 x2 r2
 have rs2 := rs'.ext G.r.trk x2
 cases b with
 | false => exact p3 μ2 H2 G2
 | true =>
  simp only [if_true] at p3 ⊢
  intro s0 H0 C cl fp
  refine hi1 s0 H0 C cl fp σ1 h2 σ' H2 μ2 _ rs2 r2 ((PoL.po (rel := jE g) go gD G2 p3).imp fun src1 h3 μ3 H3 x3 r3 q3 J1 sk1 => ?_)
  obtain ⟨G3,p4⟩ := q3
  have G3 := G3 μ3 H3 x3 r3
  have sD : vP μ2 H2 D := by
   obtain ⟨o,eo,mo,_⟩ := G2.ob
   exact ⟨o,eo,mo,G2.na⟩
  have rs3 := (rs2.ext r2.trk x3).wipe vs1
  generalize vP μ2 H2 = S at sk1 sD
  -- the inner loop,over a ground of its own
  let Gr : List Addr -> Hp -> Prop := fun μ H => Ext μ1 H1 μ H /\ ExtS S μ3 H3 μ H /\ SOk S μ H /\ RS g μ H (dM σ1 vs1) (wipe σ' vs1)
  have go1 : GrOk Gr D := by
   refine ⟨fun {μ H μ' H'} gr tr x => ?_,fun {μ H o o'} gr eo mo no mo' => ?_⟩
   ·obtain ⟨y1,y2,y3,y4⟩ := gr
    exact ⟨y1.trans x,y2.trans x y3.nin,y3.ext x,y4.ext tr x⟩
   ·obtain ⟨y1,y2,y3,y4⟩ := gr
    refine ⟨y1.updN r1.trk nD,y2.upd sD,⟨fun b sb => ?_,y3.nin⟩,y4.1,fun i w e => ?_⟩
    ·by_cases hb : b = D
     ·subst hb; exact ⟨o',upd_same,mo'⟩
     ·rw [upd_ne hb]; exact y3.mu b sb
    ·obtain ⟨v,ev,nt,q⟩ := y4.2 i w e
     exact ⟨v,ev,nt,q.upd eo mo nt⟩
  have G4 : Gd g (jE g) Gr D μ3 h3 acc H3 := G3.sub fun x => ⟨x,(Ext.refl r3.trk).toS fun b sb _ => sk1.so.nin b sb,sk1.so,rs3⟩
  refine sN (rel := jE g) go1 gD (fun μ H h x r i => sk1.ok μ H h x.2.1 r i) (fun w x acc h μ H' σ2 Nx1 G nt qx e2 p5 => ?_) G4 (p4.sub fun x => x.1)
  intro s0 H0 C cl fp
  refine hg1 s0 H0 C cl fp w x _ σ2 h _ H' μ _ G.x.2.2.2 G.r nt qx e2 fun σ3 rs3 w3 => ⟨?_,aEW go1 hts1 he G rs3 p5⟩
  rw [w3 _ hsl1,oG]
end
end PV
end
section
namespace PV
open PySem PySem.Spec PyProof.Rows L2
section
variable {g : Gx} {X : Cx} {Wx : WX} {elt tg iter tg1 iter1 : Expr} {ifs ifs1 : List Expr} {scope : Scope} {own : List (Str × Nat)} {pos py spos : Pos} {mi mi1 : M Src} {t t1 : Tg} {mt mt1 : M Bool} {me : M D} {vs1 : List Nat} {i : Nat} {y : Str}
theorem aAW {m : M D} {t : TE} (hr : ∀ {σw : Sg} {h : Hh} {σ : L2.St} {H : Hp} {μ : List Addr} {Q : VK},RS g μ H σw σ -> RH g μ h H -> Po g Wx σ μ H (m σw h) (fun w h' μ' H' => ∀ v,RV g μ' H' w v -> Fr H w v -> Q v H') -> t σ H Q)
  {σw : Sg} {h : Hh} {σ : L2.St} {H : Hp} {μ : List Addr} {E : Ends} (rs : RS g μ H σw σ) (rh : RH g μ h H) (po : PoS g Wx μ H (aR (.nm i) m σw h) E) : tAsg t (gName i) E σ H := by
 refine hr rs rh ((PoS.then rs rh po).imp fun w h1 μ1 H1 x1 r1 p1 v qv fv => ?_)
 obtain ⟨μ1',x1',r1',q1',_⟩ := jI r1 qv fv x1
 have p2 := p1 μ1' H1 x1'
 simp only [Tg.set] at p2
 exact p2.at r1' ((rs.ext rh.trk x1').set fE q1' i)
theorem aEm (hc : X.calm = true) (hN : X.N.Nodup) (hy : X.N[i]? = some y) (hyl : X.env.scope.names.lookup y = some .local) (hsw : swapsWith (.ListComp elt [⟨tg,iter,ifs,0⟩] scope pos) (some (.Name y py)) spos.line X.env = pure true)
  (ok : BlkOk X.N X.env.scope scope own) (hsl : ∀ i ∈ t.slots,i ∈ own.map (·.2)) (hs : ∀ x,foldedSetIterable iter X.env x = pure x)
  (hi : SI g X Wx tg iter mi) (hg : SBG g X scope tg t) (hts : STs g X scope ifs mt) (he : SB g X scope elt me) : SS g X Wx (.Assign [.Name y py] (.ListComp elt [⟨tg,iter,ifs,0⟩] scope pos) spos) (aR (.nm i) (mLc mi t mt me (own.map (·.2)))) := by
 intro σw h σ H μ E rs rh po
 refine oQ (ps_setLc hc hN hy hyl hsw uU ok (fun s0 H0 C cl fp => (⟨fun pins s σ H v u Q I r q => q s0 H0 C cl fp pins s u I r⟩ : PG _ _ (tBG X scope tg))) (fun s0 H0 C cl fp => pF hts s0 H0 C cl fp)
  (fun s0 H0 C cl fp => (⟨fun pins s σ H Q I q => q s0 H0 C cl fp pins s I⟩ : PE _ _ (tB1 X scope elt))) hs) ?_
 exact aAW (aBa hi hg hts he hsl) rs rh po
theorem aDa (hc : X.calm = true) (hN : X.N.Nodup) (hy : X.N[i]? = some y) (hyl : X.env.scope.names.lookup y = some .local) (hsw : swapsWith (.ListComp elt [⟨tg,iter,ifs,0⟩,⟨tg1,iter1,ifs1,0⟩] scope pos) (some (.Name y py)) spos.line X.env = pure true)
  (ok : BlkOk X.N X.env.scope scope own) (hv : ∀ i ∈ vs1,i ∈ own.map (·.2)) (hsl : ∀ i ∈ t.slots,i ∈ own.map (·.2)) (hsl1 : ∀ i ∈ t1.slots,i ∈ vs1)
  (hs : ∀ x,foldedSetIterable iter X.env x = pure x) (hs1 : ∀ env x,foldedSetIterable iter1 env x = pure x)
  (hi : SI g X Wx tg iter mi) (hg : SBG g X scope tg t) (hts : STs g X scope ifs mt) (hi1 : SBI g X scope tg1 iter1 mi1) (hg1 : SBG g X scope tg1 t1) (hts1 : STs g X scope ifs1 mt1) (he : SB g X scope elt me) :
  SS g X Wx (.Assign [.Name y py] (.ListComp elt [⟨tg,iter,ifs,0⟩,⟨tg1,iter1,ifs1,0⟩] scope pos) spos) (aR (.nm i) (wC mi t mt mi1 t1 mt1 me (own.map (·.2)) vs1)) := by
 intro σw h σ H μ E rs rh po
 refine oQ (ps_setLc2 hc hN hy hyl hsw uU ok hv (fun s0 H0 C cl fp => (⟨fun pins s σ H v u Q I r q => q s0 H0 C cl fp pins s u I r⟩ : PG _ _ (tBG X scope tg))) (fun s0 H0 C cl fp => pF hts s0 H0 C cl fp)
  (fun s0 H0 C cl fp => (⟨fun pins s σ H R I q => q s0 H0 C cl fp pins s I⟩ : PI _ _ _ (tBI X scope tg1 iter1)))
  (fun s0 H0 C cl fp => (⟨fun pins s σ H v u Q I r q => q s0 H0 C cl fp pins s u I r⟩ : PG _ _ (tBG X scope tg1))) (fun s0 H0 C cl fp => pF hts1 s0 H0 C cl fp)
  (fun s0 H0 C cl fp => (⟨fun pins s σ H Q I q => q s0 H0 C cl fp pins s I⟩ : PE _ _ (tB1 X scope elt))) hs hs1) ?_
 exact aAW (aDH hi hg hts hi1 hg1 hts1 he hsl hsl1) rs rh po
end
abbrev FST := Program -> World -> PySem.W.Frag -> (Str -> Option Value) -> Heap -> Gx -> Nat -> Cll -> Prop
structure Good (FS : FST) (g : Gx) (k : Nat) (cl : Cll) (N : List Str) (sc : Scope) (fq : Str -> Bool) (X : Cx) (Wx : WX) : Prop where
 K : X.K = g.K
 calm : X.calm = true
 eN : X.N = N
 nd : N.Nodup
 sc : X.env.scope = sc
 fn : X.fn = fq
 room : Room (k + 3) X.A
 gd : X.A.guards = some []
 tk : Takes X Wx
 fs : FS X.prog X.w X.K X.mg X.base g k cl
def okV (N : List Str) (sc : Scope) (i : Nat) (x : Str) : Bool := decide (N[i]? = some x) && (match sc.names.lookup x with
 | some .local => true
 | some .cell => true
 | some .free => true
 | _ => false) && !(x == ("__debug__" : Str)) && !(x == ("__classdict__" : Str))
def okT (N : List Str) (sc : Scope) (fq : Str -> Bool) (i : Nat) (x : Str) : Bool := decide (N[i]? = some x) && (match sc.names.lookup x with
 | some .local => true
 | some .cell => fq x
 | _ => false)
def okL (N : List Str) (sc : Scope) (i : Nat) (x : Str) : Bool := decide (N[i]? = some x) && (match sc.names.lookup x with
 | some .local => true
 | _ => false)
def okG (sc : Scope) (x : Str) : Bool := (match sc.names.lookup x with
 | some .globalImplicit => true
 | _ => false) && !(x == ("__debug__" : Str)) && !(decide (x = "__name__"))
section
variable {FS : FST} {g : Gx} {k : Nat} {cl : Cll} {N : List Str} {sc : Scope} {fq : Str -> Bool} {X : Cx} {Wx : WX} {pos p : Pos} {x : Str} {i : Nat}
theorem Good.un (G : Good FS g k cl N sc fq X Wx) : X.A.units + 65 < cLine := by have := G.room.un; omega
theorem Good.xN (G : Good FS g k cl N sc fq X Wx) : X.N.Nodup := by rw [G.eN]; exact G.nd
theorem Good.var (G : Good FS g k cl N sc fq X Wx) (i : Nat) (h : okV N sc i x = true) : SE g X Wx (.Name x pos) (mV i) := by
 unfold okV at h
 simp only [Bool.and_eq_true,Bool.not_eq_true',decide_eq_true_eq] at h
 obtain ⟨⟨⟨h1,h2⟩,h3⟩,h4⟩ := h
 refine aC4 (by rw [G.eN]; exact h1) ?_ h3 h4
 rw [G.sc]
 unfold Vis
 split at h2
 ·exact .inl ‹_›
 ·exact .inr (.inl ‹_›)
 ·exact .inr (.inr ‹_›)
 ·cases h2
theorem Good.tgt (G : Good FS g k cl N sc fq X Wx) (i : Nat) (h : okT N sc fq i x = true) : SG g X (.Name x pos) (.nm i) := by
 unfold okT at h
 simp only [Bool.and_eq_true,decide_eq_true_eq] at h
 obtain ⟨h1,h2⟩ := h
 refine aBo G.xN (by rw [G.eN]; exact h1) ?_ ?_
 ·rw [G.sc]
  unfold L2.Loc
  split at h2
  ·exact .inl ‹_›
  ·exact .inr ‹_›
  ·cases h2
 ·rw [G.sc,G.fn]
  split at h2
  ·exact .inr ‹_›
  ·exact .inl h2
  ·cases h2
theorem Good.loc (G : Good FS g k cl N sc fq X Wx) (h : okL N sc i x = true) : X.N[i]? = some x /\ X.env.scope.names.lookup x = some .local := by
 unfold okL at h
 simp only [Bool.and_eq_true,decide_eq_true_eq] at h
 obtain ⟨h1,h2⟩ := h
 refine ⟨by rw [G.eN]; exact h1, ?_⟩
 rw [G.sc]
 split at h2
 ·rename_i e; exact e
 ·cases h2
theorem Good.gl (G : Good FS g k cl N sc fq X Wx) (h : okG sc x = true) : Gl X x /\ (x == ("__debug__" : Str)) = false /\ x ≠ "__name__" := by
 unfold okG at h
 simp only [Bool.and_eq_true,Bool.not_eq_true',decide_eq_false_iff_not] at h
 obtain ⟨⟨h1,h2⟩,h3⟩ := h
 refine ⟨?_,h2,h3⟩
 unfold Gl Env.kindOf
 rw [G.sc]
 split at h1
 ·rename_i e; exact e
 ·cases h1
/-- a name of the module that holds a plain value -/
theorem Good.con (G : Good FS g k cl N sc fq X Wx) {u : Value} {v : V} {w : D} (h : okG sc x = true) (hm : X.mg x = some u) (ru : RelV v u) (nt : w.isTl = false) (rv : ∀ μ H,RV g μ H w v) : SE g X Wx (.Name x pos) (mC w) := by
 obtain ⟨h1,h2,h3⟩ := G.gl h
 exact wR ⟨fun pins s σ H Q I q => ld_glob I h1 hm ⟨v,H,I,ru,q⟩ h2⟩ nt rv
/-- a built-in type by its name -/
theorem Good.typ (G : Good FS g k cl N sc fq X Wx) {n : String} (h : okG sc x = true) (hm : X.mg x = none) (hv : bootBuiltins x = some (.type n)) : SE g X Wx (.Name x pos) (mC (.ty n)) := by
 obtain ⟨h1,h2,h3⟩ := G.gl h
 exact wR ⟨fun pins s σ H Q I q => ld_blt I h1 hm hv (show _ from ⟨.ty n,H,I,rfl,q⟩) h3 h2⟩ rfl fun _ _ => rfl
theorem Good.b1 (G : Good FS g k cl N sc fq X Wx) {bv : Value} {f : D -> Hh -> R D} {a : Expr} {ma : M D} (h : okG sc x = true) (hm : X.mg x = none) (hv : bootBuiltins x = some bv) (hb : oP bv = true) (s : SC1 g X Wx bv f) (he : starEach [a] X.env = [(false,eval a X.env)]) (ha : SE g X Wx a ma) :
  SE g X Wx (.Call (.Name x p) [a] [] pos) (mF1 f ma) := by
 obtain ⟨h1,h2,h3⟩ := G.gl h
 exact aEU s hb h1 hm hv h3 h2 he ha
theorem Good.b2 (G : Good FS g k cl N sc fq X Wx) {bv : Value} {f : D -> D -> Hh -> R D} {a b : Expr} {ma mb : M D} (h : okG sc x = true) (hm : X.mg x = none) (hv : bootBuiltins x = some bv) (hb : oP bv = true) (s : SC2 g X Wx bv f)
  (he : starEach [a,b] X.env = [(false,eval a X.env),(false,eval b X.env)]) (he2 : starEach [b] X.env = [(false,eval b X.env)]) (ha : SE g X Wx a ma) (hb' : SE g X Wx b mb) :
  SE g X Wx (.Call (.Name x p) [a,b] [] pos) (mOp f ma mb) := by
 obtain ⟨h1,h2,h3⟩ := G.gl h
 exact aIV s hb h1 hm hv h3 h2 he he2 ha hb'
end
/-- a def of the module: its object,its promise -/
def FnF (P : Program) (w : World) (K : PySem.W.Frag) (mg : Str -> Option Value) (base : Heap) (g : Gx) (k : Nat) (cl : Cll) (f : Nat) (x : Str) (st : Stmt) (ps : List Str) : Prop :=
 ∃ fa fd,mg x = some (.ref fa) /\ g.fa f = some fa /\ FunD K x x (defArgs st) (defBody st) (defScope st) [] [] fa fd /\ FnG P w K mg base (CX P w) (k + 3) fa fd ps (qN g ps.length (cl f))
/-- how its arguments are bound,all by place -/
def BdF (x : Str) (st : Stmt) (ps : List Str) : Prop := ∀ (kV doc pm : Value) (an : Option Addr) (cdv ct : Value) (us : List Value),us.length = ps.length -> bindArgs (PySem.W.fnOf x x (defArgs st) (defBody st) (defScope st) .none kV doc pm an cdv ct) ⟨us,[]⟩ = pure (ps.zip us)
def BdK (x : Str) (st : Stmt) (ps ks : List Str) (perm : List Nat) : Prop := ∀ (kV doc pm : Value) (an : Option Addr) (cdv ct : Value) (ws xs : List Value),ws.length = ks.length -> dR perm ws = some xs ->
 bindArgs (PySem.W.fnOf x x (defArgs st) (defBody st) (defScope st) .none kV doc pm an cdv ct) ⟨[],ks.zip ws⟩ = pure (ps.zip xs)
section
variable {FS : FST} {g : Gx} {k : Nat} {cl : Cll} {N : List Str} {sc : Scope} {fq : Str -> Bool} {X : Cx} {Wx : WX} {pos p : Pos} {x : Str} {i f : Nat} {st : Stmt} {ps : List Str} {e : Expr} {es : List Expr} {ms : List (M D)}
theorem aDL (cl : Cll) (f : Nat) (m : M (List D)) : bA (fun f ws h => cl f (ws ++ []) h) f m = bA cl f m := by
 simp only [List.append_nil]
theorem Good.call (G : Good FS g k cl N sc fq X Wx) (h : okG sc x = true) (F : FnF X.prog X.w X.K X.mg X.base g k cl f x st ps) (bd : BdF x st ps)
  (he : starEach (e :: es) X.env = (false,eval e X.env) :: starEach es X.env) (hpl : (backTo pos (starEach es X.env)).any (·.1) = false) (hl : ms.length = ps.length)
  (ha : SA g X Wx (e :: es) (aB ms)) : SE g X Wx (.Call (.Name x p) (e :: es) [] pos) (bA cl f (aB ms)) := by
 obtain ⟨h1,h2,h3⟩ := G.gl h
 obtain ⟨fa,fd,hm,hf,D,FG⟩ := F
 rw [<- aDL]
 exact aFP (dws := []) (dvs := []) (ds := []) G.tk G.gd G.room FG (D.bindsN bd) .nil (fun _ _ => rfl) h1 hm D.kp h2 he hpl (by simpa using hl) ha
theorem FunD.kb {K : PySem.W.Frag} {fa : Addr} {fd : FuncData} {ks : List Str} {perm : List Nat} (D : FunD K x x (defArgs st) (defBody st) (defScope st) [] [] fa fd) (bd : BdK x st ps ks perm) : KB K fd ps 0 ks perm := by
 obtain ⟨oc,od,dV,kV,doc,pm,an,cdv,ct,osl,rfl,lk,hcd,hD,hK⟩ := D.ex
 rcases hD with ⟨_,rfl⟩ | ⟨e,_⟩
 ·intro s us ws xs KX hu hw ex
  have : us = [] := List.eq_nil_of_length_eq_zero hu
  subst this
  exact .of_eq (bd kV doc pm an cdv ct ws xs hw ex)
 ·exact absurd rfl e
theorem Good.callK (G : Good FS g k cl N sc fq X Wx) {kws : List Keyword} (ks : List Str) (perm : List Nat) (h : okG sc x = true) (F : FnF X.prog X.w X.K X.mg X.base g k cl f x st ps) (bd : BdK x st ps ks perm)
  (hall : (backToKw pos (keywordEach kws X.env)).all (·.1.isSome) = true) (hks : (backToKw pos (keywordEach kws X.env)).filterMap (·.1) = ks) (hno : (backToKw pos (keywordEach kws X.env)).any (·.1.isNone) = false)
  (hp : perm.length = ps.length) (hlk : ms.length = ks.length) (ha : SK g X Wx kws (aB ms)) : SE g X Wx (.Call (.Name x p) [] kws pos) (nF cl f (aB ms) perm) := by
 obtain ⟨h1,h2,h3⟩ := G.gl h
 obtain ⟨fa,fd,hm,hf,D,FG⟩ := F
 exact aC3 G.tk G.gd G.room FG (FunD.kb D bd) h1 hm D.kp h2 hall hks hno hp hlk ha
end
theorem Good.blk {FS : FST} {g : Gx} {k : Nat} {cl : Cll} {N : List Str} {sc : Scope} {fq : Str -> Bool} {X : Cx} {Wx : WX} (G : Good FS g k cl N sc fq X Wx) (scope : Scope) (s0 : Shared) (H0 : Hp) (C : Addr) (cls : List (Str × Addr)) (fp : List Addr) :
  Good FS g k cl N (relS scope sc) (fun x => scope.names.lookup x == some .cell) (BX X scope s0 H0 C cls fp) WF where
 K := G.K
 calm := G.calm
 eN := G.eN
 nd := G.nd
 sc := by rw [<- G.sc]; rfl
 fn := rfl
 room := G.room
 gd := G.gd
 tk := fun u s' ⟨a,B,sI,pins,σ,H,cls,d,e,I,nb,up,sky,na,os,ag,w⟩ => w.elim
 fs := G.fs
/-- the names of a block -/
def okB (N : List Str) (sc scope : Scope) (own : List (Str × Nat)) : Bool := (match scope.kind with
  | .function => true
  | _ => false) && scope.names.all (fun y => match scope.names.lookup y.1,y.2 with
  | some .local, .local => true
  | some .cell, .cell => true
  | some .free, .free => true
  | some .globalImplicit, .globalImplicit => true
  | _,_ => false) && own.all (fun p => decide (N[p.2]? = some p.1)) && scope.names.all (fun y => match y.2 with
  | .free => (match sc.names.lookup y.1 with
   | some .cell => true
   | some .free => true
   | _ => false)
  | .local => decide (y.1 ∈ own.map (·.1)) || decide (y.1 ∉ N)
  | .cell => decide (y.1 ∈ own.map (·.1)) || decide (y.1 ∉ N)
  | .globalImplicit => true
  | _ => false)
theorem Good.bok {FS : FST} {g : Gx} {k : Nat} {cl : Cll} {N : List Str} {sc : Scope} {fq : Str -> Bool} {X : Cx} {Wx : WX} {scope : Scope} {own : List (Str × Nat)} (G : Good FS g k cl N sc fq X Wx) (h : okB N sc scope own = true) : BlkOk X.N X.env.scope scope own := by
 unfold okB at h
 simp only [Bool.and_eq_true,List.all_eq_true,decide_eq_true_eq] at h
 obtain ⟨⟨⟨h1,h2⟩,h3⟩,h4⟩ := h
 rw [G.eN,G.sc]
 refine ⟨?_,fun y hy => ?_,h3,fun y hy e => ?_,fun y hy e => ?_⟩
 ·split at h1
  ·assumption
  ·cases h1
 ·have z := h2 y hy
  split at z
  ·rw [‹y.2 = _›]; assumption
  ·rw [‹y.2 = _›]; assumption
  ·rw [‹y.2 = _›]; assumption
  ·rw [‹y.2 = _›]; assumption
  ·cases z
 ·have z := h4 y hy
  rw [e] at z
  simp only at z
  split at z
  ·exact .inl ‹_›
  ·exact .inr ‹_›
  ·cases z
 ·have z := h4 y hy
  rcases e with e | e
  ·rw [e] at z
   simpa using z
  ·rw [e] at z
   simpa using z
def lA (l vs : List Nat) : Bool := l.all fun i => decide (i ∈ vs)
theorem mT {l vs : List Nat} (h : lA l vs = true) : ∀ i ∈ l,i ∈ vs := fun i hi => of_decide_eq_true (List.all_eq_true.mp h i hi)
section
variable {FS : FST} {g : Gx} {k : Nat} {cl : Cll} {N : List Str} {sc : Scope} {fq : Str -> Bool} {X : Cx} {Wx : WX} {elt tg iter tg1 iter1 : Expr} {ifs ifs1 : List Expr} {scope : Scope} {pos py spos : Pos} {mi mi1 : M Src} {t t1 : Tg} {mt mt1 : M Bool} {me : M D} {y : Str}
abbrev fqB (scope : Scope) : Str -> Bool := fun x => scope.names.lookup x == some .cell
/-- none or one test,within a block -/
inductive GTs (FS : FST) (g : Gx) (k : Nat) (cl : Cll) (N : List Str) (sc : Scope) (fq : Str -> Bool) : List Expr -> M Bool -> Prop
 | nil : GTs FS g k cl N sc fq [] (fun _ h => .ok true h)
 | one {c : Expr} {m : M Bool} (hc : ∀ X,Good FS g k cl N sc fq X WF -> ST g X WF c m) : GTs FS g k cl N sc fq [c] m
theorem GTs.sts (G : Good FS g k cl N sc fq X Wx) (h : GTs FS g k cl N (relS scope sc) (fqB scope) ifs mt) : STs g X scope ifs mt := by
 cases h with
 | nil => exact .nil
 | one hc => exact .one fun s0 H0 C c1 fp => hc _ (G.blk scope s0 H0 C c1 fp)
theorem Good.lc (G : Good FS g k cl N sc fq X Wx) (own : List (Str × Nat)) (vs : List Nat) (hB : okB N sc scope own = true) (hvs : own.map (·.2) = vs) (hsl : lA t.slots vs = true) (hs : ∀ x,foldedSetIterable iter X.env x = pure x) (hi : SI g X Wx tg iter mi)
  (hg : ∀ X,Good FS g k cl N (relS scope sc) (fqB scope) X WF -> SG g X tg t) (ht : GTs FS g k cl N (relS scope sc) (fqB scope) ifs mt) (he : ∀ X,Good FS g k cl N (relS scope sc) (fqB scope) X WF -> SE g X WF elt me) :
  SE g X Wx (.ListComp elt [⟨tg,iter,ifs,0⟩] scope pos) (mLc mi t mt me vs) := by
 subst hvs
 exact aIZ G.calm G.xN (G.bok hB) (mT hsl) hs hi (fun s0 H0 C c1 fp => hg _ (G.blk scope s0 H0 C c1 fp)) (ht.sts G) (fun s0 H0 C c1 fp => he _ (G.blk scope s0 H0 C c1 fp))
/-- the compiler stores the list at once: a local name of the def,on one line -/
def wD (sc scope : Scope) (y : Str) (py pos : Pos) : Bool := (match sc.kind with
  | .function => true
  | _ => false) && (py.line == pos.line) && !(scope.names.any fun (n,k) => n == y && (k == .local || k == .cell))
theorem Good.sw (G : Good FS g k cl N sc fq X Wx) {gs : List Comprehension} {l : Nat} (h : wD sc scope y py pos = true) (hy : X.env.scope.names.lookup y = some .local) : swapsWith (.ListComp elt gs scope pos) (some (.Name y py)) l X.env = pure true := by
 unfold wD at h
 simp only [Bool.and_eq_true,Bool.not_eq_true'] at h
 obtain ⟨⟨h1,h2⟩,h3⟩ := h
 refine sw_true ?_ hy h2 h3
 rw [G.sc]
 split at h1
 ·rename_i e; exact e
 ·cases h1
theorem Good.setLc (G : Good FS g k cl N sc fq X Wx) (i : Nat) (own : List (Str × Nat)) (vs : List Nat) (hl : okL N sc i y = true) (hw : wD sc scope y py pos = true) (hB : okB N sc scope own = true) (hvs : own.map (·.2) = vs) (hsl : lA t.slots vs = true) (hs : ∀ x,foldedSetIterable iter X.env x = pure x) (hi : SI g X Wx tg iter mi)
  (hg : ∀ X,Good FS g k cl N (relS scope sc) (fqB scope) X WF -> SG g X tg t) (ht : GTs FS g k cl N (relS scope sc) (fqB scope) ifs mt) (he : ∀ X,Good FS g k cl N (relS scope sc) (fqB scope) X WF -> SE g X WF elt me) :
  SS g X Wx (.Assign [.Name y py] (.ListComp elt [⟨tg,iter,ifs,0⟩] scope pos) spos) (aR (.nm i) (mLc mi t mt me vs)) := by
 subst hvs
 obtain ⟨h1,h2⟩ := G.loc hl
 exact aEm G.calm G.xN h1 h2 (G.sw hw h2) (G.bok hB) (mT hsl) hs hi (fun s0 H0 C c1 fp => hg _ (G.blk scope s0 H0 C c1 fp)) (ht.sts G) (fun s0 H0 C c1 fp => he _ (G.blk scope s0 H0 C c1 fp))
theorem Good.setLc2 (G : Good FS g k cl N sc fq X Wx) (i : Nat) (own : List (Str × Nat)) (vs vs1 : List Nat) (hl : okL N sc i y = true) (hw : wD sc scope y py pos = true) (hB : okB N sc scope own = true) (hvs : own.map (·.2) = vs) (hsl : lA t.slots vs = true) (hv1 : lA vs1 vs = true) (hsl1 : lA t1.slots vs1 = true)
  (hs : ∀ x,foldedSetIterable iter X.env x = pure x) (hs1 : ∀ env x,foldedSetIterable iter1 env x = pure x) (hi : SI g X Wx tg iter mi)
  (hg : ∀ X,Good FS g k cl N (relS scope sc) (fqB scope) X WF -> SG g X tg t) (ht : GTs FS g k cl N (relS scope sc) (fqB scope) ifs mt)
  (hi1 : ∀ X,Good FS g k cl N (relS scope sc) (fqB scope) X WF -> SI g X WF tg1 iter1 mi1)
  (hg1 : ∀ X,Good FS g k cl N (relS scope sc) (fqB scope) X WF -> SG g X tg1 t1) (ht1 : GTs FS g k cl N (relS scope sc) (fqB scope) ifs1 mt1)
  (he : ∀ X,Good FS g k cl N (relS scope sc) (fqB scope) X WF -> SE g X WF elt me) :
  SS g X Wx (.Assign [.Name y py] (.ListComp elt [⟨tg,iter,ifs,0⟩,⟨tg1,iter1,ifs1,0⟩] scope pos) spos) (aR (.nm i) (wC mi t mt mi1 t1 mt1 me vs vs1)) := by
 subst hvs
 obtain ⟨h1,h2⟩ := G.loc hl
 exact aDa G.calm G.xN h1 h2 (G.sw hw h2) (G.bok hB) (mT hv1) (mT hsl) (mT hsl1) hs hs1 hi (fun s0 H0 C c1 fp => hg _ (G.blk scope s0 H0 C c1 fp)) (ht.sts G)
  (fun s0 H0 C c1 fp => hi1 _ (G.blk scope s0 H0 C c1 fp)) (fun s0 H0 C c1 fp => hg1 _ (G.blk scope s0 H0 C c1 fp)) (ht1.sts G) (fun s0 H0 C c1 fp => he _ (G.blk scope s0 H0 C c1 fp))
theorem aBq {ts : List Expr} {v : Expr} {env env' : Env} (h : env.scope = env'.scope) : swappedStores ts v env = swappedStores ts v env' := by
 unfold swappedStores Env.blockKind Env.kindOf
 rw [h]
theorem aHN {v : Expr} {tg : Option Expr} {l : Nat} {env env' : Env} (h : env.scope = env'.scope) : swapsWith v tg l env = swapsWith v tg l env' := by
 unfold swapsWith Env.blockKind Env.kindOf
 rw [h]
/-- some environment with this scope -/
def env0 (sc : Scope) : Env := { scope := sc,locals := 0,globals := 0,cells := [],qual := "",func := none,code := .none,frame := none,builtins := 0 }
theorem Good.par (G : Good FS g k cl N sc fq X Wx) (i j : Nat) {x y : Str} {a b : Expr} {ma mb : M D} {px py pt : Pos} {kt k2 pt2} (hi : okL N sc i x = true) (hj : okL N sc j y = true) (hij : i ≠ j) (ha : SA g X Wx [a,b] (aB [ma,mb]))
  (hw : swappedStores [.Tuple [.Name x px, .Name y py] kt pt] (.Tuple [a,b] k2 pt2) (env0 sc) = pure (some [x,y])) (hs : swapsWithSole [.Tuple [.Name x px, .Name y py] kt pt] (.Tuple [a,b] k2 pt2) spos.line X.env = pure false) :
  SS g X Wx (.Assign [.Tuple [.Name x px, .Name y py] kt pt] (.Tuple [a,b] k2 pt2) spos) (aR (.tu [.nm i, .nm j]) (bF (aB [ma,mb]))) := by
 obtain ⟨h1,h2⟩ := G.loc hi
 obtain ⟨h3,h4⟩ := G.loc hj
 exact aHF G.calm G.xN h1 h3 hij h2 h4 ha ((aBq G.sc).trans hw) hs
end
end PV
end
section
namespace PV
open PySem PySem.Spec PyProof.Rows L2
/-- what a def's own body has,and a try's body too -/
structure HP (X : Cx) : Prop where
 p : PassesOwn (model X.prog X.w) X.A X.env X.xe
 st : X.stack = X.env :: X.outer
 fr : X.env.frame = some X.env.locals
 ex : X.ex = []
def bH (n : Nat) (ws : List D) : Sg := ws.map some ++ List.replicate (n - ws.length) none
def gK (r : RT) : R D := match r with
 | .nx _ h => .ok .non h
 | .ret w h => .ok w h
 | .exc c fs _ h => .exc c fs h
 | _ => .bad
/-- a def: how many names,how many parameters,what its body does -/
structure Fd where
 nN : Nat
 np : Nat
 body : Cll -> MS
abbrev Tab := Nat -> Option Fd
def aAf (d : Fd) (cl : Cll) (ws : List D) (h : Hh) : R D := if ws.length = d.np then gK (d.body cl (bH d.nN ws) h) else .bad
def aW (T : Tab) : Nat -> Cll
 | 0 => fun _ _ _ => .bad
 | k + 1 => fun f ws h => match T f with
  | some d => aAf d (aW T k) ws h
  | none => .bad
theorem aDc {g : Gx} {μ : List Addr} {H : Hp} {N : List Str} : ∀ {ws : List D} {vs : List V},RVs g μ H ws vs -> ws.length <= N.length -> RS g μ H (bH N.length ws) (L2.start N vs) := by
 intro ws vs q hl
 have l := q.length
 refine ⟨?_,fun i w e => ?_⟩
 ·unfold bH L2.start
  simp [l]
 ·unfold bH at e
  unfold L2.start
  rcases Nat.lt_or_ge i ws.length with hi | hi
  ·rw [List.getElem?_append_left (by simpa using hi)] at e
   rw [List.getElem?_map] at e
   cases e2 : ws[i]? with
   | none => rw [e2] at e; cases e
   | some w' =>
    rw [e2] at e
    cases e
    obtain ⟨v,ev,nt,z⟩ := q.get e2
    refine ⟨v, ?_,nt,z⟩
    rw [List.getElem?_append_left (by simpa [l] using hi),List.getElem?_map,ev]
    rfl
  ·rw [List.getElem?_append_right (by simpa using hi)] at e
   rw [List.getElem?_replicate] at e
   split at e <;> cases e
section
variable {FS : FST} {P : Program} {w : World} {K : PySem.W.Frag} {mg : Str -> Option Value} {base : Heap} {g : Gx} {k : Nat} {x : Str} {st : Stmt} {fa : Addr} {fd : FuncData} {N ps : List Str} {T : Tab} {f : Nat} {m : Cll -> MS}
theorem aDv {n : Nat} : FnG P w K mg base (CX P w) n fa fd ps (qN g ps.length (aW T 0 f)) :=
 ⟨fun vs H Q E ⟨ws,h,μ,σ,hl,_⟩ => hl,fun A outer s H args us vs Q E _ _ _ _ _ ⟨ws,h,μ,σ,hl,q,rh,po⟩ => po.elim⟩
theorem yU {q : Str} {dvs : List V} {kws : List (Str × V)} (D : FunD K x q (defArgs st) (defBody st) (defScope st) dvs kws fa fd) (S : FnScope N ps (defScope st)) (hK : K = g.K) (fs : FS P w K mg base g k (aW T k)) (hT : T f = some ⟨N.length,ps.length,m⟩) (hn : ps.length <= N.length)
  (sl : ∀ X Wx,Good FS g k (aW T k) N (defScope st) (fun _ => true) X Wx -> HP X -> SL g X Wx (defBody st) (m (aW T k))) :
  FnG P w K mg base (CX P w) (k + 1 + 3) fa fd ps (qN g ps.length (aW T (k + 1) f)) := by
 obtain ⟨oc,od,dV,kV,doc,pm,an,cdv,ct,osl,rfl,lk,hcd,_,_⟩ := D.ex
 refine aGo (k := k + 3) lk hcd S (fun vs H Q E ⟨ws,h,μ,σ,hl,_⟩ => hl) fun A outer s H vs Q E hgd hr ⟨ws,h,μ,σ,hl,qq,rh,po⟩ => ?_
 have l := qq.length
 refine ⟨_,rK, ?_⟩
 have G : Good FS g k (aW T k) N (defScope st) (fun _ => true) (cxOf (CX P w) P w K mg base N q (defScope st) fa cdv A outer s H E) (fun cv d _ H' => E cv d H') :=
  ⟨hK,rfl,rfl,S.nd,rfl,rfl,hr,hgd,takes_of rfl rfl rfl rfl,fs⟩
 refine sl _ _ G ⟨passes_of rfl,rfl,rfl,rfl⟩ (bH N.length ws) h (L2.start N vs) H μ _ (aDc qq (by omega)) rh ?_
 have e : aW T (k + 1) f ws h = aAf ⟨N.length,ps.length,m⟩ (aW T k) ws h := by simp only [aW,hT]
 rw [e] at po
 have hw : ws.length = ps.length := by omega
 simp only [aAf,hw,if_true] at po
 cases hx : m (aW T k) (bH N.length ws) h with
 | nx σ1 h1 => rw [hx] at po; exact fun μ1 H1 σ1' x1 r1 s1 => po μ1 H1 x1 r1 .non rfl (.of rfl)
 | ret w1 h1 => rw [hx] at po; exact fun μ1 H1 v x1 r1 q1 f1 => po μ1 H1 x1 r1 v q1 f1
 | brk σ1 h1 => rw [hx] at po; exact po.elim
 | cont σ1 h1 => rw [hx] at po; exact po.elim
 | exc c fs1 σ1 h1 => rw [hx] at po; exact fun μ1 H1 σ1' cv d x1 r1 s1 v1 => po μ1 H1 cv d x1 r1 v1
 | bad => rw [hx] at po; exact po.elim
theorem cI (D : FunD K x x (defArgs st) (defBody st) (defScope st) [] [] fa fd) (hm : mg x = some (.ref fa)) (hf : g.fa f = some fa) : FnF P w K mg base g 0 (aW T 0) f x st ps := ⟨fa,fd,hm,hf,D,aDv⟩
end
end PV
end
section
namespace PV
open PySem PySem.Spec PyProof.Rows L2
/-- the script alone may be tracked,and it is never written -/
structure Alone (K : PySem.W.Frag) (H : Hp) (a : Addr) : Prop where
 at_ : ∀ b,H b = none \/ b = a /\ ∃ o xs,H b = some (.frz o (.lst xs))
 own : H a = none \/ K.lookup a = none
section
variable {P : Program} {w : World} {K : PySem.W.Frag} {mg mb : Str -> Option Value} {k : Nat} {fa a : Addr} {fd : FuncData} {x : Str} {sp : Sp} {s₁ : Shared} {vs : List Value} {ns : List Int} {H : Hp}
theorem zF (al : Alone K H a) (KX : K.In s₁.heap) (hns : s₁.heap.Ns mainGlobals mg) (hb : s₁.heap.Ns builtinsNs mb) (hbb : ∀ x : Str,x ≠ "__name__" -> mb x = bootBuiltins x) (hlim : s₁.heap.NoLimit) (hg : s₁.gens = #[])
  (ha : s₁.heap.get? a = some { cls := .type "list",data := .seq vs.toArray }) (hok : HOk P w H s₁.heap) (hr : Room k callerA)
  (F : ∀ base : Heap,K.In base -> base.Ns mainGlobals mg -> FnG P w K mg base (CX P w) k fa fd [x] sp) (hbind : ∀ (s : Shared) (u : Value),BindsTo s fd ⟨[u],[]⟩ [(x,u)])
  (hsp : sp [.ref a] H (fun v _ => v = .bl true) fun _ _ _ => False) :
  codeAny (model P w) callerA (.call (.ref fa) ⟨[.ref a],[]⟩) (fun r s' => r = .ok (.ret (.bool true)) /\ OldK s₁.heap s'.heap /\ s'.os = s₁.os /\ AllBare s'.gens) s₁ := by
 generalize hB : hidT s₁.heap H = B
 have get : ∀ {b : Addr} {o : Obj},s₁.heap.get? b = some o -> H b = none -> B.get? b = some o := fun e n => by rw [<- hB]; exact hidT_get e n
 have dict : ∀ {b : Addr} {o : Obj} {es : Array DictEntry} {ep : Nat},s₁.heap.get? b = some o -> o.data = .dict es ep -> H b = none := by
  intro b o es ep e d
  rcases al.at_ b with z | ⟨rfl,_⟩
  ·exact z
  ·exfalso
   rw [ha] at e
   cases Option.some.inj e
   exact Data.noConfusion d
 have keepNs : ∀ {b : Addr} {m : Str -> Option Value},s₁.heap.Ns b m -> B.Ns b m := by
  rintro b m ⟨o,es,ep,e,d,r⟩
  exact ⟨o,es,ep,get e (dict e d),d,r⟩
 have kb : K.In B := by
  intro b o e
  refine get (KX b o e) ?_
  rcases al.at_ b with z | ⟨rfl,_⟩
  ·exact z
  ·rcases al.own with z | z
   ·exact z
   ·rw [z] at e; cases e
 obtain ⟨mc,c1,c2⟩ := hlim
 have env : Env0 P w K mg B callerA [] s₁ H := ⟨rfl,⟨kb,keepNs hns,⟨mb,keepNs hb,hbb⟩,⟨mc,keepNs c1,c2⟩⟩,fun b o e => of_hidT (by rw [hB]; exact e),by rw [<- hB]; exact Nat.le_of_eq (hidT_size _ _),trivial,fun b hb => absurd (show b ∈ ([] : List Addr) from hb) (by simp),hok, .of_eq hg⟩
 have run := (F B kb (keepNs hns)).run callerA [] s₁ H ⟨[.ref a],[]⟩ [.ref a] [.ref a] _ _ rfl hr env (hbind s₁ (.ref a)) (.cons rfl .nil) hsp
 refine codeAny_mono run ?_
 rintro (e | fl) s' hq
 ·obtain ⟨_,_,_,_,_,_,_,_,_,_,_,_,z⟩ := hq
  exact z.elim
 ·cases fl with
  | next => exact False.elim hq
  | brk => exact False.elim hq
  | cont => exact False.elim hq
  | ret u =>
   obtain ⟨v,H',os,bare,un,hok',rv,qv⟩ := hq
   rw [show v = .bl true from qv] at rv
   rw [show u = Value.bool true from rv]
   refine ⟨rfl,OldK.of_keep fun b o e => ?_,os,bare⟩
   rcases al.at_ b with z | ⟨rfl,ob,xs,z⟩
   ·exact un.keep b o e z (fun z => absurd (show b ∈ ([] : List Addr) from z) (by simp)) (by simp)
   ·have h1 := (hok b _ z).1
    have h2 := (hok' b _ (un.frzs b ob _ z)).1
    exact h2.trans (h1.symm.trans e)
theorem aCw (KX : K.In s₁.heap) (hns : s₁.heap.Ns mainGlobals mg) (hb : s₁.heap.Ns builtinsNs mb) (hbb : ∀ x : Str,x ≠ "__name__" -> mb x = bootBuiltins x) (hlim : s₁.heap.NoLimit) (hg : s₁.gens = #[])
  (ha : s₁.heap.get? a = some { cls := .type "list",data := .seq vs.toArray }) (hi : IntsAre vs ns) (hl : ns.length <= sizeLine) (hr : Room k callerA)
  (F : ∀ base : Heap,K.In base -> base.Ns mainGlobals mg -> FnG P w K mg base (CX P w) k fa fd [x] sp) (hbind : ∀ (s : Shared) (u : Value),BindsTo s fd ⟨[u],[]⟩ [(x,u)])
  (hsp : ∀ H : Hp,SqF K H a (ns.map V.int) -> sp [.ref a] H (fun v _ => v = .bl true) fun _ _ _ => False) :
  codeAny (model P w) callerA (.call (.ref fa) ⟨[.ref a],[]⟩) (fun r s' => r = .ok (.ret (.bool true)) /\ OldK s₁.heap s'.heap /\ s'.os = s₁.os /\ AllBare s'.gens) s₁ := by
 have rv := vals_ints hi
 have lv := hi.length
 by_cases hk : K.lookup a = none
 ·have e : (fun b : Addr => if b = a then some (HO.frz { cls := .type "list",data := .seq vs.toArray } (.lst (ns.map V.int))) else none) a = some (HO.frz { cls := .type "list",data := .seq vs.toArray } (.lst (ns.map V.int))) := if_pos rfl
  generalize hH : (fun b : Addr => if b = a then some (HO.frz { cls := .type "list",data := .seq vs.toArray } (.lst (ns.map V.int))) else none) = H at e
  have other : ∀ b,b ≠ a -> H b = none := fun b n => by rw [<- hH]; exact if_neg n
  refine zF (H := H) ⟨fun b => ?_, .inr hk⟩ KX hns hb hbb hlim hg ha (fun b u z => ?_) hr F hbind (hsp H (.inl ⟨_,e⟩))
  ·by_cases n : b = a
   ·exact .inr ⟨n,by rw [n]; exact ⟨_,_,e⟩⟩
   ·exact .inl (other b n)
  ·by_cases n : b = a
   ·subst n
    rw [e] at z
    cases Option.some.inj z
    exact ⟨ha,by rw [List.length_map]; exact hl,vs,_,rv,ha⟩
   ·rw [other b n] at z; cases z
 ·cases q : K.lookup a with
  | none => exact absurd q hk
  | some o =>
   have e := KX a o q
   rw [ha] at e
   cases Option.some.inj e
   exact zF (H := fun _ => none) ⟨fun _ => .inl rfl, .inl rfl⟩ KX hns hb hbb hlim hg ha (fun b u z => by cases z) hr F hbind
    (hsp _ (.inr ⟨_,vs.toArray,_,q,rfl,rfl,rfl,by rw [List.size_toArray,lv]; exact hl,by simpa using rv⟩))
end
theorem walkG {l : PySem.W.OpenLaw} {n k : Nat} {q : Program} {loose : List Str} {XP : (Str -> Option Value) -> Heap -> Prop} {YP : World -> Heap -> Prop} {d : DefRec} {x : Str} (hn : l.most = some n) (hn2 : n <= sizeLine) (hdf : d.params.defaults = []) (hr : Room k callerA)
  (F : ∀ (w : World) (mg : Str -> Option Value) (fa : Addr) (h : Heap),YP w h -> h.Ns mainGlobals mg -> mg d.name = some (.ref fa) ->
   ∃ (K : PySem.W.Frag) (fd : FuncData) (sp : Sp),K.In h /\ (∀ (s : Shared) (u : Value),BindsTo s fd ⟨[u],[]⟩ [(x,u)]) /\
    (∀ (H : Hp) (a : Addr) (ns : List Int),ns.length <= n -> SqF K H a (ns.map V.int) -> sp [.ref a] H (fun v _ => v = .bl true) fun _ _ _ => False) /\
    ∀ base : Heap,K.In base -> base.Ns mainGlobals mg -> FnG l.prog w K mg base (CX l.prog w) k fa fd [x] sp) :
  PySem.W.WalkO q loose XP YP l.row.toRowW d [] (fun f vs => PySem.call f vs) := by
 refine Att.attach_call hn hdf ?_
 intro w s₀ s₁ mg mb fa o pm cd doc a vs ns G Y ho hd hcd hmg hobj hints hlen hg
 obtain ⟨K,fd,sp,KX,hb,hsp,hF⟩ := F w mg fa _ Y G.T.g hmg
 exact aCw KX G.T.g G.T.b G.T.builtins G.T.nolimit hg hobj hints (Nat.le_trans hlen hn2) hr hF hb fun H hS => hsp H a ns hlen hS
end PV
end
section
namespace PV
open PySem PySem.Spec PyProof.Rows L2
def on1 (T : String) (op : Op1) : String -> Option Op1 := fun t => if t = T then some op else none
def on0 (T : String) (op : Op0) : String -> Option Op0 := fun t => if t = T then some op else none
def on2 (T : String) (op : Op2) : String -> Option Op2 := fun t => if t = T then some op else none
theorem eV : MtF "list" "append" "list.append" := ⟨PySem.F.plainAttrs_list,PySem.F.slot_list_append,PySem.F.type_list_append⟩
theorem aCE : MtF "list" "extend" "list.extend" := ⟨PySem.F.plainAttrs_list,PySem.F.slot_list_extend,PySem.F.type_list_extend⟩
theorem zK : MtF "list" "pop" "list.pop" := ⟨PySem.F.plainAttrs_list,PySem.F.slot_list_pop,PySem.F.type_list_pop⟩
section
variable {FS : FST} {g : Gx} {k : Nat} {cl : Cll} {N : List Str} {sc : Scope} {fq : Str -> Bool} {X : Cx} {Wx : WX} {o a b : Expr} {mo ma mb : M D} {name : Str} {apos cpos : Pos} {T id : String} {op0 : Op0} {op1 : Op1} {op2 : Op2}
theorem Good.m1 (G : Good FS g k cl N sc fq X Wx) (F : MtF T name id) (sm : SM1 g X Wx id op1) (hbase : attributeBase o name X.env (eval o X.env) = eval o X.env) (hline : (apos.endLine == cpos.line) = true) (hs : starEach [a] X.env = [(false,eval a X.env)])
  (ho : SE g X Wx o mo) (ha : SE g X Wx a ma) : SE g X Wx (.Call (.Attribute o name apos) [a] [] cpos) (mM1 (on1 T op1) mo ma) :=
 aI0 G.K F (fun T' op e => by
  unfold on1 at e
  split at e
  ·rename_i h; subst h; cases e; exact ⟨id,F,sm⟩
  ·cases e) hbase hline hs ho ha
theorem Good.m2 (G : Good FS g k cl N sc fq X Wx) (F : MtF T name id) (sm : SM2 g X Wx id op2) (hbase : attributeBase o name X.env (eval o X.env) = eval o X.env) (hline : (apos.endLine == cpos.line) = true)
  (hs : starEach [a,b] X.env = [(false,eval a X.env),(false,eval b X.env)]) (hs2 : starEach [b] X.env = [(false,eval b X.env)])
  (ho : SE g X Wx o mo) (ha : SE g X Wx a ma) (hb : SE g X Wx b mb) : SE g X Wx (.Call (.Attribute o name apos) [a,b] [] cpos) (mM2 (on2 T op2) mo ma mb) :=
 aI1 G.K F (fun T' op e => by
  unfold on2 at e
  split at e
  ·rename_i h; subst h; cases e; exact ⟨id,F,sm⟩
  ·cases e) hbase hline hs hs2 ho ha hb
/-- isinstance with one built-in type -/
def jA (x y : D) (h : Hh) : R D := match y with
 | .ty n => match sL h x n with
  | some b => .ok (.bl b) h
  | none => .bad
 | _ => .bad
theorem aHg (hK : X.K = g.K) : SC2 g X Wx (.builtin "isinstance") jA := by
 intro x y h σ H μ vx vy Q rh qx qy po
 unfold jA at po
 split at po
 ·rename_i n
  split at po
  ·rename_i r e
   unfold sL at e
   split at e
   ·rename_i t et
    rw [show vy = .ty n from qy]
    exact fQ call_isi ⟨vx, .ty n, .type t, .type n,r,rfl, .ty n,by rw [hK]; exact aHU rh qx et,kit_ty e,po.at rh _ rfl (.of rfl)⟩
   ·cases e
  ·exact po.elim
 ·exact po.elim
end
end PV
end
section
namespace PV
open PySem PySem.Spec PyProof.Rows L2
section
variable {FS : FST} {g : Gx} {k : Nat} {cl : Cll} {N : List Str} {sc : Scope} {fq : Str -> Bool} {X : Cx} {Wx : WX} {x : Str} {pos : Pos}
theorem Good.u1 (G : Good FS g k cl N sc fq X Wx) : X.A.units + 1 < cLine := by have := G.un; omega
theorem Good.u64 (G : Good FS g k cl N sc fq X Wx) : X.A.units + 64 < cLine := by have := G.un; omega
theorem Good.u0 (G : Good FS g k cl N sc fq X Wx) : X.A.units < cLine := by have := G.un; omega
theorem Good.conS (G : Good FS g k cl N sc fq X Wx) {z : Str} (h : okG sc x = true) (hm : ∃ t,X.mg x = some (.str z t)) : SE g X Wx (.Name x pos) (mC (.str z)) := by
 obtain ⟨t,hm⟩ := hm
 exact G.con (v := .str z) h hm ⟨t,rfl⟩ rfl fun _ _ => rfl
theorem Good.conI (G : Good FS g k cl N sc fq X Wx) {z : Int} (h : okG sc x = true) (hm : ∃ t,X.mg x = some (.int z t)) : SE g X Wx (.Name x pos) (mC (.int z)) := by
 obtain ⟨t,hm⟩ := hm
 exact G.con (v := .int z) h hm ⟨t,rfl⟩ rfl fun _ _ => rfl
/-- a tuple of the module's top -/
theorem Good.conT (G : Good FS g k cl N sc fq X Wx) {ws : List D} (h : okG sc x = true) (hm : ∃ a vs,X.mg x = some (.ref a) /\ (∀ H,SqT g.K H a vs) /\ ∀ μ H,RVs g μ H ws vs) : SE g X Wx (.Name x pos) (mC (.kt ws)) := by
 obtain ⟨a,vs,hm,hs,hv⟩ := hm
 exact G.con (v := .ref a) h hm rfl rfl fun μ H => ⟨a,vs,rfl,hs H,hv μ H⟩
theorem Good.sole (G : Good FS g k cl N sc fq X Wx) {t v : Expr} {l : Nat} {r : Sem Bool} (h : swapsWithSole [t] v l (env0 sc) = r) : swapsWithSole [t] v l X.env = r := (aHN (env' := env0 sc) G.sc).trans h
theorem Good.sws (G : Good FS g k cl N sc fq X Wx) {ts : List Expr} {v : Expr} {r : Sem (Option (List Str))} (h : swappedStores ts v (env0 sc) = r) : swappedStores ts v X.env = r := (aBq (env' := env0 sc) G.sc).trans h
end
end PV
end
section
namespace PV
open PySem PySem.Spec PyProof.Rows L2
/-- no starred one -/
def nSt : Expr -> Bool
 | .Starred _ _ => false
 | _ => true
def gI : List Expr -> Bool
 | [] => true
 | e :: es => nSt e && gI es
/-- no comprehension,no set -/
def nCo : Expr -> Bool
 | .ListComp .. => false
 | .SetComp .. => false
 | .DictComp .. => false
 | _ => true
def rJ : Expr -> Bool
 | .Set .. => false
 | _ => true
def nSl : Expr -> Bool
 | .Slice .. => false
 | _ => true
/-- a test whose value is looked at -/
def vTe : Expr -> Bool
 | .UnaryOp .. => false
 | .BoolOp .. => false
 | .IfExp .. => false
 | .Compare .. => false
 | _ => true
def nC0 : Expr -> Bool
 | .Call _ [] _ _ => false
 | _ => true
def aDO : Expr -> Bool
 | .Tuple .. => false
 | _ => true
section
variable {e a b o i : Expr} {es : List Expr} {env : Env} {pos tpos : Pos}
theorem vL (h : nSt e = true) : starEach (e :: es) env = (false,eval e env) :: starEach es env := by cases e <;> first | rfl | cases h
theorem qQ (h : nSt a = true) : starEach [a] env = [(false,eval a env)] := vL h
theorem aDb (h : gI [a,b] = true) : starEach [a,b] env = [(false,eval a env),(false,eval b env)] := by
 simp only [gI,Bool.and_true,Bool.and_eq_true] at h
 rw [vL h.1,qQ h.2]
theorem aJi (h : gI es = true) : (backTo pos (starEach es env)).any (·.1) = false := by
 induction es with
 | nil => rfl
 | cons e es ih =>
  simp only [gI,Bool.and_eq_true] at h
  rw [vL h.1]
  unfold backTo
  rw [List.map_cons,List.any_cons]
  exact ih h.2
theorem aDk (h : nSt e = true) : assignEach (e :: es) env = (false,assign e env) :: assignEach es env := by cases e <;> first | rfl | cases h
theorem pT (h : nSt e = true) : (assignEach (e :: es) env).map (·.2) = assign e env :: (assignEach es env).map (·.2) := by rw [aDk h]; rfl
theorem aGd (h : gI es = true) : (assignEach es env).length = es.length := by
 induction es with
 | nil => rfl
 | cons e es ih =>
  simp only [gI,Bool.and_eq_true] at h
  rw [aDk h.1,List.length_cons,List.length_cons,ih h.2]
theorem aGc (h : gI es = true) : (assignEach es env).findIdx? (·.1) = none := by
 induction es with
 | nil => rfl
 | cons e es ih =>
  simp only [gI,Bool.and_eq_true] at h
  rw [aDk h.1,List.findIdx?_cons]
  simp [ih h.2]
theorem swN {t : Option Expr} {l : Nat} (h : nCo e = true) : swapsWith e t l env = pure false := by cases e <;> first | rfl | cases h
theorem swS {t : Expr} {l : Nat} (h : nCo e = true) : swapsWithSole [t] e l env = pure false := swN h
theorem sH {x : Value} (h : rJ e = true) : foldedSetIterable e env x = pure x := by cases e <;> first | rfl | cases h
theorem ixP (h : nSl b = true) : PlainIx b := fun o i => by cases b <;> first | rfl | cases h
theorem aJl {whole : Sem Value} (h : vTe a = true) : isTrue a env whole = (do let v <- whole; standAt a.pos; holding [v] (truthy v)) := by cases a <;> first | rfl | cases h
theorem aGf {n : Str} (h : nC0 o = true) : attributeBase o n env (eval o env) = eval o env := by
 cases o
 case Call f as ks p =>
  cases as with
  | nil => cases h
  | cons a as => cases f <;> rfl
 all_goals rfl
theorem aBp {x : Str} {p : Pos} : swappedStores [.Name x p] e env = pure none := by cases e <;> rfl
theorem aHQ {es : List Expr} {n : Nat} {p : Pos} (h : aDO e = true) : swappedStores [.Tuple es n p] e env = pure none := by cases e <;> first | rfl | cases h
theorem aHP {p : Pos} : swappedStores [.Subscript o i p] e env = pure none := by cases e <;> rfl
theorem yM (h : nSl i = true) (v : Value) : assign (.Subscript o i tpos) env v = (do
   let ov <- holding [v] (eval o env)
   let iv <- holding [v,ov] (eval i env)
   standAt tpos
   holding [v,ov,iv] (setItem ov iv v)
   release [v,ov,iv] []) := by cases i <;> first | rfl | cases h
end
section
variable {FS : FST} {g : Gx} {k : Nat} {cl : Cll} {N : List Str} {sc : Scope} {fq : Str -> Bool} {X : Cx} {Wx : WX} {pos p apos cpos tpos spos : Pos} {x name : Str} {f : Nat} {st : Stmt} {ps : List Str} {e a b o i tg iter : Expr} {es : List Expr} {ma mb mo me mi : M D} {ms : List (M D)}
theorem sac (ha : SE g X Wx e ma) (hr : SA g X Wx es (aB ms)) (h : nSt e = true) : SA g X Wx (e :: es) (aB (ma :: ms)) := aFM ha hr (vL h)
theorem Good.cal (G : Good FS g k cl N sc fq X Wx) (h : okG sc x = true) (F : FnF X.prog X.w X.K X.mg X.base g k cl f x st ps) (bd : BdF x st ps) (hs : gI (e :: es) = true) (hl : ms.length = ps.length) (ha : SA g X Wx (e :: es) (aB ms)) :
  SE g X Wx (.Call (.Name x p) (e :: es) [] pos) (bA cl f (aB ms)) := by
 simp only [gI,Bool.and_eq_true] at hs
 exact G.call h F bd (vL hs.1) (aJi hs.2) hl ha
theorem Good.calK (G : Good FS g k cl N sc fq X Wx) {kws : List Keyword} (ks : List Str) (perm : List Nat) (h : okG sc x = true) (F : FnF X.prog X.w X.K X.mg X.base g k cl f x st ps) (bd : BdK x st ps ks perm)
  (hks : kws.map (·.arg) = ks.map some) (hp : perm.length = ps.length) (hlk : ms.length = ks.length) (ha : SK g X Wx kws (aB ms)) : SE g X Wx (.Call (.Name x p) [] kws pos) (nF cl f (aB ms) perm) := by
 have key : ∀ (kws : List Keyword) (ks : List Str),kws.map (·.arg) = ks.map some ->
   (backToKw pos (keywordEach kws X.env)).all (·.1.isSome) = true /\ (backToKw pos (keywordEach kws X.env)).filterMap (·.1) = ks /\ (backToKw pos (keywordEach kws X.env)).any (·.1.isNone) = false := by
  intro kws
  induction kws with
  | nil => intro ks h; cases ks with
   | nil => exact ⟨rfl,rfl,rfl⟩
   | cons _ _ => cases h
  | cons q kws ih =>
   intro ks h
   cases ks with
   | nil => cases h
   | cons y ks =>
    simp only [List.map_cons,List.cons.injEq] at h
    obtain ⟨h1,h2,h3⟩ := ih ks h.2
    obtain ⟨n,v,pp⟩ := q
    have h0 : n = some y := h.1
    subst h0
    have e : backToKw pos (keywordEach (⟨some y,v,pp⟩ :: kws) X.env) = (some y,do let v <- eval v X.env; standAt pos; pure v) :: backToKw pos (keywordEach kws X.env) := rfl
    rw [e]
    refine ⟨?_, ?_, ?_⟩
    ·rw [List.all_cons,h1]; rfl
    ·rw [List.filterMap_cons,h2]
    ·rw [List.any_cons,h3]; rfl
 obtain ⟨h1,h2,h3⟩ := key kws ks hks
 exact G.callK ks perm h F bd h1 h2 h3 hp hlk ha
theorem Good.f1 (G : Good FS g k cl N sc fq X Wx) {bv : Value} {f : D -> Hh -> R D} (h : okG sc x = true) (hm : X.mg x = none) (hv : bootBuiltins x = some bv) (hb : oP bv = true) (s : SC1 g X Wx bv f) (hs : nSt a = true) (ha : SE g X Wx a ma) :
  SE g X Wx (.Call (.Name x p) [a] [] pos) (mF1 f ma) := G.b1 h hm hv hb s (qQ hs) ha
theorem Good.f2 (G : Good FS g k cl N sc fq X Wx) {bv : Value} {f : D -> D -> Hh -> R D} (h : okG sc x = true) (hm : X.mg x = none) (hv : bootBuiltins x = some bv) (hb : oP bv = true) (s : SC2 g X Wx bv f) (hs : gI [a,b] = true) (ha : SE g X Wx a ma) (hb' : SE g X Wx b mb) :
  SE g X Wx (.Call (.Name x p) [a,b] [] pos) (mOp f ma mb) := by
 have h2 := hs
 simp only [gI,Bool.and_true,Bool.and_eq_true] at h2
 exact G.b2 h hm hv hb s (aDb hs) (qQ h2.2) ha hb'
theorem Good.k1 (G : Good FS g k cl N sc fq X Wx) {T id : String} {op : Op1} (F : MtF T name id) (sm : SM1 g X Wx id op) (hb : nC0 o = true) (hline : (apos.endLine == cpos.line) = true) (hs : nSt a = true) (ho : SE g X Wx o mo) (ha : SE g X Wx a ma) :
  SE g X Wx (.Call (.Attribute o name apos) [a] [] cpos) (mM1 (on1 T op) mo ma) := G.m1 F sm (aGf hb) hline (qQ hs) ho ha
theorem Good.k2 (G : Good FS g k cl N sc fq X Wx) {T id : String} {op : Op2} (F : MtF T name id) (sm : SM2 g X Wx id op) (hb : nC0 o = true) (hline : (apos.endLine == cpos.line) = true) (hs : gI [a,b] = true) (ho : SE g X Wx o mo) (ha : SE g X Wx a ma) (hb' : SE g X Wx b mb) :
  SE g X Wx (.Call (.Attribute o name apos) [a,b] [] cpos) (mM2 (on2 T op) mo ma mb) := by
 have h2 := hs
 simp only [gI,Bool.and_true,Bool.and_eq_true] at h2
 exact G.m2 F sm (aGf hb) hline (aDb hs) (qQ h2.2) ho ha hb'
theorem Good.ix (G : Good FS g k cl N sc fq X Wx) (ha : SE g X Wx a ma) (hb : SE g X Wx b mb) (h : nSl b = true) : SE g X Wx (.Subscript a b pos) (mOp ixW ma mb) := aIY G.K G.u1 ha hb (ixP h)
theorem stv (ha : SE g X Wx a ma) (h : vTe a = true) : ST g X Wx a (mB ma) := aHL ha fun _ => aJl h
theorem Good.r1 (G : Good FS g k cl N sc fq X Wx) (h : okG sc "range" = true) (hm : X.mg "range" = none) (hs : nSt e = true) (he : SE g X Wx e me) : SI g X Wx tg (.Call (.Name "range" p) [e] [] pos) (kP me) := aI4 (G.gl h).1 hm (qQ hs) he
theorem sgc {t : Tg} {ts : List Tg} (h1 : SG g X e t) (h2 : SGs g X es ts) (h : nSt e = true) : SGs g X (e :: es) (t :: ts) := aEe h1 h2 (pT h)
theorem Good.tup {n : Nat} {ts : List Tg} (G : Good FS g k cl N sc fq X Wx) (hs : SGs g X es ts) (h : gI es = true) (hl : es.length = ts.length) : SG g X (.Tuple es n pos) (.tu ts) := aHv G.K G.calm hs ((aGd h).trans hl) (aGc h)
theorem aEZ {t : Tg} (he : SE g X Wx e me) (hg : SG g X (.Name x p) t) (h : nCo e = true) : SS g X Wx (.Assign [.Name x p] e spos) (aR t me) := vK he hg (swS h) aBp (pT rfl)
theorem aGe {n : Nat} {t : Tg} (he : SE g X Wx e me) (hg : SG g X (.Tuple es n p) t) (h : nCo e = true) (h2 : aDO e = true) : SS g X Wx (.Assign [.Tuple es n p] e spos) (aR t me) := vK he hg (swS h) (aHQ h2) (pT rfl)
theorem Good.asgN {t : Tg} (G : Good FS g k cl N sc fq X Wx) (he : SE g X Wx e me) (hg : SG g X (.Name x p) t) (h : swapsWithSole [.Name x p] e spos.line (env0 sc) = pure false) : SS g X Wx (.Assign [.Name x p] e spos) (aR t me) := vK he hg (G.sole h) aBp (pT rfl)
theorem Good.asgT {n : Nat} {t : Tg} (G : Good FS g k cl N sc fq X Wx) (he : SE g X Wx e me) (hg : SG g X (.Tuple es n p) t) (h : nCo e = true) (h2 : swappedStores [.Tuple es n p] e (env0 sc) = pure none) : SS g X Wx (.Assign [.Tuple es n p] e spos) (aR t me) := vK he hg (swS h) (G.sws h2) (pT rfl)
theorem Good.sub (G : Good FS g k cl N sc fq X Wx) (he : SE g X Wx e me) (ho : SE g X Wx o mo) (hi : SE g X Wx i mi) (h : nCo e = true) (h2 : nSl i = true) : SS g X Wx (.Assign [.Subscript o i tpos] e spos) (iP me mo mi) :=
 aHH G.u1 he ho hi (yM h2) (swS h) aHP (pT rfl)
theorem sse (he : SE g X Wx e me) (h : nCo e = true) : SS g X Wx (.Expr e spos) (cQ me) := aF4 he (swN h)
theorem ssf {t : Tg} {mi : M Src} {mb : MS} {body : List Stmt} (hp : PassesOwn (model X.prog X.w) X.A X.env X.xe) (G : Good FS g k cl N sc fq X Wx) (hi : SI g X Wx tg iter mi) (hg : SG g X tg t) (hb : SL g X Wx body mb) (h : rJ iter = true) : SS g X Wx (.For tg iter body [] pos) (nZ mi t mb) :=
 aHE hp G.calm hi hg hb fun _ => sH h
end
end PV
end
section
namespace PV
open PySem PySem.Spec PyProof.Rows L2
structure QE (g : Gx) (X : Cx) (Wx : WX) (e : Expr) (m : M D) : Prop where
 p : SE g X Wx e m
structure QT (g : Gx) (X : Cx) (Wx : WX) (e : Expr) (m : M Bool) : Prop where
 p : ST g X Wx e m
structure QW (g : Gx) (X : Cx) (Wx : WX) (e : Expr) (m : M Bool) : Prop where
 p : SW g X Wx e m
structure QA (g : Gx) (X : Cx) (Wx : WX) (es : List Expr) (m : M (List D)) : Prop where
 p : SA g X Wx es m
structure QK (g : Gx) (X : Cx) (Wx : WX) (kws : List Keyword) (m : M (List D)) : Prop where
 p : SK g X Wx kws m
structure QP (g : Gx) (X : Cx) (Wx : WX) (e : Option Expr) (m : Option (M D)) : Prop where
 p : SP' g X Wx e m
structure QG (g : Gx) (X : Cx) (e : Expr) (t : Tg) : Prop where
 p : SG g X e t
structure QGs (g : Gx) (X : Cx) (es : List Expr) (ts : List Tg) : Prop where
 p : SGs g X es ts
structure QI (g : Gx) (X : Cx) (Wx : WX) (tg e : Expr) (m : M Src) : Prop where
 p : SI g X Wx tg e m
structure QS (g : Gx) (X : Cx) (Wx : WX) (s : Stmt) (m : MS) : Prop where
 p : SS g X Wx s m
structure QL (g : Gx) (X : Cx) (Wx : WX) (s : List Stmt) (m : MS) : Prop where
 p : SL g X Wx s m
structure QO (g : Gx) (X : Cx) (Wx : WX) (f : Value -> Value -> Sem Value) (m : D -> D -> Hh -> R D) : Prop where
 p : SO g X Wx f m
structure QC1 (g : Gx) (X : Cx) (Wx : WX) (f : Value) (m : D -> Hh -> R D) : Prop where
 p : SC1 g X Wx f m
structure QC2 (g : Gx) (X : Cx) (Wx : WX) (f : Value) (m : D -> D -> Hh -> R D) : Prop where
 p : SC2 g X Wx f m
structure QM1 (g : Gx) (X : Cx) (Wx : WX) (id : String) (op : Op1) : Prop where
 p : SM1 g X Wx id op
section
variable {FS : FST} {g : Gx} {k : Nat} {cl : Cll} {N : List Str} {sc : Scope} {fq : Str -> Bool} {X : Cx} {Wx : WX} {pos p apos cpos tpos spos p2 : Pos} {x name y : Str} {f : Nat} {st : Stmt} {ps : List Str} {e a b c o i tg iter tg1 iter1 elt : Expr} {es : List Expr} {ma mb mc mo me mi : M D} {ms : List (M D)} {ta tb mt mt1 : M Bool} {m m2 : MS} {mA : M (List D)} {t t1 : Tg} {ts : List Tg} {mI mI1 : M Src} {s0 : Stmt} {rest ss1 ss2 : List Stmt} {scope : Scope} {ifs ifs1 : List Expr} {lo hi : Option Expr} {ml mh : Option (M D)} {nn kk : Nat}
theorem aG {ii : Int} {j : Nat}  : QE g X Wx (.Constant (.int ii) j pos) (mC (.int ii)) :=
 ⟨aHp⟩
theorem iV {ii : Bool} {j : Nat}  : QE g X Wx (.Constant (.bool ii) j pos) (mC (.bl ii)) :=
 ⟨aIW⟩
theorem aCZ {j : Nat}  : QE g X Wx (.Constant .none j pos) (mC .non) :=
 ⟨aHr⟩
theorem aM {j : Nat}  : QE g X Wx (.Constant (.str x) j pos) (mC (.str x)) :=
 ⟨aHt⟩
theorem Good.qvar  (G : Good FS g k cl N sc fq X Wx) (i : Nat) (h : okV N sc i x = true) : QE g X Wx (.Name x pos) (mV i) :=
 ⟨G.var i h⟩
theorem Good.qconS  (G : Good FS g k cl N sc fq X Wx) {z : Str} (h : okG sc x = true) (hm : ∃ t,X.mg x = some (.str z t)) : QE g X Wx (.Name x pos) (mC (.str z)) :=
 ⟨G.conS h hm⟩
theorem Good.qconI  (G : Good FS g k cl N sc fq X Wx) {z : Int} (h : okG sc x = true) (hm : ∃ t,X.mg x = some (.int z t)) : QE g X Wx (.Name x pos) (mC (.int z)) :=
 ⟨G.conI h hm⟩
theorem Good.qconT  (G : Good FS g k cl N sc fq X Wx) {ws : List D} (h : okG sc x = true) (hm : ∃ a vs,X.mg x = some (.ref a) /\ (∀ H,SqT g.K H a vs) /\ ∀ μ H,RVs g μ H ws vs) : QE g X Wx (.Name x pos) (mC (.kt ws)) :=
 ⟨G.conT h hm⟩
theorem Good.qtyp  (G : Good FS g k cl N sc fq X Wx) {n : String} (h : okG sc x = true) (hm : X.mg x = none) (hv : bootBuiltins x = some (.type n)) : QE g X Wx (.Name x pos) (mC (.ty n)) :=
 ⟨G.typ h hm hv⟩
theorem aY {op : Operator} {ff : D -> D -> Hh -> R D} (so : QO g X Wx (binaryOp op) ff) (ha : QE g X Wx a ma) (hb : QE g X Wx b mb) : QE g X Wx (.BinOp a op b pos) (mOp ff ma mb) :=
 ⟨aHl so.p ha.p hb.p⟩
theorem lJ {op : CmpOp} {ff : D -> D -> Hh -> R D} (so : QO g X Wx (compareOp op) ff) (ha : QE g X Wx a ma) (hb : QE g X Wx b mb) (hm : behindInMarks op b = false) : QE g X Wx (.Compare a [op] [b] pos) (mOp ff ma mb) :=
 ⟨aHm so.p ha.p hb.p hm⟩
theorem cE {op : CmpOp} {ff : D -> D -> Hh -> R D} (so : QO g X Wx (compareOp op) ff) (ha : QE g X Wx a ma) (hb : QE g X Wx b mb) (hm : behindInMarks op b = false) : QT g X Wx (.Compare a [op] [b] pos) (mB (mOp ff ma mb)) :=
 ⟨aHJ so.p ha.p hb.p hm⟩
theorem aAb {op op2 : CmpOp} {ff ff2 : D -> D -> Hh -> R D} (so : QO g X Wx (compareOp op) ff) (so2 : QO g X Wx (compareOp op2) ff2) (ha : QE g X Wx a ma) (hb : QE g X Wx b mb) (hc : QE g X Wx c mc) (hm : lastMarks [op,op2] [b,c] = false) : QE g X Wx (.Compare a [op,op2] [b,c] pos) (kC ff ff2 ma mb mc) :=
 ⟨aEc so.p so2.p ha.p hb.p hc.p hm⟩
theorem aD5 {op op2 : CmpOp} {ff ff2 : D -> D -> Hh -> R D} (so : QO g X Wx (compareOp op) ff) (so2 : QO g X Wx (compareOp op2) ff2) (ha : QE g X Wx a ma) (hb : QE g X Wx b mb) (hc : QE g X Wx c mc) (hm : lastMarks [op,op2] [b,c] = false) : QT g X Wx (.Compare a [op,op2] [b,c] pos) (mB (kC ff ff2 ma mb mc)) :=
 ⟨aEn so.p so2.p ha.p hb.p hc.p hm⟩
theorem Good.oaddW  (G : Good FS g k cl N sc fq X Wx) : QO g X Wx (binaryOp .Add) cM :=
 ⟨aHA G.K⟩
theorem Good.omulW  (G : Good FS g k cl N sc fq X Wx) : QO g X Wx (binaryOp .Mult) iI :=
 ⟨aHC⟩
theorem Good.ofdivW  (G : Good FS g k cl N sc fq X Wx) : QO g X Wx (binaryOp .FloorDiv) sG :=
 ⟨aFU⟩
theorem Good.omodW  (G : Good FS g k cl N sc fq X Wx) : QO g X Wx (binaryOp .Mod) kQ :=
 ⟨aHB⟩
theorem Good.opowW  (G : Good FS g k cl N sc fq X Wx) : QO g X Wx (binaryOp .Pow) qG :=
 ⟨aHD⟩
theorem Good.oeqW  (G : Good FS g k cl N sc fq X Wx) : QO g X Wx (compareOp .Eq) eqW :=
 ⟨aI8 G.K G.u64⟩
theorem Good.oneW  (G : Good FS g k cl N sc fq X Wx) : QO g X Wx (compareOp .NotEq) neW :=
 ⟨aJf G.K G.u64⟩
theorem Good.oinW  (G : Good FS g k cl N sc fq X Wx) : QO g X Wx (compareOp .In) inW :=
 ⟨aJb G.K G.un⟩
theorem Good.oniW  (G : Good FS g k cl N sc fq X Wx) : QO g X Wx (compareOp .NotIn) niW :=
 ⟨aJg G.K G.un⟩
theorem Good.oltW  (G : Good FS g k cl N sc fq X Wx) : QO g X Wx (compareOp .Lt) ltW :=
 ⟨aJe G.K G.u0⟩
theorem Good.oleW  (G : Good FS g k cl N sc fq X Wx) : QO g X Wx (compareOp .LtE) leW :=
 ⟨aJd⟩
theorem Good.ogtW  (G : Good FS g k cl N sc fq X Wx) : QO g X Wx (compareOp .Gt) gtW :=
 ⟨aJa⟩
theorem Good.ogeW  (G : Good FS g k cl N sc fq X Wx) : QO g X Wx (compareOp .GtE) geW :=
 ⟨aI9⟩
theorem Good.oisW  (G : Good FS g k cl N sc fq X Wx) : QO g X Wx (compareOp .Is) isW :=
 ⟨aJc⟩
theorem Good.clenW  (G : Good FS g k cl N sc fq X Wx) : QC1 g X Wx (.builtin "len") cG :=
 ⟨aHh G.K⟩
theorem Good.cabsW  (G : Good FS g k cl N sc fq X Wx) : QC1 g X Wx (.builtin "abs") tL :=
 ⟨aHc⟩
theorem Good.cintW  (G : Good FS g k cl N sc fq X Wx) : QC1 g X Wx (.type "int") rE :=
 ⟨aHf⟩
theorem Good.ctupleW  (G : Good FS g k cl N sc fq X Wx) : QC1 g X Wx (.type "tuple") fF :=
 ⟨aEb G.K⟩
theorem Good.clistW  (G : Good FS g k cl N sc fq X Wx) : QC1 g X Wx (.type "list") fJ :=
 ⟨aFN G.K G.calm⟩
theorem Good.callW  (G : Good FS g k cl N sc fq X Wx) : QC1 g X Wx (.builtin "all") kM :=
 ⟨aHd G.K G.calm⟩
theorem Good.canyW  (G : Good FS g k cl N sc fq X Wx) : QC1 g X Wx (.builtin "any") tM :=
 ⟨aHe G.K G.calm⟩
theorem Good.cmaxW  (G : Good FS g k cl N sc fq X Wx) : QC2 g X Wx (.builtin "max") tX :=
 ⟨aHi G.calm⟩
theorem Good.cminW  (G : Good FS g k cl N sc fq X Wx) : QC2 g X Wx (.builtin "min") tZ :=
 ⟨aHj G.calm⟩
theorem Good.cisiW  (G : Good FS g k cl N sc fq X Wx) : QC2 g X Wx (.builtin "isinstance") jA :=
 ⟨aHg G.K⟩
theorem Good.mappendW  (G : Good FS g k cl N sc fq X Wx) : QM1 g X Wx "list.append" cL :=
 ⟨aC7⟩
theorem Good.mextendW  (G : Good FS g k cl N sc fq X Wx) : QM1 g X Wx "list.extend" mO :=
 ⟨aC8⟩
theorem Good.mpopAtW  (G : Good FS g k cl N sc fq X Wx) : QM1 g X Wx "list.pop" eW :=
 ⟨aEh⟩
theorem gN  (ha : QT g X Wx a ta) : QT g X Wx (.UnaryOp .Not a pos) (fL ta) :=
 ⟨aHK ha.p⟩
theorem aC0 {op : BoolOp} (ha : QE g X Wx a ma) : QE g X Wx (.BoolOp op [a] pos) ma :=
 ⟨aHs ha.p⟩
theorem aCY  (ha : QE g X Wx a ma) (hb : QE g X Wx (.BoolOp .And (b :: es) pos) mb) : QE g X Wx (.BoolOp .And (a :: b :: es) pos) (sO ma mb) :=
 ⟨aHk ha.p hb.p⟩
theorem aFH  (ha : QT g X Wx a ta) : QW g X Wx (.BoolOp .And [a] pos) ta :=
 ⟨aF5 ha.p⟩
theorem lK  (ha : QT g X Wx a ta) : QW g X Wx (.BoolOp .Or [a] pos) ta :=
 ⟨aHO ha.p⟩
theorem aG4  (ha : QT g X Wx a ta) (hb : QW g X Wx (.BoolOp .And (b :: es) pos) tb) : QW g X Wx (.BoolOp .And (a :: b :: es) pos) (yF ta tb) :=
 ⟨aHM ha.p hb.p⟩
theorem iE  (ha : QT g X Wx a ta) (hb : QW g X Wx (.BoolOp .Or (b :: es) pos) tb) : QW g X Wx (.BoolOp .Or (a :: b :: es) pos) (hE ta tb) :=
 ⟨aJk ha.p hb.p⟩
theorem QW.te  (ha : QW g X Wx a ta) : QT g X Wx a ta :=
 ⟨SW.st ha.p⟩
theorem qtv  (ha : QE g X Wx a ma) (h : vTe a = true) : QT g X Wx a (mB ma) :=
 ⟨stv ha.p h⟩
theorem rQ  (hc : QT g X Wx c ta) (ha : QE g X Wx a ma) (hb : QE g X Wx b mb) : QE g X Wx (.IfExp c a b pos) (mIf ta ma mb) :=
 ⟨aHo hc.p ha.p hb.p⟩
theorem aF   : QA g X Wx [] (aB []) :=
 ⟨aHb⟩
theorem qac  (ha : QE g X Wx e ma) (hr : QA g X Wx es (aB ms)) (h : nSt e = true) : QA g X Wx (e :: es) (aB (ma :: ms)) :=
 ⟨sac ha.p hr.p h⟩
theorem aG3   : QK g X Wx [] (aB []) :=
 ⟨aHw⟩
theorem qkc {nm : Option Str} {kws : List Keyword} (ha : QE g X Wx e ma) (hr : QK g X Wx kws (aB ms)) : QK g X Wx (⟨nm,e,pos⟩ :: kws) (aB (ma :: ms)) :=
 ⟨aFS ha.p hr.p⟩
theorem bC  (ha : QA g X Wx es mA) : QE g X Wx (.Tuple es nn pos) (bF mA) :=
 ⟨aHu ha.p⟩
theorem dX  (ha : QA g X Wx es mA) : QE g X Wx (.List es pos) (fU mA) :=
 ⟨aHq ha.p⟩
theorem Good.qix  (G : Good FS g k cl N sc fq X Wx) (ha : QE g X Wx a ma) (hb : QE g X Wx b mb) (h : nSl b = true) : QE g X Wx (.Subscript a b pos) (mOp ixW ma mb) :=
 ⟨G.ix ha.p hb.p h⟩
theorem kY   : QP g X Wx none none :=
 ⟨aFV⟩
theorem iD  (ha : QE g X Wx a ma) : QP g X Wx (some a) (some ma) :=
 ⟨aFW ha.p⟩
theorem Good.qsl  (G : Good FS g k cl N sc fq X Wx) (ha : QE g X Wx a ma) (hl : QP g X Wx lo ml) (hh : QP g X Wx hi mh) : QE g X Wx (.Subscript a (.Slice lo hi none p2) pos) (mSl ma ml mh) :=
 ⟨aI2 G.K ha.p hl.p hh.p⟩
theorem Good.qcal  (G : Good FS g k cl N sc fq X Wx) (h : okG sc x = true) (F : FnF X.prog X.w X.K X.mg X.base g k cl f x st ps) (bd : BdF x st ps) (hs : gI (e :: es) = true) (hl : ms.length = ps.length) (ha : QA g X Wx (e :: es) (aB ms)) : QE g X Wx (.Call (.Name x p) (e :: es) [] pos) (bA cl f (aB ms)) :=
 ⟨G.cal h F bd hs hl ha.p⟩
theorem Good.qcalK  (G : Good FS g k cl N sc fq X Wx) {kws : List Keyword} (ks : List Str) (perm : List Nat) (h : okG sc x = true) (F : FnF X.prog X.w X.K X.mg X.base g k cl f x st ps) (bd : BdK x st ps ks perm) (hks : kws.map (·.arg) = ks.map some) (hp : perm.length = ps.length) (hlk : ms.length = ks.length) (ha : QK g X Wx kws (aB ms)) : QE g X Wx (.Call (.Name x p) [] kws pos) (nF cl f (aB ms) perm) :=
 ⟨G.calK ks perm h F bd hks hp hlk ha.p⟩
theorem Good.qf1  (G : Good FS g k cl N sc fq X Wx) {bv : Value} {ff : D -> Hh -> R D} (h : okG sc x = true) (hm : X.mg x = none) (hv : bootBuiltins x = some bv) (hb : oP bv = true) (s : QC1 g X Wx bv ff) (hs : nSt a = true) (ha : QE g X Wx a ma) : QE g X Wx (.Call (.Name x p) [a] [] pos) (mF1 ff ma) :=
 ⟨G.f1 h hm hv hb s.p hs ha.p⟩
theorem Good.qf2  (G : Good FS g k cl N sc fq X Wx) {bv : Value} {ff : D -> D -> Hh -> R D} (h : okG sc x = true) (hm : X.mg x = none) (hv : bootBuiltins x = some bv) (hb : oP bv = true) (s : QC2 g X Wx bv ff) (hs : gI [a,b] = true) (ha : QE g X Wx a ma) (hb2 : QE g X Wx b mb) : QE g X Wx (.Call (.Name x p) [a,b] [] pos) (mOp ff ma mb) :=
 ⟨G.f2 h hm hv hb s.p hs ha.p hb2.p⟩
theorem Good.qk1  (G : Good FS g k cl N sc fq X Wx) {T id : String} {op : Op1} (F : MtF T name id) (sm : QM1 g X Wx id op) (hb : nC0 o = true) (hline : (apos.endLine == cpos.line) = true) (hs : nSt a = true) (ho : QE g X Wx o mo) (ha : QE g X Wx a ma) : QE g X Wx (.Call (.Attribute o name apos) [a] [] cpos) (mM1 (on1 T op) mo ma) :=
 ⟨G.k1 F sm.p hb hline hs ho.p ha.p⟩
theorem Good.qsie  (G : Good FS g k cl N sc fq X Wx) (he : QE g X Wx e me) : QI g X Wx tg e (miE me) :=
 ⟨aK1 G.K he.p⟩
theorem Good.qr1  (G : Good FS g k cl N sc fq X Wx) (h : okG sc "range" = true) (hm : X.mg "range" = none) (hs : nSt e = true) (he : QE g X Wx e me) : QI g X Wx tg (.Call (.Name "range" p) [e] [] pos) (kP me) :=
 ⟨G.r1 h hm hs he.p⟩
theorem Good.qtgt  (G : Good FS g k cl N sc fq X Wx) (i : Nat) (h : okT N sc fq i x = true) : QG g X (.Name x pos) (.nm i) :=
 ⟨G.tgt i h⟩
theorem pG   : QGs g X [] [] :=
 ⟨aFQ⟩
theorem qgc  (h1 : QG g X e t) (h2 : QGs g X es ts) (h : nSt e = true) : QGs g X (e :: es) (t :: ts) :=
 ⟨sgc h1.p h2.p h⟩
theorem Good.qtup  (G : Good FS g k cl N sc fq X Wx) (hs : QGs g X es ts) (h : gI es = true) (hl : es.length = ts.length) : QG g X (.Tuple es nn pos) (.tu ts) :=
 ⟨G.tup hs.p h hl⟩
/-- none or one test,within a block -/
inductive QTs (FS : FST) (g : Gx) (k : Nat) (cl : Cll) (N : List Str) (sc : Scope) (fq : Str -> Bool) : List Expr -> M Bool -> Prop
 | nil : QTs FS g k cl N sc fq [] (fun _ h => .ok true h)
 | one {c : Expr} {m : M Bool} (hc : ∀ X,Good FS g k cl N sc fq X WF -> QT g X WF c m) : QTs FS g k cl N sc fq [c] m
theorem QTs.un (h : QTs FS g k cl N sc fq ifs mt) : GTs FS g k cl N sc fq ifs mt := by
 cases h with
 | nil => exact .nil
 | one hc => exact .one fun X G => (hc X G).p
theorem Good.qlc  (G : Good FS g k cl N sc fq X Wx) (own : List (Str × Nat)) (vs : List Nat) (hB : okB N sc scope own = true) (hvs : own.map (·.2) = vs) (hsl : lA t.slots vs = true) (hs : rJ iter = true) (hi : QI g X Wx tg iter mI) (hg : ∀ X,Good FS g k cl N (relS scope sc) (fqB scope) X WF -> QG g X tg t) (ht : QTs FS g k cl N (relS scope sc) (fqB scope) ifs mt) (he : ∀ X,Good FS g k cl N (relS scope sc) (fqB scope) X WF -> QE g X WF elt me) : QE g X Wx (.ListComp elt [⟨tg,iter,ifs,0⟩] scope pos) (mLc mI t mt me vs) :=
 ⟨G.lc own vs hB hvs hsl (fun _ => sH hs) hi.p (fun X G => (hg X G).p) ht.un (fun X G => (he X G).p)⟩
theorem Good.qsetLc  (G : Good FS g k cl N sc fq X Wx) (i2 : Nat) (own : List (Str × Nat)) (vs : List Nat) (hl : okL N sc i2 y = true) (hw : wD sc scope y p pos = true) (hB : okB N sc scope own = true) (hvs : own.map (·.2) = vs) (hsl : lA t.slots vs = true) (hs : rJ iter = true) (hi : QI g X Wx tg iter mI) (hg : ∀ X,Good FS g k cl N (relS scope sc) (fqB scope) X WF -> QG g X tg t) (ht : QTs FS g k cl N (relS scope sc) (fqB scope) ifs mt) (he : ∀ X,Good FS g k cl N (relS scope sc) (fqB scope) X WF -> QE g X WF elt me) : QS g X Wx (.Assign [.Name y p] (.ListComp elt [⟨tg,iter,ifs,0⟩] scope pos) spos) (aR (.nm i2) (mLc mI t mt me vs)) :=
 ⟨G.setLc i2 own vs hl hw hB hvs hsl (fun _ => sH hs) hi.p (fun X G => (hg X G).p) ht.un (fun X G => (he X G).p)⟩
theorem Good.qsetLc2  (G : Good FS g k cl N sc fq X Wx) (i2 : Nat) (own : List (Str × Nat)) (vs vs1 : List Nat) (hl : okL N sc i2 y = true) (hw : wD sc scope y p pos = true) (hB : okB N sc scope own = true) (hvs : own.map (·.2) = vs) (hsl : lA t.slots vs = true) (hv1 : lA vs1 vs = true) (hsl1 : lA t1.slots vs1 = true) (hs : rJ iter = true) (hs1 : rJ iter1 = true) (hi : QI g X Wx tg iter mI) (hg : ∀ X,Good FS g k cl N (relS scope sc) (fqB scope) X WF -> QG g X tg t) (ht : QTs FS g k cl N (relS scope sc) (fqB scope) ifs mt) (hi1 : ∀ X,Good FS g k cl N (relS scope sc) (fqB scope) X WF -> QI g X WF tg1 iter1 mI1) (hg1 : ∀ X,Good FS g k cl N (relS scope sc) (fqB scope) X WF -> QG g X tg1 t1) (ht1 : QTs FS g k cl N (relS scope sc) (fqB scope) ifs1 mt1) (he : ∀ X,Good FS g k cl N (relS scope sc) (fqB scope) X WF -> QE g X WF elt me) : QS g X Wx (.Assign [.Name y p] (.ListComp elt [⟨tg,iter,ifs,0⟩,⟨tg1,iter1,ifs1,0⟩] scope pos) spos) (aR (.nm i2) (wC mI t mt mI1 t1 mt1 me vs vs1)) :=
 ⟨G.setLc2 i2 own vs vs1 hl hw hB hvs hsl hv1 hsl1 (fun _ => sH hs) (fun _ _ => sH hs1) hi.p (fun X G => (hg X G).p) ht.un (fun X G => (hi1 X G).p) (fun X G => (hg1 X G).p) ht1.un (fun X G => (he X G).p)⟩
theorem kD   : QL g X Wx [] hZ :=
 ⟨aHy⟩
theorem aV  (h1 : QS g X Wx s0 m) : QL g X Wx [s0] m :=
 ⟨aHz h1.p⟩
theorem aN  (h1 : QS g X Wx s0 m) (h2 : QL g X Wx rest m2) : QL g X Wx (s0 :: rest) (aS m m2) :=
 ⟨aFT h1.p h2.p⟩
theorem qse  (he : QE g X Wx e me) (h : nCo e = true) : QS g X Wx (.Expr e spos) (cQ me) :=
 ⟨sse he.p h⟩
theorem bV  (he : QE g X Wx e me) : QS g X Wx (.Return (some e) pos) (bX me) :=
 ⟨aHG he.p⟩
theorem eY  (hc : QT g X Wx e ta) (ha : QL g X Wx ss1 m) (hb : QL g X Wx ss2 m2) : QS g X Wx (.If e ss1 ss2 pos) (fH ta m m2) :=
 ⟨aJh hc.p ha.p hb.p⟩
theorem qsf  (hp : PassesOwn (model X.prog X.w) X.A X.env X.xe) (G : Good FS g k cl N sc fq X Wx) (hi : QI g X Wx tg iter mI) (hg : QG g X tg t) (hb : QL g X Wx ss1 m) (h : rJ iter = true) : QS g X Wx (.For tg iter ss1 [] pos) (nZ mI t m) :=
 ⟨ssf hp G hi.p hg.p hb.p h⟩
theorem bQ  (he : QE g X Wx e me) (hg : QG g X (.Name x p) t) (h : nCo e = true) : QS g X Wx (.Assign [.Name x p] e spos) (aR t me) :=
 ⟨aEZ he.p hg.p h⟩
theorem aBi  (he : QE g X Wx e me) (hg : QG g X (.Tuple es nn p) t) (h : nCo e = true) (h2 : aDO e = true) : QS g X Wx (.Assign [.Tuple es nn p] e spos) (aR t me) :=
 ⟨aGe he.p hg.p h h2⟩
theorem Good.qasgN  (G : Good FS g k cl N sc fq X Wx) (he : QE g X Wx e me) (hg : QG g X (.Name x p) t) (h : swapsWithSole [.Name x p] e spos.line (env0 sc) = pure false) : QS g X Wx (.Assign [.Name x p] e spos) (aR t me) :=
 ⟨G.asgN he.p hg.p h⟩
theorem Good.qasgT  (G : Good FS g k cl N sc fq X Wx) (he : QE g X Wx e me) (hg : QG g X (.Tuple es nn p) t) (h : nCo e = true) (h2 : swappedStores [.Tuple es nn p] e (env0 sc) = pure none) : QS g X Wx (.Assign [.Tuple es nn p] e spos) (aR t me) :=
 ⟨G.asgT he.p hg.p h h2⟩
theorem Good.qsub  (G : Good FS g k cl N sc fq X Wx) (he : QE g X Wx e me) (ho : QE g X Wx o mo) (hi : QE g X Wx i mi) (h : nCo e = true) (h2 : nSl i = true) : QS g X Wx (.Assign [.Subscript o i tpos] e spos) (iP me mo mi) :=
 ⟨G.sub he.p ho.p hi.p h h2⟩
theorem Good.qpar  (G : Good FS g k cl N sc fq X Wx) (i1 i2 : Nat) {px py pt : Pos} {kt k2 pt2} (hi : okL N sc i1 x = true) (hj : okL N sc i2 y = true) (hij : i1 ≠ i2) (ha : QA g X Wx [a,b] (aB [ma,mb])) (hw : swappedStores [.Tuple [.Name x px, .Name y py] kt pt] (.Tuple [a,b] k2 pt2) (env0 sc) = pure (some [x,y])) : QS g X Wx (.Assign [.Tuple [.Name x px, .Name y py] kt pt] (.Tuple [a,b] k2 pt2) spos) (aR (.tu [.nm i1, .nm i2]) (bF (aB [ma,mb]))) :=
 ⟨G.par i1 i2 hi hj hij ha.p hw (swS rfl)⟩
end
end PV
end
section
namespace PV
open PySem PySem.Spec PyProof.Rows L2
theorem zE {g : Gx} {μ : List Addr} {H : Hp} : ∀ ns : List Int,RVs g μ H (ns.map D.int) (ns.map V.int)
 | [] => rfl
 | n :: ns => ⟨.int n,ns.map V.int,rfl,rfl,rfl,zE ns⟩
end PV
end
section
namespace PV
open PySem PySem.Spec PyProof.Rows L2
theorem aAr {g : Gx} {μ : List Addr} {H : Hp} : ∀ xs : List Str,RVs g μ H (xs.map D.str) (xs.map V.str)
 | [] => rfl
 | x :: xs => ⟨.str x,xs.map V.str,rfl,rfl,rfl,aAr xs⟩
theorem aAZ {K : PySem.W.Frag} : ∀ xs : List Str,(xs.map He.Dv.str).map (He.Dv.v K) = xs.map V.str
 | [] => rfl
 | x :: xs => by simp only [List.map_cons,aAZ xs]; rfl
theorem tupS_ok {K : PySem.W.Frag} {g : Gx} {mg : Str -> Option Value} {x : Str} {a : Addr} {xs : List Str} (hK : K = g.K) (hm : mg x = some (.ref (He.ga K x))) (h : He.tupB K x (xs.map He.Dv.str) = true) : ∃ a vs,mg x = some (.ref a) /\ (∀ H,SqT g.K H a vs) /\ ∀ μ H,RVs g μ H (xs.map D.str) vs :=
 ⟨_,xs.map V.str,hm,fun H => by have := He.tupB_ok h H; rw [aAZ] at this; rw [<- hK]; exact this,fun μ H => aAr xs⟩
end PV
end
section
namespace PV
open PySem PySem.Spec PyProof.Rows L2
/-- d[y] = v within a comprehension -/
theorem aDq {X : Cx} {pins : List (Addr × Obj)} {σ : L2.St} {H H' : Hp} {s : Shared} {E : Value -> Shared -> Prop} {D : Addr} {y v : V} {u r : Value} {Q : Unit -> Shared -> Prop} (hu : X.A.units + 1 < cLine) (I : Inv X pins σ H s) (p : DPut H D y v H') (ry : RelV y u) (rv : RelV v r)
  (k : ∀ s',Inv X pins σ H' s' -> Q () s') : wpAny (model X.prog X.w) X.A (dictSet D u r) Q E s := by
 rcases p with ⟨kvs,key,eD,rfl,hl,rfl⟩ | ⟨kvs,key,b,eD,rfl,eb,hl,rfl⟩
 ·exact d_dictSet I eD hl ry rv k
 ·cases (show u = Value.ref b from ry)
  obtain ⟨z,hd,xs,rel,dd⟩ := dt_of I.hok eD
  refine wpAny_dictSet_heap (hsz := by rw [<- Paired.length rel]; exact z) (show X.A.units < cLine from Nat.lt_of_succ_lt hu) (key_of I.hok eb) dd fun h' dd' hs => k _ ?_
  obtain ⟨q,es,ep,hq,h2,h3,h4,_,h5⟩ := dd'
  have hl2 := length_putK kvs key v
  refine d_write I (by rw [eD]; exact True.intro) hs ⟨q,hq⟩ ⟨by omega,hd,_,(rel.put key eb rv).keeps fun c ys ec => ?_,q,es,ep,hq,h2,h3,h4,h5⟩
  exact (upd_ne (ne_of ec eD (fun z => nomatch z))).trans ec
/-- one turn of an iterator: what came stays pinned until the turn's end -/
theorem aIm {X : Cx} {pins : List (Addr × Obj)} {σ : L2.St} {H : Hp} {s : Shared} {tg : Expr} {J : It} {fp : List Addr} {it : Addr} {tn : Nat -> Heap -> Prop} {i : Nat} {E : Value -> Shared -> Prop} {Q : Value -> Shared -> Prop} (T : Turn X.prog X.w X.K tg J fp it tn) (hc : X.calm = true) (I : Inv X pins σ H s) (f : ∀ b ∈ fp,FpOk X pins H b) (st : tn i s.heap) (go : J.go i H)
  (k : ∀ u x H1 s1,Inv X (pins ++ pinsAt fp s1.heap) σ H1 s1 -> RelV x u -> J.yld i H x H1 -> (∀ {σ2 : L2.St} {H2 : Hp} {s2 : Shared},Inv X (pins ++ pinsAt fp s1.heap) σ2 H2 s2 -> Inv X pins σ2 H2 s2 /\ tn (i + 1) s2.heap /\ ∀ b ∈ fp,H2 b = none) -> Q u s1) :
  wpAny (model X.prog X.w) X.A (pyNext (.ref it)) (fun r s1 => ∃ u,r = some u /\ wpAny (model X.prog X.w) X.A (letOwnedTupleGo tg (.ref it) u) (fun _ s2 => Q u s2) E s1) E s := by
 refine wpAny_mono (T.item X rfl rfl rfl hc i pins s σ H E I f st go) (fun r s1 ⟨u,e,z⟩ => ⟨u,e,wpAny_mono z (fun _ s2 ⟨x,H1,I1,rx,y,st1,n1⟩ => ?_) fun _ _ z => z⟩) fun _ _ z => z
 refine k u x H1 s2 (I1.pinned (fun b hb => ⟨n1 b hb,(f b hb).2⟩) (T.obj _ _ st1)) rx y fun {σ2 H2 s3} I2 => ?_
 have p : ∀ b ∈ fp,∀ o,s2.heap.get? b = some o -> s3.heap.get? b = some o /\ H2 b = none := fun b hb o eo => by
  have q := I2.pin (b,o) (List.mem_append_right _ (List.mem_append_right _ (mem_pinsAt hb eo)))
  exact ⟨q.1,q.2.1⟩
 refine ⟨I2.unpinned,T.keep _ _ _ st1 fun b hb o eo => (p b hb o eo).1,fun b hb => ?_⟩
 obtain ⟨o,eo,_⟩ := T.obj _ _ st1 b hb
 exact (p b hb o eo).2
/-- a new dict,of either kind -/
def aDD (o : HO) : Prop := o = .dK [] \/ o = .dT []
/-- what the loop of a dict comprehension finds -/
structure DEnt (X : Cx) (pins : List (Addr × Obj)) (σ : L2.St) (vs : List Nat) (Qd : Addr -> Hp -> Prop) (R : Addr -> Result -> Shared -> Prop) (Xb : Cx) (tg : Expr) (J : It) (it D : Addr) (fp : List Addr) (tn : Nat -> Heap -> Prop) (H3 : Hp) (s4 : Shared) : Prop where
 turn : Turn Xb.prog Xb.w Xb.K tg J fp it tn
 st : tn 0 s4.heap
 inv : Inv Xb [] (wipe σ vs) H3 s4
 nfp : ∀ b ∈ fp,H3 b = none
 fpo : ∀ {σ' : L2.St} {H' : Hp} {s' : Shared},Inv Xb [] σ' H' s' -> (∀ b ∈ fp,H' b = none) -> ∀ b ∈ fp,FpOk Xb [] H' b
 done : ∀ {H' : Hp} {s' : Shared},Inv Xb [] (wipe σ vs) H' s' -> Qd D H' -> R D (.ok .next) s'
theorem aBF {X : Cx} {pins : List (Addr × Obj)} {s : Shared} {σ : L2.St} {H : Hp} {kx vx tg iter : Expr} {ifs : List Expr} {rest : List Comprehension} {scope : Scope} {own : List (Str × Nat)} {pos : Pos} {wi : TI} {o0 : HO} {Qd : Addr -> Hp -> Prop} {wish : It -> Addr -> Hp -> Prop} {Q : VK}
  (hN : X.N.Nodup) (I : Inv X pins σ H s) (hi : PI X tg iter wi) (ok : BlkOk X.N X.env.scope scope own) (hs : ∀ x,foldedSetIterable iter X.env x = pure x) (h0 : aDD o0)
  (h : wi σ H fun J H1 => ∀ D,H1 D = none -> wish J D (upd H1 D o0)) (hQ : ∀ D H',Qd D H' -> Q (.ref D) H')
  (loop : ∀ (R : Addr -> Result -> Shared -> Prop) (s3 : Shared) (H3 : Hp) (C : Addr) (cl : List (Str × Addr)) (fp : List Addr) (J : It) (it D : Addr) (tn : Nat -> Heap -> Prop) (s4 : Shared),DEnt X pins σ (own.map (·.2)) Qd R (BX X scope s3 H3 C cl fp) tg J it D fp tn H3 s4 -> wish J D H3 ->
   codeAny (model X.prog X.w) X.A (.compLoop (.DictComp kx vx (⟨tg,iter,ifs,0⟩ :: rest) scope pos) 0 (.ref it) (.ref D) (compEnvC scope cl C X.env)) (R D) s4) :
  wpAny (model X.prog X.w) X.A (eval (.DictComp kx vx (⟨tg,iter,ifs,0⟩ :: rest) scope pos) X.env) (EP X pins σ Q) X.xe s := by
 have fr : ∀ y ∈ scope.names,y.2 = .free -> ∃ c,X.env.cells.lookup y.1 = some c := fun y hy e => (ok.free y hy e).elim (fun k => I.ok.has _ (.inl k)) fun k => I.ok.has _ (.inr k)
 rw [arm_eval_DictComp]
 refine wpAny_comprehension_free (use := none) rfl hs (closure_ok fr) ok.kind (fun y hy e => by rw [ok.uniq y hy,e]) (thn (hi.run pins s σ H _ I h) fun xv s1 hx => thn hx fun itv s2 z2 => ?_)
 obtain ⟨it,fp,tn,J,H2,rfl,I2,T,st2,f2,q⟩ := z2
 refine wpAny_newObj_type (newEnv_comp ?_)
 generalize eD : s2.heap.objs.size = D
 have nD : H2 D = none := I2.hok.fresh (Nat.le_of_eq eD)
 have wsh := q D nD
 generalize es3 : ({ s2 with heap := s2.heap.push { cls := .type "dict",data := .dict #[] } } : Shared) = s3
 have hp3 : s3.heap = s2.heap.push { cls := .type "dict",data := .dict #[] } := by rw [<- es3]
 have I3 : Inv X pins σ (upd H2 D o0) s3 := by
  subst es3
  refine I2.laid (t' := s2.toks) (fun b o e => Heap.get?_push_of_some _ e) (Nat.le_of_eq eD) ?_
  rw [<- eD]
  rcases h0 with rfl | rfl
  ·exact dk_empty s2.heap I2.big
  ·exact dt_empty s2.heap I2.big
 have lt3 : ∀ b ∈ fp,b < s2.heap.objs.size := fun b hb => let ⟨o,e,_⟩ := T.obj _ _ st2 b hb; Heap.lt_size e
 have f3 : ∀ b ∈ fp,FpOk X pins (upd H2 D o0) b /\ b < s3.heap.objs.size := fun b hb => by
  have l := lt3 b hb
  have ne : b ≠ D := by rw [<- eD]; exact Nat.ne_of_lt l
  exact ⟨⟨(upd_ne ne).trans (f2 b hb).1,(f2 b hb).2⟩,by rw [hp3,Heap.size_push]; exact Nat.lt_succ_of_lt l⟩
 have st3 : tn 0 s3.heap := T.keep _ _ _ st2 fun b _ o e => by rw [hp3]; exact Heap.get?_push_of_some _ e
 have I4 := block_start I3 ok hN f3
 generalize eH3 : upd H2 D o0 = H3 at I3 I4 wsh f3
 generalize ecl : cellsFrom (s3.heap.objs.size + 1) scope.names (cloFrom X.env.cells scope.names []) = cl at I4
 generalize es4 : ({ s3 with heap := pushCells (s3.heap.push { cls := .type "dict",data := .dict #[] }) scope.names } : Shared) = s4 at I4
 have st4 : tn 0 s4.heap := T.keep _ _ _ st3 fun b _ o e => by rw [<- es4]; exact pushCells_keeps _ _ _ _ (Heap.get?_push_of_some _ e)
 have lp := loop (fun D => compPost (model X.prog X.w) X.A X.xe none (EP X pins σ Q) (.ref D) s3.heap.objs.size) s3 H3 s3.heap.objs.size cl fp J it D tn s4 ⟨T,st4,I4,fun b hb => (f3 b hb).1.1,fun {σ' H' s'} I' hn b hb => ⟨hn b hb,(I'.ok.exf b hb).1,I'.ok.exfs b hb, .inl hb,fun x c e => (I'.ok.exf b hb).2 x c e,fun p hp => absurd (show p ∈ ([] : List (Addr × Obj)) ++ [] from hp) (by simp)⟩,fun {H' s'} I' qd => ?_⟩ wsh
 ·subst ecl es4
  exact codeAny_compStart_dict lp (T.self X.A 0 _ _ _ st4 lp)
 ·have I7 : Inv X pins σ H' s' := I3.call' (ch := fp) I'.os I'.base I'.hok I'.bare fun b hb => ⟨(f3 b hb).1.2.2.2.1,(f3 b hb).1.2.1,(f3 b hb).1.2.2.2.2.1,(f3 b hb).1.2.2.2.2.2⟩
  have nC : H' s3.heap.objs.size = none := I'.free
  obtain ⟨m,hn,_⟩ := I'.loc
  obtain ⟨g0,g1,g2,g3,g4,g5⟩ := I3.fpOk (H' := H') (Nat.le_refl _) nC
  refine ⟨m,hn,fun h'' sb => ?_⟩
  exact ⟨.ref D,H',I7.turned (t' := s'.toks) (fun b o hb e => (sb.2 b hb).trans e) g0 g1 g3 g4 g5,rfl,hQ D H' qd⟩
/-- {k: v for target in iter if ..}; at a turn's end the dict is written by DPut -/
def tDp (o0 : HO) (wi : TI) (g : TG) (tt : TT) (tk tv : TE) (vs : List Nat) : TE := fun σ H Q => wi σ H fun J H1 => ∀ D,H1 D = none ->
 aBw J (fun x H' Nx => g x (wipe σ vs) H' fun σ2 H2 => wipe σ2 vs = wipe σ vs /\ tt σ2 H2 fun b H3 => if b = true then tk σ2 H3 fun y H4 => tv σ2 H4 fun z H5 => ∃ H6,DPut H5 D y z H6 /\ Nx H6 else Nx H3) (upd H1 D o0) fun H' => Q (.ref D) H'
/-- slots behind a turn that know what was known ahead -/
theorem knows {σ σ2 : L2.St} {vs : List Nat} (e : wipe σ2 vs = wipe σ vs) : (wipe σ vs).length = σ2.length /\ ∀ (j : Nat) v,(wipe σ vs)[j]? = some (some v) -> σ2[j]? = some (some v) :=
 ⟨by rw [<- e,wipe_length],fun j v q => by rw [<- e] at q; exact (wipe_some q).1⟩
theorem aIH {X : Cx} {kx vx tg iter : Expr} {ifs : List Expr} {scope : Scope} {own : List (Str × Nat)} {pos : Pos} {o0 : HO} {wi : TI} {g : TG} {tt : TT} {tk tv : TE} (hc : X.calm = true) (hu : X.A.units + 1 < cLine) (hN : X.N.Nodup) (h0 : aDD o0) (hi : PI X tg iter wi) (ok : BlkOk X.N X.env.scope scope own)
  (hg : ∀ s H C cl fp,PG (BX X scope s H C cl fp) tg g) (ht : ∀ s H C cl fp,PTs (BX X scope s H C cl fp) ifs tt) (hk : ∀ s H C cl fp,PE (BX X scope s H C cl fp) kx tk) (hv : ∀ s H C cl fp,PE (BX X scope s H C cl fp) vx tv) (hs : ∀ x,foldedSetIterable iter X.env x = pure x) :
  PE X (.DictComp kx vx [⟨tg,iter,ifs,0⟩] scope pos) (tDp o0 wi g tt tk tv (own.map (·.2))) := by
 refine ⟨fun pins s σ H Q I h => aBF (rest := []) (Qd := fun D H' => Q (.ref D) H') (wish := fun J D Hs => aBw J (fun x H' Nx => g x (wipe σ (own.map fun p : Str × Nat => p.2)) H' fun σ2 H2 => wipe σ2 (own.map fun p : Str × Nat => p.2) = wipe σ (own.map fun p : Str × Nat => p.2) /\ tt σ2 H2 fun b H3 => if b = true then tk σ2 H3 fun y H4 => tv σ2 H4 fun z H5 => ∃ H6,DPut H5 D y z H6 /\ Nx H6 else Nx H3) Hs fun H' => Q (.ref D) H') hN I hi ok hs h0 h (fun _ _ q => q) ?_⟩
 rintro R s3 H3 C cl fp J it D tn s4 ⟨T,st4,I4,n4,fo,dn⟩ ⟨W,⟨m0,w0⟩,step⟩
 refine compLoop_anyD (fun n s' => ∃ i H',Inv (BX X scope s3 H3 C cl fp) [] (wipe σ (own.map (·.2))) H' s' /\ tn i s'.heap /\ (∀ b ∈ fp,H' b = none) /\ W i n H') ?_ m0 ⟨0,H3,I4,st4,n4,w0⟩
 rintro n s5 ⟨i,H5,I5,st5,n5,w5⟩
 rcases step i n H5 w5 with ⟨stop,fin⟩ | ⟨go,Nx,hNx,body⟩
 ·refine thnF (T.done _ rfl rfl rfl hc i [] s5 _ H5 (fun _ _ => False) I5 (fo I5 n5) st5 stop) fun r s6 ⟨hr,I6⟩ => ?_
  subst hr
  exact dn I6 fin
 ·refine thnF (aIm (X := BX X scope s3 H3 C cl fp) T hc I5 (fo I5 n5) st5 go (E := fun _ _ => False) (Q := fun u s7 => ∃ x H7,Inv (BX X scope s3 H3 C cl fp) ([] ++ pinsAt fp s7.heap) (wipe σ (own.map (·.2))) H7 s7 /\ RelV x u /\ J.yld i H5 x H7 /\ (∀ {σ2 : L2.St} {H2 : Hp} {s2 : Shared},Inv (BX X scope s3 H3 C cl fp) ([] ++ pinsAt fp s7.heap) σ2 H2 s2 -> Inv (BX X scope s3 H3 C cl fp) [] σ2 H2 s2 /\ tn (i + 1) s2.heap /\ ∀ b ∈ fp,H2 b = none))
   fun u x H1 s1 a b c d => ⟨x,H1,a,b,c,@d⟩) fun r s6 ⟨u,hr,z⟩ => ?_
  subst hr
  refine thnF z fun _ s7 ⟨x,H7,I7,r7,y7,back⟩ => ?_
  refine thnF ((hg s3 H3 C cl fp).run _ s7 _ H7 x u _ I7 r7 (body x H7 y7)) fun _ s8 ⟨σ8,H8,I8,w8,q8⟩ => ?_
  refine thnF ((ht s3 H3 C cl fp).run _ s8 σ8 H8 _ I8 q8) fun b s9 ⟨H9,I9,q9⟩ => ?_
  have fin : ∀ {s' : Shared} {H' : Hp},Inv (BX X scope s3 H3 C cl fp) ([] ++ pinsAt fp s7.heap) σ8 H' s' -> Nx H' -> ∃ m,m < n /\ ∃ i H',Inv (BX X scope s3 H3 C cl fp) [] (wipe σ (own.map (·.2))) H' s' /\ tn i s'.heap /\ (∀ b ∈ fp,H' b = none) /\ W i m H' := fun {s' H'} I' nx => by
   obtain ⟨m',hm,w'⟩ := hNx H' nx
   obtain ⟨a,b,c⟩ := back I'
   exact ⟨m',hm,i + 1,H',a.weak (knows w8).1 (knows w8).2,b,c,w'⟩
  cases b with
  | false => exact fin I9 q9
  | true =>
   refine thnF ((hk s3 H3 C cl fp).run _ s9 σ8 H9 _ I9 q9) fun zk s10 ⟨yk,H10,I10,r10,q10⟩ => ?_
   refine thnF ((hv s3 H3 C cl fp).run _ s10 σ8 H10 _ I10 q10) fun zv s11 ⟨yv,H11,I11,r11,H12,put,nx⟩ => ?_
   exact aDq (X := BX X scope s3 H3 C cl fp) hu I11 put r10 r11 fun s12 I12 => fin I12 nx
end PV
end
section
namespace PV
open PySem PySem.Spec PyProof.Rows L2
end PV
end
section
namespace PV
open PySem PySem.Spec PyProof.Rows L2
end PV
end
section
namespace PV
open PySem PySem.Spec PyProof.Rows L2
/-- keys: ints and strs,or tuples of such -/
structure KKind (κ : Type) where
 obj : List (κ × V) -> HO
 cell : List (κ × D) -> Cl
 key : D -> Option κ
def kK : KKind Key := ⟨.dK, .dK,toK⟩
def kT : KKind (List Key) := ⟨.dT, .dT,fun y => match y with
 | .tup ks => aJ toK ks
 | _ => none⟩
structure KOk {κ : Type} [DecidableEq κ] (K : KKind κ) : Prop where
 d0 : aDD (K.obj [])
 mu : ∀ vs,eL (K.obj vs) = true
 put : ∀ {g : Gx} {μ : List Addr} {H : Hp} {a : Addr} {y : D} {vy vz : V} {vs : List (κ × V)} {k : κ},K.key y = some k -> RV g μ H y vy -> H a = some (K.obj vs) -> vs.length < sizeLine -> DPut H a vy vz (upd H a (K.obj (putK vs k vz)))
 rc : ∀ {g : Gx} {μ : List Addr} {H : Hp} {a : Addr} {kvs : List (κ × D)} {vs : List (κ × V)},RKs g μ H kvs vs -> H a = some (K.obj vs) -> RC g μ H a (K.cell kvs)
theorem aIr : KOk kK := ⟨.inl rfl,fun _ => rfl,fun e q ha hl => by rw [vM e q]; exact DPut.k ha hl,fun r ha => ⟨_,ha,r⟩⟩
section
variable {κ : Type} [DecidableEq κ] {K : KKind κ}
def sB (K : KKind κ) (mt : M Bool) (mk mv : M D) : List (κ × D) -> Sg -> Hh -> R (List (κ × D)) := fun acc σ h => (noX (mt σ h)).bind fun b h2 => if b = true then
  (noX (mk σ h2)).bind fun y h3 => (noX (mv σ h3)).bind fun z h4 => match K.key y with
   | some k => if acc.length < sizeLine then .ok (qI acc k (aQ z h4).1) (aQ z h4).2 else .bad
   | none => .bad
 else .ok acc h2
def mDc (K : KKind κ) (mi : M Src) (t : Tg) (mt : M Bool) (mk mv : M D) (vs : List Nat) : M D := fun σ h => (mi σ h).bind fun src h1 => (lcL src t (sB K mt mk mv) (dM σ vs) fK 0 [] h1).bind fun acc h2 => .ok (.ref h2.length) (h2 ++ [K.cell acc])
abbrev nL (K : KKind κ) (g : Gx) : List Addr -> Hp -> List (κ × D) -> HO -> Prop := fun μ H acc o => ∃ vs,o = K.obj vs /\ RKs g μ H acc vs
variable {g : Gx} {X : Cx} {Wx : WX} {kx vx tg iter tg1 iter1 : Expr} {ifs ifs1 : List Expr} {scope : Scope} {own : List (Str × Nat)} {pos : Pos} {mi mi1 : M Src} {t t1 : Tg} {mt mt1 : M Bool} {mk mv : M D}
theorem lL {μ μ' : List Addr} {H H' : Hp} {acc : List (κ × D)} {o : HO} (tr : Trk μ H) (x : Ext μ H μ' H') (r : nL K g μ H acc o) : nL K g μ' H' acc o := by
 obtain ⟨vs,e,z⟩ := r
 exact ⟨vs,e,z.ext tr x⟩
theorem aCj {acc : List (κ × D)} {σ : Sg} {h : Hh} {c : Nat} {fs : List (Str × D)} {h' : Hh} : sB K mt mk mv acc σ h ≠ .exc c fs h' := fun z => by
 unfold sB at z
 rcases bind_exc z with z | ⟨b,h2,_,z⟩
 ·exact kR z
 ·split at z
  ·rcases bind_exc z with z | ⟨y,h3,_,z⟩
   ·exact kR z
   ·rcases bind_exc z with z | ⟨y2,h4,_,z⟩
    ·exact kR z
    ·split at z
     ·split at z <;> cases z
     ·cases z
  ·cases z
/-- one turn's end: the test,the key,the value -/
theorem aJo (KO : KOk K) {Gr : List Addr -> Hp -> Prop} {μ : List Addr} {H : Hp} {a : Addr} {acc : List (κ × D)} {h : Hh} {σw : Sg} {σ : L2.St} {Nx : Hp -> Prop} (go : GrOk Gr a) (hts : STs g X scope ifs mt) (hk : SB g X scope kx mk) (hv : SB g X scope vx mv)
  (G : Gd g (nL K g) Gr a μ h acc H) (rs : RS g μ H σw σ) (p : PoL g (nL K g) Gr a (sB K mt mk mv acc σw h) Nx) :
  tTs X scope ifs σ H fun b H3 => if b = true then tB1 X scope kx σ H3 fun y H4 => tB1 X scope vx σ H4 fun z H5 => ∃ H6,DPut H5 a y z H6 /\ Nx H6 else Nx H3 := by
 refine uI hts rs G.r ((PoL.po (rel := nL K g) go lL G p).imp fun b h2 μ2 H2 x2 r2 q2 => ?_)
 obtain ⟨G2,p2⟩ := q2
 have G2 := G2 μ2 H2 x2 r2
 cases b with
 | false => exact p2 μ2 H2 G2
 | true =>
  simp only [if_true] at p2 ⊢
  intro s0 H0 C cl fp
  refine hk s0 H0 C cl fp σw h2 σ H2 μ2 _ (rs.ext G.r.trk x2) r2 ((PoL.po (rel := nL K g) go lL G2 p2).imp fun y h3 μ3 H3 x3 r3 q3 vy qy fy => ?_)
  obtain ⟨G3,p3⟩ := q3
  have G3 := G3 μ3 H3 x3 r3
  intro s0 H0 C cl fp
  refine hv s0 H0 C cl fp σw h3 σ H3 μ3 _ (rs.ext G.r.trk (x2.trans x3)) r3 ((PoL.po (rel := nL K g) go lL G3 p3).imp fun z h4 μ4 H4 x4 r4 q4 vz qz fz => ?_)
  obtain ⟨G4,p4⟩ := q4
  obtain ⟨μ4',x4',r4',qz',_⟩ := jI r4 qz fz x4
  have G5 : Gd g (nL K g) Gr a μ4' (aQ z h4).2 acc H4 := G3.ext go lL x4' r4'
  have qy5 := qy.ext r3.trk x4'
  obtain ⟨x5,r5,na5,o,eo,mo,vs,rfl,zk⟩ := G5
  split at p4
  ·rename_i k ek
   split at p4
   ·rename_i hl
    have z2 := wH zk k fE qz'
    exact ⟨_,KO.put ek qy5 eo (by rw [zk.length]; exact hl),p4 μ4' _ ⟨go.up x5 eo mo na5 (KO.mu _),r5.upd eo mo na5,na5,_,upd_same,KO.mu _,_,rfl,z2.upd eo mo⟩⟩
   ·exact p4.elim
  ·exact p4.elim
theorem aGk (KO : KOk K) {Wx : WX} {μ0 μ1 : List Addr} {H0 H1 : Hp} {D : Addr} {r : R (List (κ × PV.D))} {σ : L2.St} {Q : VK} (nx : ∀ c fs h,r ≠ .exc c fs h) (x1 : Ext μ0 H0 μ1 H1) (nD : H1 D = none)
  (p1 : Po g Wx σ μ1 H1 (r.bind fun acc h2 => .ok (.ref h2.length) (h2 ++ [K.cell acc])) fun w h' μ' H' => ∀ v,RV g μ' H' w v -> Fr H0 w v -> Q v H') : PoL g (nL K g) (Ext μ1 H1) D r fun H2 => Q (.ref D) H2 := by
 cases r with
 | bad => exact p1.elim
 | exc c fs h2 => exact absurd rfl (nx c fs h2)
 | ok acc h2 =>
  intro μ2 H2 G2
  obtain ⟨o,eo,mo,vs,rfl,z⟩ := G2.ob
  have xt : Ext μ1 H1 (μ2 ++ [D]) H2 := by
   obtain ⟨⟨e,rfl,fe⟩,fr,lv,tb⟩ := G2.x
   refine ⟨⟨e ++ [D],by simp,fun b hb => ?_⟩,fr,lv,tb⟩
   rcases List.mem_append.mp hb with hb | hb
   ·exact fe b hb
   ·have : b = D := by simpa using hb
    rw [this]; exact nD
  refine p1 (μ2 ++ [D]) H2 xt (G2.r.track G2.na (KO.rc z eo)) (.ref D) ⟨D, ?_,rfl⟩ (.of rfl)
  rw [<- G2.r.len]; simp
theorem aFg (KO : KOk K) {μ1 : List Addr} {H1 : Hp} {h1 : Hh} {D : Addr} (r1 : RH g μ1 h1 H1) (nD : H1 D = none) : Gd g (nL K g) (Ext μ1 H1) D μ1 h1 [] (upd H1 D (K.obj [])) := ⟨.new r1.trk nD,r1.new nD,fun hm => r1.trk.ne nD hm rfl,_,upd_same,KO.mu _,[],rfl,rfl⟩
theorem aIX (KO : KOk K) (hc : X.calm = true) (hu : X.A.units + 1 < cLine) (hN : X.N.Nodup) (ok : BlkOk X.N X.env.scope scope own) (hsl : ∀ i ∈ t.slots,i ∈ own.map (·.2)) (hs : ∀ x,foldedSetIterable iter X.env x = pure x)
  (hi : SI g X Wx tg iter mi) (hg : SBG g X scope tg t) (hts : STs g X scope ifs mt) (hk : SB g X scope kx mk) (hv : SB g X scope vx mv) : SE g X Wx (.DictComp kx vx [⟨tg,iter,ifs,0⟩] scope pos) (mDc K mi t mt mk mv (own.map (·.2))) := by
 intro σw h σ H μ Q rs rh po
 refine eM (aIH hc hu hN KO.d0 uU ok (fun s0 H0 C cl fp => (⟨fun pins s σ H v u Q I r q => q s0 H0 C cl fp pins s u I r⟩ : PG _ _ (tBG X scope tg))) (fun s0 H0 C cl fp => pF hts s0 H0 C cl fp)
  (fun s0 H0 C cl fp => (⟨fun pins s σ H Q I q => q s0 H0 C cl fp pins s I⟩ : PE _ _ (tB1 X scope kx))) (fun s0 H0 C cl fp => (⟨fun pins s σ H Q I q => q s0 H0 C cl fp pins s I⟩ : PE _ _ (tB1 X scope vx))) hs) ?_
 refine hi σw h σ H μ _ rs rh (po.bind.imp fun src h1 μ1 H1 x1 r1 p1 J sk D nD => ?_)
 have rs1 := (rs.ext rh.trk x1).wipe (own.map (·.2))
 have pl := aGk KO (fun c fs h => pB (fun _ _ _ _ _ _ => aCj) _ _ _ _) x1 nD p1
 have go := aBJ (a := D) r1.trk nD
 refine sN (rel := nL K g) go lL (fun μ H h x r i => (sk.ext x).at r i) (fun w x acc h μ H' σ1 Nx G nt qx e2 p2 => ?_) (aFg KO r1 nD) pl
 intro s0 H0 C cl fp
 refine hg s0 H0 C cl fp w x _ σ1 h _ H' μ _ (rs1.ext r1.trk G.x) G.r nt qx e2 fun σ' rs' w' => ⟨?_,aJo KO go hts hk hv G rs' p2⟩
 rw [w' _ hsl,oG]
end
end PV
end
section
namespace PV
open PySem PySem.Spec PyProof.Rows L2
section
variable {κ : Type} [DecidableEq κ] {K : KKind κ} {FS : FST} {g : Gx} {k : Nat} {cl : Cll} {N : List Str} {sc : Scope} {fq : Str -> Bool} {X : Cx} {Wx : WX} {kx vx tg iter tg1 iter1 : Expr} {ifs ifs1 : List Expr} {scope : Scope} {pos : Pos} {mi mi1 : M Src} {t t1 : Tg} {mt mt1 : M Bool} {mk mv : M D}
theorem Good.dc (G : Good FS g k cl N sc fq X Wx) (KO : KOk K) (own : List (Str × Nat)) (vs : List Nat) (hB : okB N sc scope own = true) (hvs : own.map (·.2) = vs) (hsl : lA t.slots vs = true) (hs : ∀ x,foldedSetIterable iter X.env x = pure x) (hi : SI g X Wx tg iter mi)
  (hg : ∀ X,Good FS g k cl N (relS scope sc) (fqB scope) X WF -> SG g X tg t) (ht : GTs FS g k cl N (relS scope sc) (fqB scope) ifs mt) (hk : ∀ X,Good FS g k cl N (relS scope sc) (fqB scope) X WF -> SE g X WF kx mk) (hv : ∀ X,Good FS g k cl N (relS scope sc) (fqB scope) X WF -> SE g X WF vx mv) :
  SE g X Wx (.DictComp kx vx [⟨tg,iter,ifs,0⟩] scope pos) (mDc K mi t mt mk mv vs) := by
 subst hvs
 exact aIX KO G.calm G.u1 G.xN (G.bok hB) (mT hsl) hs hi (fun s0 H0 C c1 fp => hg _ (G.blk scope s0 H0 C c1 fp)) (ht.sts G) (fun s0 H0 C c1 fp => hk _ (G.blk scope s0 H0 C c1 fp)) (fun s0 H0 C c1 fp => hv _ (G.blk scope s0 H0 C c1 fp))
end
end PV
end
section
namespace PV
open PySem PySem.Spec PyProof.Rows L2
section
variable {κ : Type} [DecidableEq κ] {K : KKind κ} {FS : FST} {g : Gx} {k : Nat} {cl : Cll} {N : List Str} {sc : Scope} {fq : Str -> Bool} {X : Cx} {Wx : WX} {kx vx tg iter tg1 iter1 : Expr} {ifs ifs1 : List Expr} {scope : Scope} {pos : Pos} {mI mI1 : M Src} {t t1 : Tg} {mt mt1 : M Bool} {mk mv : M D}
theorem Good.qdc (G : Good FS g k cl N sc fq X Wx) (KO : KOk K) (own : List (Str × Nat)) (vs : List Nat) (hB : okB N sc scope own = true) (hvs : own.map (·.2) = vs) (hsl : lA t.slots vs = true) (hs : rJ iter = true) (hi : QI g X Wx tg iter mI) (hg : ∀ X,Good FS g k cl N (relS scope sc) (fqB scope) X WF -> QG g X tg t) (ht : QTs FS g k cl N (relS scope sc) (fqB scope) ifs mt)
  (hk : ∀ X,Good FS g k cl N (relS scope sc) (fqB scope) X WF -> QE g X WF kx mk) (hv : ∀ X,Good FS g k cl N (relS scope sc) (fqB scope) X WF -> QE g X WF vx mv) : QE g X Wx (.DictComp kx vx [⟨tg,iter,ifs,0⟩] scope pos) (mDc K mI t mt mk mv vs) :=
 ⟨G.dc KO own vs hB hvs hsl (fun _ => sH hs) hi.p (fun X G => (hg X G).p) ht.un (fun X G => (hk X G).p) (fun X G => (hv X G).p)⟩
end
end PV
end
section
namespace PV
open PySem PySem.Spec PyProof.Rows L2
def mD0 (c : Cl) : M D := fun _ h => .ok (.ref h.length) (h ++ [c])
section
variable {g : Gx} {X : Cx} {Wx : WX} {pos : Pos}
theorem aFs {μ : List Addr} {h : Hh} {H : Hp} {p : Addr} {o : HO} {c : Cl} (rh : RH g μ h H) (np : H p = none) (rc : RC g μ (upd H p o) p c) : Ext μ H (μ ++ [p]) (upd H p o) /\ RH g (μ ++ [p]) (h ++ [c]) (upd H p o) /\ RV g (μ ++ [p]) (upd H p o) (.ref h.length) (.ref p) := by
 have x := Ext.new (μ := μ) (o := o) rh.trk np
 refine ⟨⟨⟨[p],rfl,fun b hb => ?_⟩,x.fr',x.lv,x.tb⟩,(rh.new np).track (fun hm => rh.trk.ne np hm rfl) rc,p, ?_,rfl⟩
 ·have : b = p := by simpa using hb
  rw [this]; exact np
 ·rw [<- rh.len]; simp
theorem aHn : SE g X Wx (.Dict [] [] pos) (mD0 (.dK [])) := fun σw h σ H μ Q rs rh po => eM pe_dnewK fun p np => by
 obtain ⟨x,r,q⟩ := aFs (o := .dK []) (c := .dK []) rh np ⟨[],upd_same,rfl⟩
 exact po _ _ x r _ q (.of rfl)
theorem aG2 : QE g X Wx (.Dict [] [] pos) (mD0 (.dK [])) := ⟨aHn⟩
end
end PV
end
section
namespace PV
open PySem PySem.Spec PyProof.Rows L2
end PV
end
section
namespace PV
open PySem PySem.Spec PyProof.Rows L2
def kPy : Key -> PyData
 | .inl i => .int i
 | .inr x => .str x
def toQ (h : Hh) : Nat -> D -> Option PyData
 | 0,_ => none
 | n + 1,d => match d with
  | .non => some .none
  | .bl b => some (.bool b)
  | .int i => some (.int i)
  | .str x => some (.str x)
  | .tup ws => (aJ (toQ h n) ws).map .tuple
  | .kt ws => (aJ (toQ h n) ws).map .tuple
  | .ref i => match h[i]? with
   | some (.dK kvs) => (aJ (toQ h n) (kvs.map (·.2))).map fun ds => .dict ((kvs.map fun kv => kPy kv.1).zip ds)
   | _ => none
  | _ => none
section
variable {g : Gx} {X : Cx} {Wx : WX} {pins : List (Addr × Obj)} {σ : L2.St} {μ : List Addr} {h : Hh} {H : Hp} {s : Shared}
theorem sR {f : D -> Option PyData} (ih : ∀ w v d u,f w = some d -> RV g μ H w v -> RelV v u -> ∃ as,Reads s.heap u d as /\ sysModules ∉ as) : ∀ {ws : List D} {vs : List V} {us : List Value} {ds : List PyData},aJ f ws = some ds -> RVs g μ H ws vs -> Vals vs us -> ∃ as,ReadsAll s.heap us ds as /\ sysModules ∉ as
 | [],vs,us,ds,e,r,v => by
  rw [show vs = [] from r] at v
  unfold aJ at e
  cases e; cases v
  exact ⟨_, .nil,by simp⟩
 | w :: ws,vs,us,ds,e,r,v => by
  obtain ⟨v1,rr,rfl,_,q,z⟩ := r
  unfold aJ at e
  cases v with
  | cons r1 r2 =>
   split at e
   ·rename_i a b ea eb
    cases e
    obtain ⟨as,q1,n1⟩ := ih w v1 a _ ea q r1
    obtain ⟨bs,q2,n2⟩ := sR ih eb z r2
    exact ⟨_, .cons q1 q2,by simp [n1,n2]⟩
   ·cases e
theorem aDG {P : Program} {w : World} {es : List DictEntry} {vs : List (Key × Value)} (hp : Pairs (mixKind P w) es vs) : ReadsAll s.heap (es.map (·.key)) (vs.map fun p => kPy p.1) [] /\ es.map (·.val) = vs.map (·.2) := by
 induction hp with
 | nil => exact ⟨.nil,rfl⟩
 | cons h1 h2 _ ih =>
  obtain ⟨i1,i2⟩ := ih
  refine ⟨?_,by simp [h2,i2]⟩
  rcases keyIs_shape h1 with ⟨i,t,ek,ev⟩ | ⟨x,t,ek,ev⟩
  ·simp only [List.map_cons,ek,ev,kPy]
   exact .cons (.int i t) i1
  ·simp only [List.map_cons,ek,ev,kPy]
   exact .cons (.str x t) i1
theorem aD8 {kvs : List (Key × D)} {vs : List (Key × V)} (r : RKs g μ H kvs vs) : RVs g μ H (kvs.map (·.2)) (vs.map (·.2)) /\ kvs.map (·.1) = vs.map (·.1) := by
 induction kvs generalizing vs with
 | nil => rw [show vs = [] from r]; exact ⟨rfl,rfl⟩
 | cons p kvs ih =>
  obtain ⟨v,rr,rfl,nt,q,z⟩ := r
  obtain ⟨i1,i2⟩ := ih z
  exact ⟨⟨v,_,rfl,nt,q,i1⟩,by simp [i2]⟩
theorem aFk {vs : List (Key × V)} {us : List (Key × Value)} (r : KV vs us) : Vals (vs.map (·.2)) (us.map (·.2)) /\ vs.map (·.1) = us.map (·.1) := by
 induction r with
 | nil => exact ⟨.nil,rfl⟩
 | cons h _ ih => exact ⟨.cons h.2 ih.1,by simp [h.1,ih.2]⟩
theorem vO (hK : X.K = g.K) (rh : RH g μ h H) (I : Inv X pins σ H s) : ∀ (n : Nat) (w : D) (v : V) (d : PyData) (u : Value),toQ h n w = some d -> RV g μ H w v -> RelV v u -> ∃ as,Reads s.heap u d as /\ sysModules ∉ as
 | 0,w,v,d,u,e,r,q => by unfold toQ at e; cases e
 | n + 1,w,v,d,u,e,r,q => by
  unfold toQ at e
  split at e
  ·cases e; rw [show v = .non from r] at q; cases q; exact ⟨_, .none,by simp⟩
  ·cases e; rw [show v = .bl _ from r] at q; cases q; exact ⟨_, .bool _,by simp⟩
  ·cases e; rw [show v = .int _ from r] at q; obtain ⟨t,rfl⟩ := q; exact ⟨_, .int _ t,by simp⟩
  ·cases e; rw [show v = .str _ from r] at q; obtain ⟨t,rfl⟩ := q; exact ⟨_, .str _ t,by simp⟩
  ·obtain ⟨a,vs,rfl,ht,z⟩ := r
   cases q
   obtain ⟨ds,e1,rfl⟩ := Option.map_eq_some_iff.mp e
   obtain ⟨its,rv,⟨o,ho,hc,m,hd⟩,_⟩ := I.tuple (SqT.of ht)
   obtain ⟨as,h1,h2⟩ := sR (vO hK rh I n) e1 z rv
   exact ⟨_, .tuple ho hc hd h1,h2⟩
  ·obtain ⟨a,vs,rfl,ht,z⟩ := r
   cases q
   obtain ⟨ds,e1,rfl⟩ := Option.map_eq_some_iff.mp e
   obtain ⟨its,rv,⟨o,ho,hc,m,hd⟩,_⟩ := I.tuple (by rw [hK]; exact ht)
   obtain ⟨as,h1,h2⟩ := sR (vO hK rh I n) e1 z rv
   exact ⟨_, .tuple ho hc hd h1,h2⟩
  ·rename_i i
   split at e
   ·rename_i kvs e3
    obtain ⟨a,e1,rfl⟩ := r
    cases q
    obtain ⟨b,eb,vs,hb,z⟩ := rh.cell i _ e3
    rw [e1] at eb; cases eb
    obtain ⟨ds,e4,rfl⟩ := Option.map_eq_some_iff.mp e
    obtain ⟨_,lo,us,rel,o,es,ep,ho,hx,hd,_,hp,_⟩ := dk_rd I.hok (.inl hb)
    obtain ⟨z1,z2⟩ := aD8 z
    obtain ⟨r1,r2⟩ := aFk rel
    obtain ⟨k1,k2⟩ := aDG (s := s) hp
    obtain ⟨as,h1,h2⟩ := sR (vO hK rh I n) e4 z1 r1
    have lds : ds.length = kvs.length := by rw [tW e4]; simp
    have ke : (kvs.map fun kv => kPy kv.1) = us.map fun p => kPy p.1 := by
     have := congrArg (List.map kPy) (z2.trans r2)
     rw [List.map_map,List.map_map] at this
     exact this
    refine ⟨_, .dict (as := []) (bs := as) ho hx.1 hd ?_ ?_, ?_⟩
    ·rw [List.map_fst_zip (by simp [lds]),ke]; exact k1
    ·rw [List.map_snd_zip (by simp [lds]),k2]; exact h1
    ·have : sysModules ≠ a := fun z => by rw [z] at lo; simp at lo
     simp [h2,this]
   ·cases e
  ·cases e
/-- repr: plain data,else tuples with dicts -/
def iF (x : D) (h : Hh) : R D := match toP h bD x with
 | some _ => uY x h
 | none => match toQ h bD x with
  | some d => if d.showable = true /\ d.shown.length <= sizeLine /\ d.depth <= 64 then .ok (.str d.shown) h else .bad
  | none => .bad
theorem aAk (hK : X.K = g.K) (hg : X.A.guards = some []) (hu : X.A.units + 65 < cLine) : SC1 g X Wx (.builtin "repr") iF := by
 intro x h σ H μ vx Q rh qx po
 unfold iF at po
 split at po
 ·exact aFO hK hg hu x h σ H μ vx Q rh qx po
 ·split at po
  ·rename_i d e
   split at po
   ·rename_i hs
    obtain ⟨h1,h2,h3⟩ := hs
    intro pins s σ us I r
    obtain ⟨u,rfl,rv⟩ := vals1 r
    obtain ⟨as,rd,na⟩ := vO hK rh I _ _ _ _ _ e qx rv
    have fin : ∀ h' tk t,(∀ b o,s.heap.get? b = some o -> h'.get? b = some o) -> EP X pins σ Q (.str d.shown t) { s with heap := h',toks := tk } := fun h' tk t hk => ⟨.str _,H,I.kept (t' := tk) hk,⟨_,rfl⟩,po.at rh _ rfl (.of rfl)⟩
    cases rd with
    | none => exact PySem.P.repr_of_none ⟨.str _,H,I.tok _,⟨_,rfl⟩,po.at rh _ rfl (.of rfl)⟩
    | bool b => exact PySem.P.repr_of_bool ⟨.str _,H,I.tok _,⟨_,rfl⟩,po.at rh _ rfl (.of rfl)⟩
    | int i t => exact PySem.P.repr_of_int (of_decide_eq_true h1) ⟨.str _,H,I.tok _,⟨_,rfl⟩,po.at rh _ rfl (.of rfl)⟩
    | str y t => exact PySem.P.repr_of_str (hsz := h2) ⟨.str _,H,I.tok _,⟨_,rfl⟩,po.at rh _ rfl (.of rfl)⟩
    | list a b c f => exact repr_of_reads' (.list a b c f) h1 (fun _ => na) hg (by omega) (fun _ _ e => e) (fun h' u tk hk => fin h' tk u hk) h2
    | tuple a b c f => exact repr_of_reads' (.tuple a b c f) h1 (fun _ => na) hg (by omega) (fun _ _ e => e) (fun h' u tk hk => fin h' tk u hk) h2
    | dict a b c f f2 => exact repr_of_reads' (.dict a b c f f2) h1 (fun _ => na) hg (by omega) (fun _ _ e => e) (fun h' u tk hk => fin h' tk u hk) h2
   ·exact po.elim
  ·exact po.elim
variable {FS : FST} {k : Nat} {cl : Cll} {N : List Str} {sc : Scope} {fq : Str -> Bool}
theorem Good.creprX (G : Good FS g k cl N sc fq X Wx) : QC1 g X Wx (.builtin "repr") iF := ⟨aAk G.K G.gd G.un⟩
end
end PV
end
section
namespace PV
open PySem PySem.Spec PyProof.Rows L2
/-- the numbers below 100 are those of the plain classes -/
def aJ1 (f : Str) (x : D) (h : Hh) : R D := match x with
 | .ref i => match h[i]? with
  | some (.ins c fs) => if c < 100 then match fs.lookup f with
    | some w => .ok w h
    | none => .bad
   else .bad
  | _ => .bad
 | _ => .bad
def aEP (f : Str) (w : D) : List (Str × D) -> List (Str × D)
 | [] => [(f,w)]
 | (g,x) :: r => if g = f then (g,w) :: r else (g,x) :: aEP f w r
def aEV (f : Str) (x w : D) (h : Hh) : Option Hh := match x with
 | .ref i => match h[i]? with
  | some (.ins c fs) => if c < 100 /\ fs.length < 1000 /\ w.isTl = false then some (h.set i (.ins c (aEP f w fs))) else none
  | _ => none
 | _ => none
def aIz (f : Str) (mo me : M D) : MS := fun σ h => (mSt me σ h).then σ fun w h1 => (mo σ h1).then σ fun x h2 => match aEV f x w h2 with
 | some h3 => .nx σ h3
 | none => .bad
/-- o.m(..),the def by the class -/
def aIw (cl : Cll) (mt : Nat -> Option Nat) (m : Str) (mo : M D) (ms : M (List D)) : M D := fun σ h => gcR h ((mo σ h).bind fun x h1 => match x with
 | .ref i => match h1[i]? with
  | some (.ins c fs) => match mt c with
   | some f => if c < 100 /\ fs.lookup m = none then (ms σ h1).bind fun ws h2 => cl f (.ref i :: ws) h2 else .bad
   | none => .bad
  | _ => .bad
 | _ => .bad)
section
variable {g : Gx} {X : Cx} {Wx : WX} {μ : List Addr} {h : Hh} {H : Hp}
theorem RKs.lookup {fs : List (Str × D)} {vs : List (Str × V)} {f : Str} {w : D} (r : RKs g μ H fs vs) (e : fs.lookup f = some w) : ∃ v,vs.lookup f = some v /\ w.isTl = false /\ RV g μ H w v := by
 induction fs generalizing vs with
 | nil => cases e
 | cons p fs ih =>
  obtain ⟨k,x⟩ := p
  obtain ⟨v,rr,rfl,nt,q,z⟩ := r
  rw [List.lookup_cons] at e
  show ∃ v',List.lookup f ((k,v) :: rr) = some v' /\ _
  rw [List.lookup_cons]
  cases hk : f == k
  ·rw [hk] at e
   exact ih z e
  ·rw [hk] at e
   cases e
   exact ⟨v,rfl,nt,q⟩
variable {o e value : Expr} {es : List Expr} {f m : Str} {pos pos' apos : Pos} {mo me : M D} {ms : List (M D)}
end
end PV
end
section
namespace PV
open PySem PySem.Spec PyProof.Rows L2
end PV
end
section
namespace PV
open PySem PySem.Spec PyProof.Rows L2
section
variable {FS : FST} {P : Program} {w : World} {K : PySem.W.Frag} {mg : Str -> Option Value} {base : Heap} {g : Gx} {k c f : Nat} {m q : Str} {st : Stmt} {C fa : Addr} {fd : FuncData} {N ps : List Str} {T : Tab} {mm : Cll -> MS}
theorem bY {x : Str} (D : FunD K x x (defArgs st) (defBody st) (defScope st) [] [] fa fd) (hm : mg x = some (.ref fa)) (hf : g.fa f = some fa) (S : FnScope N ps (defScope st)) (hK : K = g.K) (fs : FS P w K mg base g k (aW T k)) (hT : T f = some ⟨N.length,ps.length,mm⟩) (hn : ps.length <= N.length)
  (sl : ∀ X Wx,Good FS g k (aW T k) N (defScope st) (fun _ => true) X Wx -> HP X -> QL g X Wx (defBody st) (mm (aW T k))) : FnF P w K mg base g (k + 1) (aW T (k + 1)) f x st ps :=
 ⟨fa,fd,hm,hf,D,yU D S hK fs hT hn fun X Wx G hp => (sl X Wx G hp).p⟩
theorem aCn {x : Str} {dvs : List V} {kws : List (Str × V)} (D : FunD K x q (defArgs st) (defBody st) (defScope st) dvs kws fa fd) (S : FnScope N ps (defScope st)) (hK : K = g.K) (fs : FS P w K mg base g k (aW T k)) (hT : T f = some ⟨N.length,ps.length,mm⟩) (hn : ps.length <= N.length)
  (sl : ∀ X Wx,Good FS g k (aW T k) N (defScope st) (fun _ => true) X Wx -> HP X -> QL g X Wx (defBody st) (mm (aW T k))) : FnG P w K mg base (CX P w) (k + 1 + 3) fa fd ps (qN g ps.length (aW T (k + 1) f)) :=
 yU D S hK fs hT hn fun X Wx G hp => (sl X Wx G hp).p
end
end PV
end
section
set_option maxHeartbeats 4000000
namespace PV
open PySem PySem.Spec PyProof.Rows L2
end PV
end
section
namespace PV
open PySem PySem.Spec PyProof.Rows L2
def aEx (c : Nat) (fs : List (Str × D)) : D := .xc c (fs.map (·.1)) (fs.map (·.2))
def RT.unset (i : Nat) : RT -> RT
 | .nx σ h => .nx (σ.set i none) h
 | .brk σ h => .brk (σ.set i none) h
 | .cont σ h => .cont (σ.set i none) h
 | .ret w h => .ret w h
 | .exc _ _ _ _ => .bad
 | .bad => .bad
def RT.noexc : RT -> RT
 | .exc _ _ _ _ => .bad
 | r => r
abbrev Hdl := List Nat × Option Nat × MS
def qE : List Hdl -> Nat -> List (Str × D) -> MS
 | [],c,fs,σ,h => .exc c fs σ h
 | (L,some i,ms) :: r,c,fs,σ,h => if L.contains c = true then (ms (σ.set i (some (aEx c fs))) h).unset i else qE r c fs σ h
 | (L,none,ms) :: r,c,fs,σ,h => if L.contains c = true then (ms σ h).noexc else qE r c fs σ h
def aIB (b : MS) (hs : List Hdl) : MS := fun σ h => match b σ h with
 | .exc c fs σ1 h1 => if 100 <= c then qE hs c fs σ1 h1 else .bad
 | r => r
section
variable {g : Gx} {μ : List Addr} {H : Hp}
theorem RKs.split : ∀ {fs : List (Str × D)} {vs : List (Str × V)},RKs g μ H fs vs -> vs = (fs.map (·.1)).zip (vs.map (·.2)) /\ RVs g μ H (fs.map (·.2)) (vs.map (·.2))
 | [],vs,r => by rw [show vs = [] from r]; exact ⟨rfl,rfl⟩
 | p :: fs,vs,r => by
  obtain ⟨v,rr,rfl,nt,q,z⟩ := r
  obtain ⟨e,z2⟩ := RKs.split z
  exact ⟨by simp only [List.map_cons,List.zip_cons_cons]; rw [<- e],⟨v,_,rfl,nt,q,z2⟩⟩
end
end PV
end
section
set_option maxHeartbeats 4000000
namespace PV
open PySem PySem.Spec PyProof.Rows L2
end PV
end
section
set_option maxHeartbeats 4000000
namespace PV
open PySem PySem.Spec PyProof.Rows L2
def aFq (c : Nat) (ks : List Str) (ma : M (List D)) : MS := fun σ h => (ma σ h).then σ fun ws h1 => if ws.length = ks.length then .exc c ((ks.zip ws).reverse) σ h1 else .bad
section
variable {g : Gx}
theorem RKs.snoc {μ : List Addr} {H : Hp} : ∀ {fs : List (Str × D)} {vs : List (Str × V)} {f : Str} {w : D} {v : V},RKs g μ H fs vs -> w.isTl = false -> RV g μ H w v -> RKs g μ H (fs ++ [(f,w)]) (vs ++ [(f,v)])
 | [],vs,f,w,v,r,nt,q => by rw [show vs = [] from r]; exact ⟨v,[],rfl,nt,q,rfl⟩
 | p :: fs,vs,f,w,v,r,nt,q => by
  obtain ⟨v',rr,rfl,nt',q',z⟩ := r
  exact ⟨v',_,rfl,nt',q',RKs.snoc z nt q⟩
variable {FS : FST} {k : Nat} {cl : Cll} {N : List Str} {sc : Scope} {fq : Str -> Bool} {X : Cx} {Wx : WX} {pos p pos' : Pos} {x : Str} {c : Nat} {ks : List Str} {e : Expr} {es : List Expr} {ms : List (M D)}
end
end PV
end
section
set_option maxHeartbeats 4000000
namespace PV
open PySem PySem.Spec PyProof.Rows L2
def aDu (f : Str) (x : D) (h : Hh) : R D := match x with
 | .xc c ks ws => if 100 <= c then match (ks.zip ws).lookup f with
   | some w => .ok w h
   | none => .bad
  else .bad
 | x => aJ1 f x h
def aIu (f : Str) (m : M D) : M D := fun σ h => (m σ h).bind (aDu f)
end PV
end
section
set_option maxHeartbeats 4000000
namespace PV
open PySem PySem.Spec PyProof.Rows L2
/-- what an except suite's context offers -/
structure Good0 (FS : FST) (g : Gx) (k : Nat) (cl : Cll) (N : List Str) (sc : Scope) (X : Cx) : Prop where
 K : X.K = g.K
 eN : X.N = N
 nd : N.Nodup
 sc : X.env.scope = sc
 un : X.A.units + 65 < cLine
 gd : X.A.guards = some []
 fs : FS X.prog X.w X.K X.mg X.base g k cl
section
variable {FS : FST} {g : Gx} {k : Nat} {cl : Cll} {N : List Str} {sc : Scope} {fq : Str -> Bool} {X : Cx} {Wx : WX} {pos p np pos' : Pos} {x n fl : Str} {i c : Nat} {e a : Expr} {me ma : M D} {L : List Nat} {ms : MS} {b₀ : Stmt} {suite : List Stmt} {hds : List ExceptHandler} {hs : List Hdl}
theorem Good0.qvar (G : Good0 FS g k cl N sc X) (i : Nat) (h : okV N sc i x = true) : QE g X Wx (.Name x pos) (mV i) := by
 unfold okV at h
 simp only [Bool.and_eq_true,Bool.not_eq_true',decide_eq_true_eq] at h
 obtain ⟨⟨⟨h1,h2⟩,h3⟩,h4⟩ := h
 refine ⟨aC4 (by rw [G.eN]; exact h1) ?_ h3 h4⟩
 rw [G.sc]
 unfold Vis
 split at h2
 ·exact .inl ‹_›
 ·exact .inr (.inl ‹_›)
 ·exact .inr (.inr ‹_›)
 ·cases h2
theorem Good0.qtgt (G : Good0 FS g k cl N sc X) (i : Nat) (h : okL N sc i x = true) : QG g X (.Name x pos) (.nm i) := by
 unfold okL at h
 simp only [Bool.and_eq_true,decide_eq_true_eq] at h
 obtain ⟨h1,h2⟩ := h
 refine ⟨aBo (by rw [G.eN]; exact G.nd) (by rw [G.eN]; exact h1) ?_ ?_⟩
 ·rw [G.sc]
  unfold L2.Loc
  split at h2
  ·exact .inl ‹_›
  ·cases h2
 ·rw [G.sc]
  split at h2
  ·exact .inr ‹_›
  ·cases h2
theorem Good0.gl (G : Good0 FS g k cl N sc X) (h : okG sc x = true) : Gl X x /\ (x == ("__debug__" : Str)) = false /\ x ≠ "__name__" := by
 unfold okG at h
 simp only [Bool.and_eq_true,Bool.not_eq_true',decide_eq_false_iff_not] at h
 obtain ⟨⟨h1,h2⟩,h3⟩ := h
 refine ⟨?_,h2,h3⟩
 unfold Gl Env.kindOf
 rw [G.sc]
 split at h1
 ·rename_i e; exact e
 ·cases h1
theorem Good0.qf1 (G : Good0 FS g k cl N sc X) {bv : Value} {ff : D -> Hh -> R D} (h : okG sc x = true) (hm : X.mg x = none) (hv : bootBuiltins x = some bv) (hb : oP bv = true) (s : QC1 g X Wx bv ff) (hs : nSt a = true) (ha : QE g X Wx a ma) : QE g X Wx (.Call (.Name x p) [a] [] pos) (mF1 ff ma) := by
 obtain ⟨h1,h2,h3⟩ := G.gl h
 exact ⟨aEU s.p hb h1 hm hv h3 h2 (qQ hs) ha.p⟩
theorem Good0.creprX (G : Good0 FS g k cl N sc X) : QC1 g X Wx (.builtin "repr") iF := ⟨aAk G.K G.gd G.un⟩
theorem Good.nm (G : Good FS g k cl N sc fq X Wx) (h : okG sc x = true) {C : Addr} (hm : X.mg x = some (.ref C)) : Names X x (.ref C) := by
 obtain ⟨h1,h2,h3⟩ := G.gl h
 exact ⟨h1,h2, .inl hm⟩
end
end PV
end
section
set_option maxHeartbeats 4000000
namespace PV
open PySem PySem.Spec PyProof.Rows L2
section
variable {X : Cx}
def aIQ (K : PySem.W.Frag) : V -> List V -> Hp -> VK -> Prop := fun x xs H Q => ∃ (a : Addr) (y : V) (d : PyData) (ds : List PyData),x = V.ref a /\ xs = [y] /\ Dp K H (V.ref a) (.list ds) /\ Dp K H y d /\
 SeqAt.shaped (.list ds) = true /\ SeqAt.shaped d = true /\ Q (.int (ds.countP (fun z => PyData.eqv z d) : Nat)) H
theorem aCF (hu : X.A.units + 65 < cLine) : MtR X "list.count" (aIQ X.K) := by
 intro pins s σ H x xs v us Q I rx rxs h
 obtain ⟨a,y,d,ds,rfl,rfl,hl,hy,sl,sd,q⟩ := h
 cases rx
 cases rxs with
 | cons ry rt =>
  rename_i uy ut
  cases rt
  obtain ⟨bs,r1⟩ := Dp.reads I d y uy hy ry
  have hxs : PyData.canLayAll0 ds = true := SeqAt.canLay_of_shaped sl
  have hroom : X.A.units + 1 + min (PyData.depthAll ds) d.depth < cLine := room_in_shaped sd hu
  cases hl with
  | lst hs ha =>
   obtain ⟨its,rv,⟨⟨cls,dd,data,sls⟩,n,ho,hc,hdn,hdt⟩,hlen⟩ := I.list hs
   simp only at hc hdt
   subst hc hdt
   obtain ⟨as,h4⟩ := Dp.readsAll I ds _ its ha rv
   have hmap : its.map (SeqAt.readOf s.heap) = ds := SeqAt.readsAll_map ds its as hxs h4
   refine call_meets PySem.F.slot_list_count ⟨_,ho,rfl⟩ PySem.F.entry_list_count (PySem.F.args_list_count_2 _ _)
    (SeqAt.list_countAt a its.toArray n dd sls uy (fun u => PyData.eqv (SeqAt.readOf s.heap u) d)) ⟨ho,SeqAt.items_eqAt (vs := its.toArray) (show ReadsAll s.heap its.toArray.toList ds as from h4) r1 hxs (SeqAt.canLay_of_shaped sd) hroom, ?_⟩
   have ec : its.toArray.toList.countP (fun u => PyData.eqv (SeqAt.readOf s.heap u) d) = ds.countP (fun z => PyData.eqv z d) := by
    rw [<- hmap,List.countP_map]; rfl
   exact ⟨.int (ds.countP (fun z => PyData.eqv z d) : Nat),H,I.tok _,⟨s.toks,by rw [ec]⟩,q⟩
end
def oW : Op1 := fun x y h => match toP h bD x,toP h bD y with
 | some (.list ds),some d => if SeqAt.shaped (.list ds) && SeqAt.shaped d then .ok (.int (ds.countP (fun z => PyData.eqv z d) : Nat)) h else .bad
 | _,_ => .bad
section
variable {g : Gx} {X : Cx} {Wx : WX} {μ : List Addr} {h : Hh} {H : Hp}
theorem aE4 {K : PySem.W.Frag} {H : Hp} {v : V} {ds : List PyData} (d : Dp K H v (.list ds)) : ∃ a,v = .ref a := by
 cases d with
 | lst hs ha => exact ⟨_,rfl⟩
theorem aEg (hK : X.K = g.K) (hu : X.A.units + 65 < cLine) : SM1 g X Wx "list.count" oW := by
 intro x y h σ H μ vx vy Q rh qx qy po
 unfold oW at po
 split at po
 ·rename_i ds d e1 e2
  split at po
  ·rename_i hs
   simp only [Bool.and_eq_true] at hs
   have d1 := dY rh _ _ _ _ e1 qx
   have d2 := dY rh _ _ _ _ e2 qy
   obtain ⟨a,rfl⟩ := aE4 d1
   exact aBP (aCF hu) ⟨a,vy,d,ds,rfl,rfl,by rw [hK]; exact d1,by rw [hK]; exact d2,hs.1,hs.2,po.at rh _ rfl (.of rfl)⟩
  ·exact po.elim
 ·exact po.elim
variable {FS : FST} {k : Nat} {cl : Cll} {N : List Str} {sc : Scope} {fq : Str -> Bool}
theorem aDM : MtF "list" "count" "list.count" := ⟨PySem.F.plainAttrs_list,PySem.F.slot_list_count,PySem.F.type_list_count⟩
theorem Good.mcountW (G : Good FS g k cl N sc fq X Wx) : QM1 g X Wx "list.count" oW := ⟨aEg G.K G.un⟩
end
end PV
end
section
set_option maxHeartbeats 4000000
namespace PV
open PySem PySem.Spec PyProof.Rows L2
end PV
end
section
set_option maxHeartbeats 4000000
namespace PV
open PySem PySem.Spec PyProof.Rows L2
end PV
end
section
namespace PV
open PySem PySem.Spec PyProof.Rows L2
end PV
end
section
namespace PV
open PySem PySem.Spec PyProof.Rows L2
end PV
end
section
namespace PV
open PySem PySem.Spec PyProof.Rows L2
end PV
end
section
namespace PV
open PySem PySem.Spec PyProof.Rows L2
end PV
end
section
namespace PV
open PySem PySem.Spec PyProof.Rows L2
/-- what the making of a lambda does to the tracked things -/
def aBv (q : Str) (P : Addr) (H H1 : Hp) : Prop := H1 = H \/ ∃ ps ps' c1,H P = some (.tbl ps) /\ H c1 = none /\ H1 = L2.upd (L2.upd H P (.tbl ps')) c1 (LamX.CodeO c1 q)
theorem aBv.ext {q : Str} {P : Addr} {H H1 : Hp} {μ : List Addr} (e : aBv q P H H1) (t : Trk μ H) : Ext μ H μ H1 := by
 rcases e with rfl | ⟨ps,ps',c1,hP,n,rfl⟩
 ·exact Ext.refl t
 ·refine ⟨⟨[],by simp,by simp⟩,fun b o qb _ nt => ?_,fun x hx => ?_,fun b qs qb => ?_⟩
  ·rw [upd_ne (ne_of_none qb n),upd_ne (fun z => by rw [z,hP] at qb; cases qb; cases nt)]; exact qb
  ·obtain ⟨o,qx,m⟩ := t x hx
   rw [upd_ne (ne_of_none qx n),upd_ne (fun z => by rw [z,hP] at qx; cases qx; cases m),qx]; simp
  ·rw [upd_ne (ne_of_none qb n)]
   by_cases e : b = P
   ·rw [e,upd_same]; exact ⟨_,rfl⟩
   ·rw [upd_ne e]; exact ⟨_,qb⟩
theorem aBv.at {q : Str} {P a : Addr} {H H1 : Hp} {μ : List Addr} (e : aBv q P H H1) (t : Trk μ H) (ha : a ∈ μ) : H1 a = H a := by
 obtain ⟨o,qx,m⟩ := t a ha
 rcases e with rfl | ⟨ps,ps',c1,hP,n,rfl⟩
 ·rfl
 ·rw [upd_ne (ne_of_none qx n),upd_ne (fun z => by rw [z,hP] at qx; cases qx; cases m)]
end PV
end
section
namespace PV
open PySem PySem.Spec PyProof.Rows L2
end PV
end
section
namespace PV
open PySem PySem.Spec PyProof.Rows L2
end PV
end
section
namespace PV
open PySem PySem.Spec PyProof.Rows L2
end PV
end
section
namespace PV
open PySem PySem.Spec PyProof.Rows L2
end PV
end
section
namespace PV
open PySem PySem.Spec PyProof.Rows L2 HT
end PV
end
section
namespace PV
open PySem PySem.Spec PyProof.Rows L2
end PV
end
section
namespace PV
open PySem PySem.Spec PyProof.Rows L2
end PV
end
section
namespace L2
open PySem PySem.Spec PyProof.Rows
end L2
namespace PV
open PySem PySem.Spec PyProof.Rows L2
end PV
end
section
namespace PV
open PySem PySem.Spec PyProof.Rows L2
end PV
end
section
namespace PV
open PySem PySem.Spec PyProof.Rows L2
end PV
end
section
namespace PV
open PySem PySem.Spec PyProof.Rows L2
end PV
end
section
namespace PV
open PySem PySem.Spec PyProof.Rows L2
/-- a new list's object -/
def newL (vs : List Value) : Obj := { cls := .type "list",data := .seq vs.toArray }
end PV
end
section
namespace PV
open PySem PySem.Spec PyProof.Rows L2
end PV
end
section
namespace PV
open PySem PySem.Spec PyProof.Rows L2
end PV
end
section
namespace PV
open PySem PySem.Spec PyProof.Rows L2
section
open PySem.W
variable {prog : Program} {w : World} {A : Around} {E : Value -> Shared -> Prop} {s : Shared}
theorem same0 {nm : String} {a b : Addr} {oa ob : Obj} {es es' : Array DictEntry} {ep ep' : Nat} {Q : Bool -> Shared -> Prop} (ha : (a == sysModules) = false) (hb : (b == sysModules) = false)
  (hoa : s.heap.get? a = some oa) (hda : oa.data = .dict es ep) (hob : s.heap.get? b = some ob) (hdb : ob.data = .dict es' ep') (h0 : es'.size = 0) (h : Q (decide (es.size = 0)) s) :
  wpAny (model prog w) A (Builtin.Dict.samePairs nm a b) Q E s := by
 unfold Builtin.Dict.samePairs Builtin.Dict.showsAll
 rw [if_neg (show ¬ (a == sysModules) = true by rw [ha]; exact Bool.false_ne_true),if_neg (show ¬ (b == sysModules) = true by rw [hb]; exact Bool.false_ne_true)]
 refine wpAny_bind (wpAny_pure (wpAny_bind (wpAny_pure ?_)))
 refine wpAny_bind (wpAny_dictEntries hoa hda ?_)
 dsimp only
 refine wpAny_bind (wpAny_dictEntries hob hdb ?_)
 by_cases hsz : es.size = es'.size
 case neg =>
  rw [if_pos (by simpa using hsz)]
  have e : decide (es.size = 0) = false := decide_eq_false (by omega)
  rw [e] at h
  exact wpAny_bind (wpAny_rule (wpAny_pure h))
 case pos =>
  have e0 : es.size = 0 := by omega
  have e : decide (es.size = 0) = true := by simp [e0]
  rw [e] at h
  rw [if_neg (by rw [hsz]; simp)]
  refine wpAny_bind (wpAny_dictEpoch hoa hda ?_)
  refine wpAny_bind ?_
  rw [Std.Legacy.Range.forIn_eq_forIn_range']
  simp only [Std.Legacy.Range.size,Nat.sub_zero,Nat.add_sub_cancel,Nat.div_one]
  rw [e0,List.range'_zero,List.forIn_nil]
  refine wpAny_pure ?_
  exact wpAny_pure h
end
end PV
end
section
namespace PV
open PySem PySem.Spec PyProof.Rows L2
end PV
end
section
namespace PV
open PySem PySem.Spec PyProof.Rows L2
def uS (me mo mi mo2 mi2 : M D) : MS := fun σ h => (me σ h).then σ fun w h1 => match w with
 | .tup [w1,w2] => (mo σ h1).then σ fun x h2 => (mi σ h2).then σ fun y h3 => match kG x y w1 h3 with
  | some h4 => (mo2 σ h4).then σ fun x2 h5 => (mi2 σ h5).then σ fun y2 h6 => match kG x2 y2 w2 h6 with
   | some h7 => .nx σ h7
   | none => .bad
  | none => .bad
 | _ => .bad
section
variable {g : Gx} {X : Cx} {Wx : WX} {e o i o2 i2 : Expr} {me mo mi mo2 mi2 : M D} {pos tp tp2 p : Pos} {n : Nat}
theorem aHI (hK : X.K = g.K) (hc : X.calm = true) (hu : X.A.units + 1 < cLine) (he : SE g X Wx e me) (ho : SE g X Wx o mo) (hi : SE g X Wx i mi) (ho2 : SE g X Wx o2 mo2) (hi2 : SE g X Wx i2 mi2) (h : nCo e = true) (h2 : nSl i = true) (h3 : nSl i2 = true)
  (hw : swappedStores [.Tuple [.Subscript o i tp, .Subscript o2 i2 tp2] n p] e X.env = pure none) :
  SS g X Wx (.Assign [.Tuple [.Subscript o i tp, .Subscript o2 i2 tp2] n p] e pos) (uS me mo mi mo2 mi2) := by
 intro σw h σ H μ E rs rh po
 refine oQ (ps_asg aX (pg_tup hc (pgs_cons (pg_sub aX aX wF (yM h2)) (pgs_cons (pg_sub aX aX wF (yM h3)) pgs_nil (pT rfl)) (pT rfl)) (n := 2) (aGd rfl) (aGc rfl)) (swS (by assumption)) hw (pT rfl)) ?_
 refine he σw h σ H μ _ rs rh ((PoS.then rs rh po).imp fun w h1 μ1 H1 x1 r1 p1 vw qw fw => ?_)
 have rs1 := rs.ext rh.trk x1
 have p1 := p1 μ1 H1 x1
 split at p1
 ·rename_i w1 w2
  obtain ⟨a,vs,rfl,s1,z⟩ := fO qw rfl
  obtain ⟨v1,rr,rfl,n1,q1,z⟩ := z
  obtain ⟨v2,rr,rfl,n2,q2,z⟩ := z
  rw [show rr = [] from z] at s1
  refine ⟨a,[v1,v2],rfl,by rw [hK]; exact s1,rfl,v1,_,rfl, ?_⟩
  refine ho σw h1 σ H1 μ1 _ rs1 r1 ((PoS.then rs1 r1 p1).imp fun x h2 μ2 H2 x2 r2 p2 vx qx fx => ?_)
  have rs2 := rs1.ext r1.trk x2
  refine hi σw h2 σ H2 μ2 _ rs2 r2 ((PoS.then rs2 r2 (p2 μ2 H2 x2)).imp fun y h3 μ3 H3 x3 r3 p3 vy qy fy => ?_)
  have rs3 := rs2.ext r2.trk x3
  have p4 := p3 μ3 H3 x3
  split at p4
  ·rename_i h4 e4
   refine wV hu r3 (qx.ext r2.trk x3) qy ((q1.ext r1.trk x2).ext r2.trk x3) e4 fun H4 x4 r4 => ?_
   have rs4 := rs3.ext r3.trk x4
   refine ⟨v2,_,rfl, ?_⟩
   refine ho2 σw h4 σ H4 μ3 _ rs4 r4 ((PoS.then rs4 r4 (p4.ext x4)).imp fun x' h5 μ5 H5 x5 r5 p5 vx' qx' fx' => ?_)
   have rs5 := rs4.ext r4.trk x5
   refine hi2 σw h5 σ H5 μ5 _ rs5 r5 ((PoS.then rs5 r5 (p5 μ5 H5 x5)).imp fun y' h6 μ6 H6 x6 r6 p6 vy' qy' fy' => ?_)
   have rs6 := rs5.ext r5.trk x6
   have p7 := p6 μ6 H6 x6
   split at p7
   ·rename_i h7 e7
    refine wV hu r6 (qx'.ext r5.trk x6) qy' (((((q2.ext r1.trk x2).ext r2.trk x3).ext r3.trk x4).ext r4.trk x5).ext r5.trk x6) e7 fun H7 x7 r7 => ?_
    exact ⟨rfl,p7 μ6 H7 σ x7 r7 (rs6.ext r6.trk x7)⟩
   ·exact p7.elim
  ·exact p4.elim
 ·exact p1.elim
variable {FS : FST} {k : Nat} {cl : Cll} {N : List Str} {sc : Scope} {fq : Str -> Bool}
theorem Good.qswp (G : Good FS g k cl N sc fq X Wx) (he : QE g X Wx e me) (ho : QE g X Wx o mo) (hi : QE g X Wx i mi) (ho2 : QE g X Wx o2 mo2) (hi2 : QE g X Wx i2 mi2) (h : nCo e = true) (h2 : nSl i = true) (h3 : nSl i2 = true) (hw : swappedStores [.Tuple [.Subscript o i tp, .Subscript o2 i2 tp2] n p] e (env0 sc) = pure none) : QS g X Wx (.Assign [.Tuple [.Subscript o i tp, .Subscript o2 i2 tp2] n p] e pos) (uS me mo mi mo2 mi2) :=
 ⟨aHI G.K G.calm G.u1 he.p ho.p hi.p ho2.p hi2.p h h2 h3 (G.sws hw)⟩
end
end PV
end
section
namespace PV
open PySem PySem.Spec PyProof.Rows L2
section
variable {σ : Sg} {h h1 : Hh} {a b : MS} {m n : M D} {c d : M Bool} {ms : List (M D)} {mA : M (List D)} {t : Tg} {f : D -> D -> Hh -> R D} {f1 : D -> Hh -> R D} {i : Nat} {w x y : D} {cl : Cll}
@[simp] theorem aKp : aS a b σ h = (a σ h).seq b := id rfl
@[simp] theorem aKo : hZ σ h = .nx σ h := id rfl
@[simp] theorem aDN : bX m σ h = (m σ h).then σ fun w h1 => .ret w h1 := id rfl
@[simp] theorem aJv : cQ m σ h = (m σ h).then σ fun _ h1 => .nx σ h1 := id rfl
@[simp] theorem aLu : fH c a b σ h = (c σ h).then σ fun x h1 => if x = true then a σ h1 else b σ h1 := id rfl
@[simp] theorem aJt : aR (.nm i) m σ h = (m σ h).then σ fun w h1 => .nx (σ.set i (some (aQ w h1).1)) (aQ w h1).2 := id rfl
@[simp] theorem aL1 : mOp f m n σ h = (m σ h).bind fun x h1 => (n σ h1).bind fun y h2 => f x y h2 := id rfl
@[simp] theorem aGE : mF1 f1 m σ h = (m σ h).bind f1 := id rfl
@[simp] theorem aMG : mC w σ h = .ok w h := id rfl
theorem sP : mV i σ h = match σ[i]? with
 | some (some w) => .ok w h
 | _ => .bad := rfl
@[simp] theorem aNn {l : Sg} : mV 0 (some w :: l) h = .ok w h := id rfl
@[simp] theorem aNx {l : Sg} {o : Option D} : mV (i + 1) (o :: l) h = mV i l h := id rfl
@[simp] theorem aNo {l : Sg} {o0 : Option D} : mV 1 (o0 :: some w :: l) h = .ok w h := id rfl
@[simp] theorem aNp {l : Sg} {o0 o1 : Option D} : mV 2 (o0 :: o1 :: some w :: l) h = .ok w h := id rfl
@[simp] theorem aNq {l : Sg} {o0 o1 o2 : Option D} : mV 3 (o0 :: o1 :: o2 :: some w :: l) h = .ok w h := id rfl
@[simp] theorem aNr {l : Sg} {o0 o1 o2 o3 : Option D} : mV 4 (o0 :: o1 :: o2 :: o3 :: some w :: l) h = .ok w h := id rfl
@[simp] theorem aNs {l : Sg} {o0 o1 o2 o3 o4 : Option D} : mV 5 (o0 :: o1 :: o2 :: o3 :: o4 :: some w :: l) h = .ok w h := id rfl
@[simp] theorem aNt {l : Sg} {o0 o1 o2 o3 o4 o5 : Option D} : mV 6 (o0 :: o1 :: o2 :: o3 :: o4 :: o5 :: some w :: l) h = .ok w h := id rfl
@[simp] theorem aNu {l : Sg} {o0 o1 o2 o3 o4 o5 o6 : Option D} : mV 7 (o0 :: o1 :: o2 :: o3 :: o4 :: o5 :: o6 :: some w :: l) h = .ok w h := id rfl
@[simp] theorem aNv {l : Sg} {o0 o1 o2 o3 o4 o5 o6 o7 : Option D} : mV 8 (o0 :: o1 :: o2 :: o3 :: o4 :: o5 :: o6 :: o7 :: some w :: l) h = .ok w h := id rfl
@[simp] theorem aNw {l : Sg} {o0 o1 o2 o3 o4 o5 o6 o7 o8 : Option D} : mV 9 (o0 :: o1 :: o2 :: o3 :: o4 :: o5 :: o6 :: o7 :: o8 :: some w :: l) h = .ok w h := id rfl
@[simp] theorem aMH {l : Sg} {o0 o1 o2 o3 o4 o5 o6 o7 o8 o9 : Option D} : mV 10 (o0 :: o1 :: o2 :: o3 :: o4 :: o5 :: o6 :: o7 :: o8 :: o9 :: some w :: l) h = .ok w h := id rfl
@[simp] theorem aMI {l : Sg} {o0 o1 o2 o3 o4 o5 o6 o7 o8 o9 o10 : Option D} : mV 11 (o0 :: o1 :: o2 :: o3 :: o4 :: o5 :: o6 :: o7 :: o8 :: o9 :: o10 :: some w :: l) h = .ok w h := id rfl
@[simp] theorem aMJ {l : Sg} {o0 o1 o2 o3 o4 o5 o6 o7 o8 o9 o10 o11 : Option D} : mV 12 (o0 :: o1 :: o2 :: o3 :: o4 :: o5 :: o6 :: o7 :: o8 :: o9 :: o10 :: o11 :: some w :: l) h = .ok w h := id rfl
@[simp] theorem aLr : bF mA σ h = (mA σ h).bind fun ws h1 => if ws.length <= sizeLine then .ok (.tup ws) h1 else .bad := id rfl
@[simp] theorem aLo : fU mA σ h = (mA σ h).bind fun ws h1 => if ws.length <= sizeLine then .ok (.tl ws) h1 else .bad := id rfl
@[simp] theorem aJr : aB [] σ h = .ok [] h := id rfl
@[simp] theorem aIt : aB (m :: ms) σ h = (m σ h).bind fun w h1 => (aB ms σ (aQ w h1).2).bind fun ws h2 => .ok ((aQ w h1).1 :: ws) h2 := id rfl
@[simp] theorem aMF : mB m σ h = (m σ h).bind fun x h1 => match x with
 | .bl b => .ok b h1
 | _ => .bad := id rfl
@[simp] theorem aLX : mIf c m n σ h = (c σ h).bind fun x h1 => if x = true then m σ h1 else n σ h1 := id rfl
@[simp] theorem aKe : yF c d σ h = (c σ h).bind fun x h1 => if x = true then d σ h1 else .ok false h1 := id rfl
@[simp] theorem aLp : hE c d σ h = (c σ h).bind fun x h1 => if x = true then .ok true h1 else d σ h1 := id rfl
@[simp] theorem aKj : fL c σ h = (c σ h).bind fun x h1 => .ok (!x) h1 := id rfl
@[simp] theorem aKg {f : Nat} : bA cl f mA σ h = gcR h ((mA σ h).bind fun ws h1 => cl f ws h1) := id rfl
@[simp] theorem aJs {f : Nat} {perm : List Nat} : nF cl f mA perm σ h = gcR h ((mA σ h).bind fun ws h1 => match dR perm ws with
 | some ws => cl f ws h1
 | none => .bad) := id rfl
@[simp] theorem aL3 : mSt m σ h = (m σ h).bind fun w h1 => .ok (aQ w h1).1 (aQ w h1).2 := id rfl
@[simp] theorem aKq {me mo mi : M D} : iP me mo mi σ h = (mSt me σ h).then σ fun w h1 => (mo σ h1).then σ fun x h2 => (mi σ h2).then σ fun y h3 => match kG x y w h3 with
 | some h4 => .nx σ h4
 | none => .bad := id rfl
@[simp] theorem aL2 {lo hi : Option (M D)} : mSl m lo hi σ h = (m σ h).bind fun x h1 => (nY lo σ h1).bind fun l h2 => (nY hi σ h2).bind fun u h3 => slW x l u h3 := id rfl
@[simp] theorem aIx : nY none σ h = .ok none h := id rfl
@[simp] theorem aIy : nY (some m) σ h = (m σ h).bind fun x h1 => match x with
  | .int i => .ok (some i) h1
  | _ => .bad := id rfl
@[simp] theorem aLx : gK (.nx σ h) = .ok .non h := id rfl
@[simp] theorem aKz : gK (.ret w h) = .ok w h := rfl
@[simp] theorem aJH {i : Int} : aQ (.int i) h = (.int i,h) := id rfl
@[simp] theorem aK2 {i : Bool} : aQ (.bl i) h = (.bl i,h) := id rfl
@[simp] theorem aJK {i : Str} : aQ (.str i) h = (.str i,h) := id rfl
@[simp] theorem aJL {ws : List D} : aQ (.tup ws) h = (.tup ws,h) := id rfl
@[simp] theorem aK4 {ws : List D} : aQ (.kt ws) h = (.kt ws,h) := id rfl
@[simp] theorem aK3 {ws : List D} : aQ (.fl ws) h = (.fl ws,h) := id rfl
@[simp] theorem aJJ : aQ (.ref i) h = (.ref i,h) := id rfl
@[simp] theorem aJI : aQ .non h = (.non,h) := id rfl
@[simp] theorem aK6 {ws : List D} : aQ (.tl ws) h = (.ref h.length,h ++ [.lst ws]) := rfl
@[simp] theorem aLN {i j : Int} : cM (.int i) (.int j) h = .ok (.int (i + j)) h := id rfl
@[simp] theorem aMv {i j : Int} : aLb (.int i) (.int j) h = .ok (.int (i - j)) h := id rfl
@[simp] theorem aL7 {i j : Int} : iI (.int i) (.int j) h = if CMul i j then .ok (.int (i * j)) h else .bad := id rfl
@[simp] theorem aLg {i j : Int} : sG (.int i) (.int j) h = if 0 < j /\ j < 1073741824 then .ok (.int (i / j)) h else .bad := id rfl
@[simp] theorem aL6 {i j : Int} : kQ (.int i) (.int j) h = if 0 < j then .ok (.int (i % j)) h else .bad := id rfl
@[simp] theorem aME {i j : Int} : ltW (.int i) (.int j) h = .ok (.bl (decide (i < j))) h := id rfl
@[simp] theorem aMD {i j : Int} : leW (.int i) (.int j) h = .ok (.bl (decide (i <= j))) h := id rfl
@[simp] theorem aMz {i j : Int} : gtW (.int i) (.int j) h = .ok (.bl (decide (j < i))) h := id rfl
@[simp] theorem aMy {i j : Int} : geW (.int i) (.int j) h = .ok (.bl (decide (j <= i))) h := id rfl
@[simp] theorem aF7 {i : Int} : tL (.int i) h = .ok (.int (if i < 0 then -i else i)) h := id rfl
@[simp] theorem aL8 {i : Int} : aKt (.int i) h = .ok (.int (-i)) h := id rfl
@[simp] theorem aLP {k : Bool} : rE (.bl k) h = .ok (.int (if k then 1 else 0)) h := id rfl
@[simp] theorem aLQ {k : Int} : rE (.int k) h = .ok (.int k) h := id rfl
@[simp] theorem aJ9 {ws : List D} : cG (.tup ws) h = .ok (.int ws.length) h := id rfl
@[simp] theorem aLl {ws : List D} : cG (.kt ws) h = .ok (.int ws.length) h := id rfl
@[simp] theorem aLm {ws : List D} : cG (.tl ws) h = .ok (.int ws.length) h := id rfl
@[simp] theorem aLk {ws : List D} : cG (.fl ws) h = .ok (.int ws.length) h := id rfl
theorem tU {ws : List D} (e : h[i]? = some (.lst ws)) : cG (.ref i) h = .ok (.int ws.length) h := by simp [cG,asL,e]
@[simp] theorem aJP {ws : List D} : fF (.tl ws) h = .ok (.tup ws) h := id rfl
@[simp] theorem aJO {ws : List D} : fF (.fl ws) h = .ok (.tup ws) h := id rfl
@[simp] theorem aJn {ws : List D} : fF (.tup ws) h = .ok (.tup ws) h := id rfl
@[simp] theorem aL4 {i j : Int} : tX (.int i) (.int j) h = .ok (.int (if j > i then j else i)) h := id rfl
@[simp] theorem aL5 {i j : Int} : tZ (.int i) (.int j) h = .ok (.int (if j < i then j else i)) h := rfl
@[simp] theorem aLR {ws : List D} : ixW (.tup (w :: ws)) (.int 0) h = .ok w h := by simp [ixW,asL,asT,atI,ixN]
@[simp] theorem aLS {ws : List D} : ixW (.tup (x :: w :: ws)) (.int 1) h = .ok w h := by
 have : (1 : Int) < (ws.length : Int) + 1 + 1 := by omega
 simp [ixW,asL,asT,atI,ixN,this]
@[simp] theorem aLT {ws : List D} : ixW (.tup (x :: y :: w :: ws)) (.int 2) h = .ok w h := by
 have : (2 : Int) < (ws.length : Int) + 1 + 1 + 1 := by omega
 simp [ixW,asL,asT,atI,ixN,this]
theorem vQ {α : Type} {ws : List α} {n : Nat} : atI ws (n : Int) = ws[n]? := by
 unfold atI ixN
 by_cases hn : n < ws.length
 ·simp [hn]
 ·simp [hn,List.getElem?_eq_none (Nat.le_of_not_lt hn)]
theorem aGy {ws : List D} {n : Nat} (e : ws[n]? = some w) : ixW (.fl ws) (.int (n : Int)) h = .ok w h := by simp [ixW,asL,vQ,e]
theorem aGA {ws : List D} {n : Nat} (e : h[i]? = some (.lst ws)) (e2 : ws[n]? = some w) : ixW (.ref i) (.int (n : Int)) h = .ok w h := by simp [ixW,asL,e,vQ,e2]
end
theorem jL {T : Tab} {k f : Nat} {ws : List D} {h : Hh} {d : Fd} (e : T f = some d) : aW T (k + 1) f ws h = if ws.length = d.np then gK (d.body (aW T k) (bH d.nN ws) h) else .bad := by
 simp only [aW,e,aAf]
theorem aGt {h h' : Hh} {w : D} (hl : h'.length = h.length) (lim : w.lim h.length = true) : gc h w h' = .ok w h' := by
 unfold gc
 by_cases hg : iH h.length h h' = true
 ·rw [if_pos hg,if_pos lim,List.take_of_length_le (by omega)]
 ·rw [if_neg hg]
@[simp] theorem aA3 {h h' : Hh} {w : D} (hl : h'.length = h.length) (lim : w.lim h.length = true) : gcR h (.ok w h') = .ok w h' := aGt hl lim
theorem sK {n : Nat} : ∀ {h h' : Hh},h.length <= h'.length -> (∀ (j : Nat) (c : Cl),j < h.length -> h'[j]? = some c -> h[j]? = some c \/ c.lim n = true) -> iH n h h' = true
 | [],h',_,_ => by cases h' <;> rfl
 | c :: h,[],hl,_ => by simp at hl
 | c :: h,d :: h',hl,hj => by
  unfold iH
  rw [Bool.and_eq_true]
  refine ⟨?_,sK (by simpa using hl) fun j e hjl he => ?_⟩
  ·rcases hj 0 d (by simp) rfl with z | z
   ·have : c = d := by simpa using z
    simp [this]
   ·simp [z]
  ·have := hj (j + 1) e (by simpa using hjl) (by simpa using he)
   simpa using this
/-- the new cells go -/
theorem aA2 {h h' : Hh} {w : D} (lim : w.lim h.length = true) (hl : h.length <= h'.length) (hj : ∀ (j : Nat) (c : Cl),j < h.length -> h'[j]? = some c -> h[j]? = some c \/ c.lim h.length = true) : gcR h (.ok w h') = .ok w (h'.take h.length) := by
 show gc h w h' = _
 unfold gc
 rw [if_pos (sK hl hj),if_pos lim]
/-- a fresh list comes back as itself -/
theorem aGr {h h' : Hh} {ws : List D} (lim : D.lims h.length ws = true) (hl : h'.length = h.length) : gcR h (.ok (.tl ws) h') = .ok (.tl ws) h' := aA3 hl lim
@[simp] theorem aFn {n : Nat} {i : Int} : D.lim n (.int i) = true := by simp only [D.lim,D.lims]
@[simp] theorem aLU {n : Nat} {i : Bool} : D.lim n (.bl i) = true := by simp only [D.lim,D.lims]
@[simp] theorem aBb {n : Nat} {i : Str} : D.lim n (.str i) = true := by simp only [D.lim,D.lims]
@[simp] theorem aLn {n : Nat} : D.lim n .non = true := by simp only [D.lim,D.lims]
@[simp] theorem wB {n : Nat} {ws : List D} : D.lim n (.tup ws) = D.lims n ws := by simp only [D.lim,D.lims]
@[simp] theorem aLV {n : Nat} {ws : List D} : D.lim n (.tl ws) = D.lims n ws := by simp only [D.lim,D.lims]
@[simp] theorem aFo {n i : Nat} : D.lim n (.ref i) = decide (i < n) := by simp only [D.lim,D.lims]
@[simp] theorem zI {n : Nat} : D.lims n [] = true := by simp only [D.lim,D.lims]
@[simp] theorem nX {n : Nat} {w : D} {ws : List D} : D.lims n (w :: ws) = (D.lim n w && D.lims n ws) := by simp only [D.lim,D.lims]
theorem qC {n : Nat} : ∀ {ws : List D},(∀ w ∈ ws,D.lim n w = true) -> D.lims n ws = true
 | [],_ => rfl
 | w :: ws,h => by rw [nX,h w (by simp),qC fun x hx => h x (by simp [hx])]; rfl
@[simp] theorem aKd {n : Nat} {xs : List Str} : D.lims n (xs.map D.str) = true := qC fun w hw => by
 obtain ⟨x,_,rfl⟩ := List.mem_map.mp hw; rfl
@[simp] theorem aKc {n : Nat} {xs : List Int} : D.lims n (xs.map D.int) = true := qC fun w hw => by
 obtain ⟨x,_,rfl⟩ := List.mem_map.mp hw; rfl
@[simp] theorem aKb {n : Nat} {ws : List D} : Cl.lim n (.lst ws) = D.lims n ws := by simp only [Cl.lim]
end PV
end
section
namespace PV
open PySem PySem.Spec PyProof.Rows L2
theorem aH {α : Type} {l : List α} {i : Nat} {a : α} (e : l[i]? = some a) : i < l.length := by
 rcases Nat.lt_or_ge i l.length with z | z
 ·exact z
 ·rw [List.getElem?_eq_none z] at e; cases e
theorem aDp {α : Type} {l : List α} {i : Nat} {a : α} (e : l[i]? = some a) : l.drop i = a :: l.drop (i + 1) := by
 have hi := aH e
 rw [List.drop_eq_getElem_cons hi]
 congr 1
 rw [List.getElem?_eq_getElem hi] at e
 exact Option.some.inj e
section
variable {src : Src} {t : Tg} {σ σ0 : Sg} {h : Hh} {ws : List D}
theorem zG {α : Type} {body : α -> Sg -> Hh -> R α} (step : α -> D -> α) (P : α -> Nat -> Prop) (hs : ∀ i,src i h = some ws[i]?)
  (hb : ∀ i w acc,ws[i]? = some w -> P acc i -> P (step acc w) (i + 1) /\ ∃ σ1,t.set w σ0 h = some σ1 /\ body acc σ1 h = .ok (step acc w) h) :
  ∀ (n i : Nat) (acc : α),P acc i -> i <= ws.length -> ws.length < i + n -> lcL src t body σ0 n i acc h = .ok ((ws.drop i).foldl step acc) h
 | 0,i,acc,hp,hle,hl => by omega
 | n + 1,i,acc,hp,hle,hl => by
  simp only [lcL,hs]
  cases e : ws[i]? with
  | none =>
   simp only
   rw [List.drop_eq_nil_of_le (List.getElem?_eq_none_iff.mp e)]
   rfl
  | some w =>
   obtain ⟨p1,σ1,e1,e2⟩ := hb i w acc e hp
   simp only [e1,e2,R.bind_ok]
   have := aH e
   rw [zG step P hs hb n (i + 1) (step acc w) p1 (by omega) (by omega),aDp e]
   rfl
end
def oF {α β : Type} (g : α -> Option β) (acc : List β) (w : α) : List β := match g w with
 | some y => acc ++ [y]
 | none => acc
theorem nT {α β : Type} (g : α -> Option β) : ∀ (ws : List α) (acc : List β),ws.foldl (oF g) acc = acc ++ ws.filterMap g
 | [],acc => by simp
 | w :: ws,acc => by
  rw [List.foldl_cons,nT g ws]
  cases e : g w with
  | none => simp [oF,e]
  | some y => simp [oF,e]
/-- [e for t in ws if c],where nothing is written -/
theorem aFm {mi : M Src} {t : Tg} {mt : M Bool} {me : M D} {vs : List Nat} {σ : Sg} {h h1 : Hh} {src : Src} {ws : List D} (g : D -> Option D) (hi : mi σ h = .ok src h1) (hs : ∀ i,src i h1 = some ws[i]?) (hl : ws.length < sizeLine)
  (hb : ∀ w ∈ ws,∃ σ1,t.set w (dM σ vs) h1 = some σ1 /\ ((∃ y,g w = some y /\ mt σ1 h1 = .ok true h1 /\ me σ1 h1 = .ok y h1 /\ y.isTl = false) \/ (g w = none /\ mt σ1 h1 = .ok false h1))) :
  mLc mi t mt me vs σ h = .ok (.tl (ws.filterMap g)) h1 := by
 unfold mLc
 rw [hi,R.bind_ok]
 have key := zG (src := src) (t := t) (σ0 := dM σ vs) (h := h1) (ws := ws) (body := hV mt me) (oF g) (fun acc i => acc.length <= i) hs (fun i w acc e hp => by
   obtain ⟨σ1,e1,z⟩ := hb w (List.mem_of_getElem? e)
   have hi := aH e
   rcases z with ⟨y,eg,et,ee,nt⟩ | ⟨eg,et⟩
   ·refine ⟨by simp [oF,eg]; omega,σ1,e1, ?_⟩
    have ha : acc.length < sizeLine := by omega
    simp only [hV,et,noX,R.bind_ok,if_true,ee,qR nt,ha,oF,eg]
   ·refine ⟨by simp [oF,eg]; omega,σ1,e1, ?_⟩
    simp [hV,et,noX,oF,eg]) fK 0 [] (by simp) (by omega) (by unfold fK; have : sizeLine = 16777216 := rfl; omega)
 rw [key,R.bind_ok,List.drop_zero,nT]
 rfl
/-- the same without a test -/
theorem aGC {mi : M Src} {t : Tg} {me : M D} {vs : List Nat} {σ : Sg} {h h1 : Hh} {src : Src} {ws : List D} (g : D -> D) (hi : mi σ h = .ok src h1) (hs : ∀ i,src i h1 = some ws[i]?) (hl : ws.length < sizeLine)
  (hb : ∀ w ∈ ws,∃ σ1,t.set w (dM σ vs) h1 = some σ1 /\ me σ1 h1 = .ok (g w) h1 /\ (g w).isTl = false) : mLc mi t (fun _ h => .ok true h) me vs σ h = .ok (.tl (ws.map g)) h1 := by
 have := aFm (mt := fun _ h => .ok true h) (me := me) (fun w => some (g w)) hi hs hl fun w hw => by
  obtain ⟨σ1,e1,e2,e3⟩ := hb w hw
  exact ⟨σ1,e1, .inl ⟨g w,rfl,rfl,e2,e3⟩⟩
 rw [this]
 simp
section
variable {h : Hh} {ws us : List D} {i : Nat}
theorem sY {lo : Int} {n : Nat} (j : Nat) : qP lo n j h = some ((List.range n).map fun (i : Nat) => D.int (lo + (i : Nat)))[j]? := by
 unfold qP
 by_cases hj : j < n
 ·simp [hj]
 ·simp [hj]
end
end PV
end
section
namespace PV
open PySem PySem.Spec PyProof.Rows L2
theorem dW {α β γ : Type} {f : α -> Option β} {g : γ -> α} {k : γ -> β} : ∀ {xs : List γ},(∀ x ∈ xs,f (g x) = some (k x)) -> aJ f (xs.map g) = some (xs.map k)
 | [],_ => rfl
 | x :: xs,h => by
  simp only [List.map_cons,aJ]
  rw [h x (by simp),dW fun y hy => h y (by simp [hy])]
@[simp] theorem aLE {h : Hh} {n : Nat} {i : Int} : toP h (n + 1) (.int i) = some (.int i) := id rfl
@[simp] theorem aLG {h : Hh} {n : Nat} {i : Str} : toP h (n + 1) (.str i) = some (.str i) := id rfl
@[simp] theorem aMw {h : Hh} {n : Nat} {i : Bool} : toP h (n + 1) (.bl i) = some (.bool i) := id rfl
@[simp] theorem aLF {h : Hh} {n : Nat} : toP h (n + 1) .non = some .none := id rfl
@[simp] theorem aLH {h : Hh} {n : Nat} {ws : List D} : toP h (n + 1) (.tup ws) = (aJ (toP h n) ws).map .tuple := id rfl
@[simp] theorem aMx {h : Hh} {n : Nat} {ws : List D} : toP h (n + 1) (.tl ws) = (aJ (toP h n) ws).map .list := id rfl
@[simp] theorem aKl {α β : Type} {f : α -> Option β} : aJ f [] = some [] := id rfl
theorem aCC {α β : Type} {f : α -> Option β} {x : α} {xs : List α} {y : β} {ys : List β} (h1 : f x = some y) (h2 : aJ f xs = some ys) : aJ f (x :: xs) = some (y :: ys) := by simp only [aJ,h1,h2]
theorem eQ : ∀ {ds : List PyData},(∀ d ∈ ds,d.canLay0 = true) -> PyData.canLayAll0 ds = true
 | [],_ => by simp [PyData.canLayAll0]
 | d :: ds,h => by
  simp only [PyData.canLayAll0,Bool.and_eq_true]
  exact ⟨h d (by simp),eQ fun x hx => h x (by simp [hx])⟩
theorem gC {n : Nat} : ∀ {ds : List PyData},(∀ d ∈ ds,d.depth <= n) -> PyData.depthAll ds <= n
 | [],_ => by simp [PyData.depthAll]
 | d :: ds,h => by
  simp only [PyData.depthAll]
  have h1 := h d (by simp)
  have h2 := gC fun x hx => h x (List.mem_cons_of_mem _ hx)
  omega
theorem aB4 {ds : List PyData} {n : Nat} (hn : n < 64) (h : ∀ d ∈ ds,d.canLay0 = true) (hd : ∀ d ∈ ds,d.depth <= n) : SeqAt.shaped (.tuple ds) = true := by
 have := gC hd
 simp [SeqAt.shaped,PyData.canLay0,eQ h,PyData.depth]
 omega
theorem vG {x : Str} (h : PyData.strOk x = true) : SeqAt.shaped (.str x) = true := by simp [SeqAt.shaped,PyData.canLay0,h,PyData.depth]
theorem aDB {h : Hh} {x : Str} {ss : List Str} (hx : PyData.strOk x = true) (hs : ∀ s ∈ ss,PyData.strOk s = true) : inW (.str x) (.tup (ss.map .str)) h = .ok (.bl (decide (x ∈ ss))) h := by
 have e1 : toP h bD (.tup (ss.map .str)) = some (.tuple (ss.map .str)) := by
  show (aJ (toP h 65) (ss.map .str)).map PyData.tuple = _
  rw [dW (f := toP h 65) (g := D.str) (k := PyData.str) fun x _ => rfl]
  rfl
 have s1 : SeqAt.shaped (.tuple (ss.map .str)) = true := aB4 (n := 0) (by omega) (fun d hd => by
  obtain ⟨s,hs',rfl⟩ := List.mem_map.mp hd
  simp [PyData.canLay0,hs s hs']) (fun d hd => by
  obtain ⟨s,hs',rfl⟩ := List.mem_map.mp hd
  simp [PyData.depth])
 have e2 : toP h bD (.str x) = some (.str x) := rfl
 simp only [inW,inO,e1,e2,s1,vG hx,Bool.and_self,if_true]
 congr 3
 rw [Bool.eq_iff_iff]
 simp only [List.any_map,List.any_eq_true,Function.comp,decide_eq_true_eq,PyData.eqv,beq_iff_eq]
 constructor
 ·rintro ⟨s,hs,rfl⟩; exact hs
 ·exact fun hm => ⟨x,hm,rfl⟩
end PV
end
section
namespace PV
open PySem PySem.Spec PyProof.Rows L2
end PV
end
section
namespace PV
open PySem PySem.Spec PyProof.Rows L2
theorem aA9 {α : Type} {src : Src} {t : Tg} {body : α -> Sg -> Hh -> R α} {σ0 : Sg} {ws : List D} (I : Nat -> α -> Hh -> Prop) (hs : ∀ i acc h,I i acc h -> src i h = some ws[i]?)
  (step : ∀ i w acc h,I i acc h -> ws[i]? = some w -> ∃ σ1 acc' h',t.set w σ0 h = some σ1 /\ body acc σ1 h = .ok acc' h' /\ I (i + 1) acc' h') :
  ∀ (n i : Nat) (acc : α) (h : Hh),I i acc h -> i <= ws.length -> ws.length < i + n -> ∃ acc' h',lcL src t body σ0 n i acc h = .ok acc' h' /\ I ws.length acc' h'
 | 0,i,acc,h,hi,hle,hl => by omega
 | n + 1,i,acc,h,hi,hle,hl => by
  simp only [lcL,hs i acc h hi]
  cases e : ws[i]? with
  | none =>
   have := List.getElem?_eq_none_iff.mp e
   have hi' : i = ws.length := by omega
   subst hi'
   exact ⟨acc,h,rfl,hi⟩
  | some w =>
   obtain ⟨σ1,acc',h',e1,e2,hi2⟩ := step i w acc h hi e
   have := aH e
   obtain ⟨acc3,h3,e3,hi3⟩ := aA9 I hs step n (i + 1) acc' h' hi2 (by omega) (by omega)
   refine ⟨acc3,h3, ?_,hi3⟩
   simp only [e1,e2,R.bind_ok]; exact e3
/-- [e for t in ws],each turn under I -/
theorem aCz {mi : M Src} {t : Tg} {me : M D} {vs : List Nat} {σ : Sg} {h h1 : Hh} {src : Src} {ws : List D} (I : Nat -> List D -> Hh -> Prop) (hi : mi σ h = .ok src h1) (hs : ∀ i acc h,I i acc h -> src i h = some ws[i]?) (hl : ws.length < sizeLine)
  (h0 : I 0 [] h1) (step : ∀ i w acc h,I i acc h -> acc.length = i -> ws[i]? = some w -> ∃ σ1 y h',t.set w (dM σ vs) h = some σ1 /\ me σ1 h = .ok y h' /\ I (i + 1) (acc ++ [(aQ y h').1]) (aQ y h').2) :
  ∃ acc h',mLc mi t (fun _ h => .ok true h) me vs σ h = .ok (.tl acc) h' /\ acc.length = ws.length /\ I ws.length acc h' := by
 obtain ⟨acc,h',e,hI,hlen⟩ := aA9 (src := src) (t := t) (body := hV (fun _ h => .ok true h) me) (σ0 := dM σ vs) (ws := ws) (fun i acc h => I i acc h /\ acc.length = i) (fun i acc h hi => hs i acc h hi.1) (fun i w acc h hi e => by
  obtain ⟨σ1,y,h',e1,e2,e3⟩ := step i w acc h hi.1 hi.2 e
  have hlt := aH e
  have ha : acc.length < sizeLine := by have := hi.2; omega
  exact ⟨σ1,acc ++ [(aQ y h').1],(aQ y h').2,e1,by simp only [hV,noX,R.bind_ok,if_true,e2,ha],e3,by simp [hi.2]⟩) fK 0 [] h1 ⟨h0,rfl⟩ (by omega) (by unfold fK; have : sizeLine = 16777216 := rfl; omega)
 refine ⟨acc,h', ?_,hlen,hI⟩
 unfold mLc
 rw [hi,R.bind_ok,e]
 rfl
end PV
end
section
namespace PV
open PySem PySem.Spec PyProof.Rows L2
theorem xZ {i j : Int} (h : -18446744073709551616 < i) (h2 : i < 18446744073709551616) : CMul i j := .inl ⟨by simpa using h,by simpa using h2⟩
theorem yA {i j : Int} (h : -18446744073709551616 < j) (h2 : j < 18446744073709551616) : CMul i j := .inr ⟨by simpa using h,by simpa using h2⟩
/-- the heap changes at the cells is alone -/
structure Up (is : List Nat) (h h' : Hh) : Prop where
 len : h'.length = h.length
 same : ∀ j,j ∉ is -> h'[j]? = h[j]?
theorem Up.rfl' {is : List Nat} {h : Hh} : Up is h h := ⟨rfl,fun _ _ => rfl⟩
theorem Up.trans {is : List Nat} {h h1 h2 : Hh} (a : Up is h h1) (b : Up is h1 h2) : Up is h h2 := ⟨b.len.trans a.len,fun j hj => (b.same j hj).trans (a.same j hj)⟩
theorem Up.mono {is js : List Nat} {h h1 : Hh} (a : Up is h h1) (s : ∀ i ∈ is,i ∈ js) : Up js h h1 := ⟨a.len,fun j hj => a.same j fun z => hj (s j z)⟩
theorem Up.get {is : List Nat} {h h1 : Hh} (a : Up is h h1) {j : Nat} {c : Cl} (e : h[j]? = some c) (hj : j ∉ is) : h1[j]? = some c := (a.same j hj).trans e
theorem Up.set {is : List Nat} {h : Hh} {i : Nat} {c : Cl} (hi : i ∈ is) : Up is h (h.set i c) := ⟨by simp,fun j hj => List.getElem?_set_ne fun z => hj (by rw [<- z]; exact hi)⟩
/-- new cells go: what is left of the old ones -/
theorem Up.cut {is : List Nat} {h e h' : Hh} (a : Up is (h ++ e) h') : Up is h (h'.take h.length) := by
 have hl := a.len
 rw [List.length_append] at hl
 refine ⟨by rw [List.length_take]; omega,fun j hj => ?_⟩
 by_cases hlt : j < h.length
 ·rw [List.getElem?_take_of_lt hlt,a.same j hj,List.getElem?_append_left hlt]
 ·rw [List.getElem?_eq_none (by rw [List.length_take]; omega),List.getElem?_eq_none (by omega)]
theorem aEr {h' : Hh} {n i : Nat} {c : Cl} (e : h'[i]? = some c) (hi : i < n) : (h'.take n)[i]? = some c := by rw [List.getElem?_take_of_lt hi]; exact e
theorem aEY {h e : Hh} {i : Nat} {c : Cl} (q : h[i]? = some c) : (h ++ e)[i]? = some c := by rw [List.getElem?_append_left (aH q)]; exact q
/-- a call leaves the caller's cells,each as it was or plain -/
theorem aGs {is : List Nat} {h e h' : Hh} {w : D} (a : Up is (h ++ e) h') (lim : w.lim h.length = true) (hp : ∀ i ∈ is,i < h.length -> ∃ c,h'[i]? = some c /\ (h[i]? = some c \/ c.lim h.length = true)) : gcR h (.ok w h') = .ok w (h'.take h.length) := by
 have hl := a.len
 rw [List.length_append] at hl
 refine aA2 lim (by omega) fun j c hj ec => ?_
 by_cases hm : j ∈ is
 ·obtain ⟨c',e1,e2⟩ := hp j hm hj
  rw [e1] at ec; cases ec; exact e2
 ·left
  rw [a.same j hm,List.getElem?_append_left hj] at ec; exact ec
theorem oZ {is : List Nat} {h h' : Hh} {w : D} (a : Up is h h') (lim : w.lim h.length = true) : gcR h (.ok w h') = .ok w h' := aA3 a.len lim
/-- a source of draws at cell i,drawn from at most c times -/
def Sr (h : Hh) (i : Nat) (c : Nat) : Prop := ∃ a b d : Int,h[i]? = some (.lst [.int a, .int b, .int d]) /\ 0 <= d /\ d <= c
theorem Sr.mono {h : Hh} {i c c' : Nat} (s : Sr h i c) (hc : c <= c') : Sr h i c' := let ⟨a,b,d,e,h0,h1⟩ := s; ⟨a,b,d,e,h0,by omega⟩
theorem Sr.lt {h : Hh} {i c : Nat} (s : Sr h i c) : i < h.length := let ⟨_,_,_,e,_,_⟩ := s; aH e
theorem Sr.app {h e : Hh} {i c : Nat} (s : Sr h i c) : Sr (h ++ e) i c := let ⟨a,b,d,e,h0,h1⟩ := s; ⟨a,b,d,aEY e,h0,h1⟩
theorem Sr.cut {h : Hh} {i c n : Nat} (s : Sr h i c) (hi : i < n) : Sr (h.take n) i c := let ⟨a,b,d,e,h0,h1⟩ := s; ⟨a,b,d,aEr e hi,h0,h1⟩
theorem Sr.up {h h' : Hh} {i c : Nat} {is : List Nat} (s : Sr h i c) (u : Up is h h') (hi : i ∉ is) : Sr h' i c := let ⟨a,b,d,e,h0,h1⟩ := s; ⟨a,b,d,u.get e hi,h0,h1⟩
theorem Sr.cell {h : Hh} {i c : Nat} (s : Sr h i c) (n : Nat) : ∃ x,h[i]? = some x /\ x.lim n = true := let ⟨a,b,d,e,h0,h1⟩ := s; ⟨_,e,by simp⟩
theorem aFf {i c : Nat} {h e h' : Hh} {w : D} (a : Up [i] (h ++ e) h') (s : Sr h' i c) (lim : w.lim h.length = true) : gcR h (.ok w h') = .ok w (h'.take h.length) :=
 aGs a lim fun j hj _ => by
  have : j = i := by simpa using hj
  subst this
  obtain ⟨x,e1,e2⟩ := s.cell h.length
  exact ⟨x,e1, .inr e2⟩
theorem xL {h : Hh} {p r : Nat} {ws : List D} (e : h[p]? = some (.lst ws)) (hr : r < ws.length) (hl : ws.length < 1073741824) : eW (.ref p) (.int (r : Int)) h = .ok ws[r] (h.set p (.lst (ws.eraseIdx r))) := by
 have h1 : -(2 ^ 63 : Int) <= (r : Int) := by omega
 have h2 : (r : Int) < 2 ^ 63 := by omega
 have h3 : seqIndex? (r : Int) ws.length = some r := by
  unfold seqIndex?
  simp
  omega
 simp [eW,dE,e,h3,List.getElem?_eq_getElem hr]
 omega
theorem pZ {α : Type} : ∀ {l : List α} {r : Nat} (hr : r < l.length),l.Perm (l[r] :: l.eraseIdx r)
 | x :: l,0,_ => .refl _
 | x :: l,r + 1,hr => by
  have := pZ (l := l) (r := r) (by simpa using hr)
  simp only [List.getElem_cons_succ,List.eraseIdx_cons_succ]
  exact (this.cons x).trans (.swap _ _ _)
theorem lV {α β : Type} {f : α -> β} : ∀ {l : List α} {r : Nat},(l.map f).eraseIdx r = (l.eraseIdx r).map f
 | [],r => by simp
 | x :: l,0 => by simp
 | x :: l,r + 1 => by simp [lV (l := l) (r := r)]
theorem tY {m : M D} {σ : Sg} {h h1 : Hh} {n : Nat} (e : m σ h = .ok (.int n) h1) (hn : n < 1073741824) : kP m σ h = .ok (qP 0 n) h1 := by
 unfold kP
 rw [e,R.bind_ok]
 show (if _ then _ else _) = _
 rw [if_pos ⟨by omega,by omega⟩,Int.toNat_natCast]
theorem mU {h : Hh} {p : Nat} {ws : List D} (e : h[p]? = some (.lst ws)) : tyM h (.ref p) = some "list" := by simp [tyM,e]
theorem aIv {op : Op1} {o a : M D} {σ : Sg} {h h1 : Hh} {p : Nat} {ws : List D} (eo : o σ h = .ok (.ref p) h1) (e : h1[p]? = some (.lst ws)) : mM1 (on1 "list" op) o a σ h = (a σ h1).bind fun y h2 => op (.ref p) y h2 := by
 unfold mM1
 rw [eo,R.bind_ok,mU e]
 rfl
theorem uL {h : Hh} {p : Nat} {ws : List D} {y : D} (e : h[p]? = some (.lst ws)) (hl : ws.length < sizeLine) (hy : y.isTl = false) : cL (.ref p) y h = .ok .non (h.set p (.lst (ws ++ [y]))) := by simp [cL,dE,e,hl,hy]
theorem pM {h : Hh} {p : Nat} {c : Cl} (hp : p < h.length) : (h.set p c)[p]? = some c := List.getElem?_set_self hp
theorem fD {h : Hh} {p q : Nat} {c : Cl} (hp : p ≠ q) : (h.set p c)[q]? = h[q]? := List.getElem?_set_ne hp
theorem aDi {h : Hh} {c : Cl} {r : Hh} : (h ++ c :: r)[h.length]? = some c := by simp
theorem aDj {h : Hh} {c d : Cl} {r : Hh} : (h ++ c :: d :: r)[h.length + 1]? = some d := by simp [List.getElem?_append_right]
theorem aCg {h : Hh} {c d e : Cl} {r : Hh} : (h ++ c :: d :: e :: r)[h.length + 2]? = some e := by simp [List.getElem?_append_right]
end PV
end
section
namespace PV
open PySem PySem.Spec PyProof.Rows L2
/-- the heap changes at the cells is,and may grow -/
structure Ux (is : List Nat) (h h' : Hh) : Prop where
 len : h.length <= h'.length
 same : ∀ j,j < h.length -> j ∉ is -> h'[j]? = h[j]?
theorem Up.ux {is : List Nat} {h h' : Hh} (a : Up is h h') : Ux is h h' := ⟨Nat.le_of_eq a.len.symm,fun j _ hj => a.same j hj⟩
theorem Ux.trans {is : List Nat} {h h1 h2 : Hh} (a : Ux is h h1) (b : Ux is h1 h2) : Ux is h h2 := ⟨Nat.le_trans a.len b.len,fun j hj hi => (b.same j (Nat.lt_of_lt_of_le hj a.len) hi).trans (a.same j hj hi)⟩
theorem Ux.app {is : List Nat} {h e : Hh} : Ux is h (h ++ e) := ⟨by simp,fun j hj _ => List.getElem?_append_left hj⟩
theorem Ux.mono {is js : List Nat} {h h1 : Hh} (a : Ux is h h1) (s : ∀ i ∈ is,i < h.length -> i ∈ js) : Ux js h h1 := ⟨a.len,fun j hj hm => a.same j hj fun z => hm (s j z hj)⟩
theorem Ux.get {is : List Nat} {h h1 : Hh} (a : Ux is h h1) {j : Nat} {c : Cl} (e : h[j]? = some c) (hj : j ∉ is) : h1[j]? = some c := (a.same j (aH e) hj).trans e
theorem aCq {is : List Nat} {h e h' : Hh} {w : D} (a : Ux is (h ++ e) h') (lim : w.lim h.length = true) (hp : ∀ i ∈ is,i < h.length -> ∃ c,h'[i]? = some c /\ c.lim h.length = true) :
  ∃ h2,gcR h (.ok w h') = .ok w h2 /\ Up is h h2 /\ (∀ i,i < h.length -> h2[i]? = h'[i]?) := by
 have hl := a.len
 rw [List.length_append] at hl
 refine ⟨h'.take h.length,aA2 lim (by omega) fun j c hj ec => ?_,⟨by rw [List.length_take]; omega,fun j hj => ?_⟩,fun i hi => List.getElem?_take_of_lt hi⟩
 ·by_cases hm : j ∈ is
  ·obtain ⟨c',e1,e2⟩ := hp j hm hj
   rw [e1] at ec; cases ec; exact .inr e2
  ·left
   rw [a.same j (by rw [List.length_append]; omega) hm,List.getElem?_append_left hj] at ec; exact ec
 ·by_cases hlt : j < h.length
  ·rw [List.getElem?_take_of_lt hlt,a.same j (by rw [List.length_append]; omega) hj,List.getElem?_append_left hlt]
  ·rw [List.getElem?_eq_none (by rw [List.length_take]; omega),List.getElem?_eq_none (by omega)]
/-- nothing was written -/
theorem aGq {h e h' : Hh} {w : D} (a : Ux [] (h ++ e) h') (lim : w.lim h.length = true) : gcR h (.ok w h') = .ok w h := by
 obtain ⟨h2,e1,u,_⟩ := aCq a lim (fun i hi => by simp at hi)
 rw [e1]
 have : h2 = h := by
  apply List.ext_getElem?
  intro j
  exact u.same j (by simp)
 rw [this]
theorem aFe {h h' : Hh} {w : D} (a : Ux [] h h') (lim : w.lim h.length = true) : gcR h (.ok w h') = .ok w h := aGq (e := []) (by rw [List.append_nil]; exact a) lim
@[simp] theorem aLj {h e : Hh} {w : D} (lim : w.lim h.length = true) : gcR h (.ok w (h ++ e)) = .ok w h := aFe .app lim
structure Opr where
 kind : Str
 words : List Str
 deriving DecidableEq,Inhabited
def Opr.enc (o : Opr) : D := .tup [.str o.kind, .tup (o.words.map .str)]
def Opr.L (o : Opr) : Bool := decide (o.kind ∈ [("infix" : Str),"postfix"])
def Opr.Rr (o : Opr) : Bool := decide (o.kind ∈ [("infix" : Str),"prefix"])
def Opr.S (o : Opr) : Bool := decide (o.kind ∈ [("prefix" : Str),"closed"])
def kinds : List Str := ["closed","infix","postfix","prefix"]
theorem Opr.enc_lim {o : Opr} {n : Nat} : o.enc.lim n = true := by simp [Opr.enc]
@[simp] theorem aJG {o : Opr} {h : Hh} : aQ o.enc h = (o.enc,h) := rfl
def iR : List Str := ["!","\u0023","$","&","*","+",",","-",".","/",":",";","<","=",">"]
def iT : List Str := ["?","\u0040","[","]","^","_","{","|","}","~"]
def mL : List Str := ["if","then","else","and","or","not","is","z9"]
def aIK : List Str := ["--","**","lengthy8","of","in","to","by","=>","((","f(",")x"]
/-- the words that the laws draw from -/
def gU : List Str := (iR ++ iT) ++ mL ++ aIK
/-- words that some laws write -/
def aGS : List Str := ["last","end","op","do","o0x","o1x","o2x","o3x","o4x","o5x","o6x","o7x","o8x","o9x","o10x","o11x","o0y","o1y","o2y","o3y","o4y","o5y"]
def aGT : List Str := ["o6y","o7y","o8y","o9y","o10y","o11y","plus","size","at","abs","new","n2","~~","q","zq","qz","<(",")>","no","!x","\u0023x","$x"]
def aGU : List Str := ["&x","*x","+x",",x","-x",".x","/x",":x",";x","<x","=x",">x","?x","\u0040x","[x","]x","^x","_x","{x","|x","}x","~x"]
def aGV : List Str := ["ifx","thenx","elsex","andx","orx","notx","isx","z9x","--x","**x","lengthyx","ofx","inx","tox","byx","=>x","((x","f(x",")xx","opx","!y","\u0023y"]
def aGW : List Str := ["$y","&y","*y","+y",",y","-y",".y","/y",":y",";y","<y","=y",">y","?y","\u0040y","[y","]y","^y","_y","{y","|y","}y"]
def aGX : List Str := ["~y","ify","theny","elsey","andy","ory","noty","isy","z9y","--y","**y","lengthyy","ofy","iny","toy","byy","=>y","((y","f(y",")xy","opy"]
def aIL : List Str := aGS ++ aGT ++ aGU ++ aGV ++ aGW ++ aGX
def mK : List Str := gU ++ aIL
theorem aAJ : gU.Nodup := by decide +kernel
theorem y0 {x : Str} (h : x ∈ gU) : x ∈ mK := List.mem_append_left _ h
theorem zS : ∀ x ∈ mK,PyData.strOk x = true := by decide +kernel
theorem jB : ∀ x ∈ kinds,PyData.strOk x = true := by decide +kernel
def cV (b : Bool) (ops : List Opr) : List Str := ops.filterMap fun o => if o.S = b then o.words.head? else none
def dO (ops : List Opr) : List Str := ops.flatMap fun o => o.words.tail
/-- an operator's kind and number of words -/
structure OprOk (o : Opr) : Prop where
 kd : o.kind ∈ kinds
 l1 : 1 <= o.words.length
 l3 : o.words.length <= 3
 l2 : o.kind = "closed" -> 2 <= o.words.length
 w0 : ∀ x ∈ o.words,x ∈ mK
/-- a list of operators whose words do not meet where they must not -/
structure OpsOk (ops : List Opr) : Prop where
 ok : ∀ o ∈ ops,OprOk o
 nd : ∀ b,(cV b ops).Nodup
 lt : (dO ops).Nodup
 ld : ∀ x ∈ dO ops,∀ b,x ∉ cV b ops
/-- while it is made: the words left,the first words of one role alone -/
structure OpI (pool : List Str) (sh : Bool -> List Str) (ops : List Opr) : Prop where
 oo : OpsOk ops
 pn : pool.Nodup
 p0 : ∀ x ∈ pool,x ∈ gU
 dp : ∀ o ∈ ops,∀ x ∈ o.words,x ∉ pool
 sn : ∀ b,(sh b).Nodup
 si : ∀ b,∀ x ∈ sh b,x ∈ cV b ops
 sd : ∀ b,∀ x ∈ sh b,x ∉ cV (!b) ops
 wy : ∀ o ∈ ops,∀ x ∈ o.words,x ∈ gU
theorem aBG {b : Bool} {ops : List Opr} {x : Str} (h : x ∈ cV b ops) : ∃ o ∈ ops,o.S = b /\ o.words.head? = some x := by
 unfold cV at h
 obtain ⟨o,ho,e⟩ := List.mem_filterMap.mp h
 by_cases hb : o.S = b
 ·rw [if_pos hb] at e; exact ⟨o,ho,hb,e⟩
 ·rw [if_neg hb] at e; cases e
theorem lF {b : Bool} {ops : List Opr} {x : Str} (h : x ∈ cV b ops) : ∃ o ∈ ops,x ∈ o.words := by
 obtain ⟨o,ho,_,e⟩ := aBG h
 exact ⟨o,ho,List.mem_of_mem_head? (by rw [e]; rfl)⟩
theorem aAI {ops : List Opr} {x : Str} (h : x ∈ dO ops) : ∃ o ∈ ops,x ∈ o.words := by
 unfold dO at h
 obtain ⟨o,ho,e⟩ := List.mem_flatMap.mp h
 exact ⟨o,ho,List.mem_of_mem_tail e⟩
theorem gP {b : Bool} {ops : List Opr} {o : Opr} {x : Str} {r : List Str} (e : o.words = x :: r) : cV b (ops ++ [o]) = cV b ops ++ if o.S = b then [x] else [] := by
 unfold cV
 rw [List.filterMap_append]
 by_cases hb : o.S = b
 ·simp [hb,e]
 ·simp [hb]
theorem tI {ops : List Opr} {o : Opr} {x : Str} {r : List Str} (e : o.words = x :: r) : dO (ops ++ [o]) = dO ops ++ r := by
 unfold dO
 simp [e]
theorem uT {α : Type} {l : List α} {x : α} (h : l.Nodup) (hx : x ∉ l) : (l ++ [x]).Nodup := by
 rw [List.nodup_append]
 exact ⟨h,by simp,fun a ha b hb => by
  have : b = x := by simpa using hb
  subst this; intro z; subst z; exact hx ha⟩
/-- one more operator: its first word x is new to its role,its later words r are new -/
theorem OpsOk.snoc {ops : List Opr} {o : Opr} {x : Str} {r : List Str} (I : OpsOk ops) (ho : OprOk o) (e : o.words = x :: r) (hx : x ∉ cV o.S ops) (hxl : x ∉ dO ops) (rn : r.Nodup) (rx : x ∉ r) (rf : ∀ y ∈ r,∀ b,y ∉ cV b ops) (rl : ∀ y ∈ r,y ∉ dO ops) : OpsOk (ops ++ [o]) := by
 refine ⟨fun o' h' => ?_,fun b => ?_, ?_,fun y hy b hb => ?_⟩
 ·rcases List.mem_append.mp h' with h' | h'
  ·exact I.ok o' h'
  ·have : o' = o := by simpa using h'
   subst this; exact ho
 ·rw [gP e]
  by_cases hb : o.S = b
  ·subst hb
   rw [if_pos rfl]
   exact uT (I.nd _) hx
  ·rw [if_neg hb,List.append_nil]; exact I.nd b
 ·rw [tI e,List.nodup_append]
  exact ⟨I.lt,rn,fun a ha b hb z => by subst z; exact rl a hb ha⟩
 ·rw [tI e] at hy
  rw [gP e] at hb
  rcases List.mem_append.mp hy with hy | hy
  ·rcases List.mem_append.mp hb with hb | hb
   ·exact I.ld y hy b hb
   ·by_cases hs : o.S = b
    ·rw [if_pos hs] at hb
     have : y = x := by simpa using hb
     subst this; exact hxl hy
    ·rw [if_neg hs] at hb; simp at hb
  ·rcases List.mem_append.mp hb with hb | hb
   ·exact rf y hy b hb
   ·by_cases hs : o.S = b
    ·rw [if_pos hs] at hb
     have : y = x := by simpa using hb
     subst this; exact rx hy
    ·rw [if_neg hs] at hb; simp at hb
section
variable {pool pool' ws : List Str} {sh : Bool -> List Str} {ops : List Opr}
theorem OpI.split (I : OpI pool sh ops) (p : pool.Perm (ws ++ pool')) : ws.Nodup /\ pool'.Nodup /\ (∀ x ∈ ws,x ∉ pool') /\ (∀ x ∈ ws,x ∈ pool) /\ (∀ x ∈ pool',x ∈ pool) := by
 have n := p.nodup I.pn
 rw [List.nodup_append] at n
 exact ⟨n.1,n.2.1,fun x hx hp => n.2.2 x hx x hp rfl,fun x hx => p.symm.subset (List.mem_append_left _ hx),fun x hx => p.symm.subset (List.mem_append_right _ hx)⟩
theorem OpI.new (I : OpI pool sh ops) {x : Str} (hx : x ∈ pool) : (∀ b,x ∉ cV b ops) /\ x ∉ dO ops :=
 ⟨fun b h => by obtain ⟨o,ho,hw⟩ := lF h; exact I.dp o ho x hw hx,fun h => by obtain ⟨o,ho,hw⟩ := aAI h; exact I.dp o ho x hw hx⟩
/-- all words new -/
theorem OpI.add (I : OpI pool sh ops) {x : Str} {r : List Str} (p : pool.Perm ((x :: r) ++ pool')) {kd : Str} (ho : OprOk ⟨kd,x :: r⟩) : OpI pool' (fun b => if b = Opr.S ⟨kd,x :: r⟩ then sh b ++ [x] else sh b) (ops ++ [⟨kd,x :: r⟩]) := by
 obtain ⟨wn,pn,wp,wi,pi⟩ := I.split p
 rw [List.nodup_cons] at wn
 have nx := I.new (wi x (by simp))
 refine ⟨I.oo.snoc ho rfl (nx.1 _) nx.2 wn.2 wn.1 (fun y hy b => (I.new (wi y (by simp [hy]))).1 b) (fun y hy => (I.new (wi y (by simp [hy]))).2),pn,fun y hy => I.p0 y (pi y hy),fun o ho' y hy hp => ?_,fun b => ?_,fun b y hy => ?_,fun b y hy hf => ?_,fun o ho' y hy => ?_⟩
 ·rcases List.mem_append.mp ho' with h' | h'
  ·exact I.dp o h' y hy (pi y hp)
  ·have : o = ⟨kd,x :: r⟩ := by simpa using h'
   subst this; exact wp y hy hp
 ·show (if _ then _ else _ : List Str).Nodup
  split
  ·exact uT (I.sn b) fun h => nx.1 b (I.si b x h)
  ·exact I.sn b
 ·rw [gP (x := x) (r := r) rfl]
  by_cases hb : b = Opr.S ⟨kd,x :: r⟩
  ·rw [if_pos hb] at hy
   rw [if_pos hb.symm]
   rcases List.mem_append.mp hy with hy | hy
   ·exact List.mem_append_left _ (I.si b y hy)
   ·exact List.mem_append_right _ hy
  ·rw [if_neg hb] at hy
   exact List.mem_append_left _ (I.si b y hy)
 ·rw [gP (x := x) (r := r) rfl] at hf
  by_cases hb : b = Opr.S ⟨kd,x :: r⟩
  ·rw [if_pos hb] at hy
   rw [if_neg (by rw [<- hb]; cases b <;> simp),List.append_nil] at hf
   rcases List.mem_append.mp hy with hy | hy
   ·exact I.sd b y hy hf
   ·have : y = x := by simpa using hy
    subst this; exact nx.1 _ hf
  ·rw [if_neg hb] at hy
   have hb2 : Opr.S ⟨kd,x :: r⟩ = !b := by revert hb; cases b <;> cases Opr.S ⟨kd,x :: r⟩ <;> simp
   rw [if_pos hb2] at hf
   rcases List.mem_append.mp hf with hf | hf
   ·exact I.sd b y hy hf
   ·have : y = x := by simpa using hf
    subst this; exact nx.1 b (I.si b y hy)
 ·rcases List.mem_append.mp ho' with h' | h'
  ·exact I.wy o h' y hy
  ·have : o = ⟨kd,x :: r⟩ := by simpa using h'
   subst this; exact I.p0 y (wi y hy)
/-- the first word x is one of the other role -/
theorem OpI.share (I : OpI pool sh ops) {x z : Str} {r rest : List Str} (p : pool.Perm ((z :: r) ++ pool')) {kd : Str} (ho : OprOk ⟨kd,x :: r⟩) (hx : (sh (!Opr.S ⟨kd,x :: r⟩)).Perm (x :: rest)) : OpI pool' (fun b => if b = (!Opr.S ⟨kd,x :: r⟩) then rest else sh b) (ops ++ [⟨kd,x :: r⟩]) := by
 obtain ⟨wn,pn,wp,wi,pi⟩ := I.split p
 rw [List.nodup_cons] at wn
 generalize hS : Opr.S ⟨kd,x :: r⟩ = S at hx ⊢
 have xm : x ∈ sh (!S) := hx.symm.subset (by simp)
 have xf := I.si _ x xm
 have xd := I.sd _ x xm
 rw [Bool.not_not] at xd
 obtain ⟨ox,hox,hwx⟩ := lF xf
 have xp : x ∉ pool := I.dp ox hox x hwx
 have nd := hx.nodup (I.sn _)
 rw [List.nodup_cons] at nd
 have sub : ∀ y ∈ rest,y ∈ sh (!S) := fun y hy => hx.symm.subset (by simp [hy])
 refine ⟨I.oo.snoc ho rfl (by rw [hS]; exact xd) (fun h => I.oo.ld x h _ xf) wn.2 (fun h => xp (wi x (by simp [h]))) (fun y hy b => (I.new (wi y (by simp [hy]))).1 b) (fun y hy => (I.new (wi y (by simp [hy]))).2),pn,fun y hy => I.p0 y (pi y hy),fun o ho' y hy hp => ?_,fun b => ?_,fun b y hy => ?_,fun b y hy hf => ?_,fun o ho' y hy => ?_⟩
 ·rcases List.mem_append.mp ho' with h' | h'
  ·exact I.dp o h' y hy (pi y hp)
  ·have : o = ⟨kd,x :: r⟩ := by simpa using h'
   subst this
   rcases List.mem_cons.mp hy with hy | hy
   ·subst hy; exact xp (pi y hp)
   ·exact wp y (by simp [hy]) hp
 ·show (if _ then _ else _ : List Str).Nodup
  split
  ·exact nd.2
  ·exact I.sn b
 ·rw [gP (x := x) (r := r) rfl]
  refine List.mem_append_left _ ?_
  by_cases hb : b = !S
  ·rw [if_pos hb] at hy
   rw [hb]
   exact I.si _ y (sub y hy)
  ·rw [if_neg hb] at hy
   exact I.si b y hy
 ·rw [gP (x := x) (r := r) rfl,hS] at hf
  by_cases hb : b = !S
  ·rw [if_pos hb] at hy
   have hb2 : S = !b := by rw [hb,Bool.not_not]
   rw [if_pos hb2] at hf
   rcases List.mem_append.mp hf with hf | hf
   ·exact I.sd b y (by rw [hb]; exact sub y hy) hf
   ·have : y = x := by simpa using hf
    subst this; exact nd.1 hy
  ·rw [if_neg hb] at hy
   have hb2 : ¬ S = !b := fun z => hb (by rw [z,Bool.not_not])
   rw [if_neg hb2,List.append_nil] at hf
   exact I.sd b y hy hf
 ·rcases List.mem_append.mp ho' with h' | h'
  ·exact I.wy o h' y hy
  ·have : o = ⟨kd,x :: r⟩ := by simpa using h'
   subst this
   rcases List.mem_cons.mp hy with hy | hy
   ·subst hy; exact I.wy ox hox y hwx
   ·exact I.p0 y (wi y (by simp [hy]))
theorem OpI.congr {sh' : Bool -> List Str} (I : OpI pool sh ops) (h : ∀ b,sh b = sh' b) : OpI pool sh' ops := by
 have : sh = sh' := funext h
 rw [<- this]; exact I
theorem OpI.start : OpI gU (fun _ => []) [] := ⟨⟨by simp,by simp [cV],by simp [dO],by simp [dO]⟩,aAJ,fun _ h => h,by simp,by simp,by simp,by simp,by simp⟩
end
end PV
end
section
namespace PV
open PySem PySem.Spec PyProof.Rows L2
theorem sz {n : Nat} (h : n <= 16777216) : n <= sizeLine := h
theorem szl {n : Nat} (h : n < 16777216) : n < sizeLine := h
@[simp] theorem aNy : ((1 : Nat) <= sizeLine) = True := eq_true (sz (by decide))
@[simp] theorem aNz : ((2 : Nat) <= sizeLine) = True := eq_true (sz (by decide))
@[simp] theorem aNA : ((3 : Nat) <= sizeLine) = True := eq_true (sz (by decide))
@[simp] theorem aNB : ((4 : Nat) <= sizeLine) = True := eq_true (sz (by decide))
@[simp] theorem aNC : ((5 : Nat) <= sizeLine) = True := eq_true (sz (by decide))
@[simp] theorem aND : ((6 : Nat) <= sizeLine) = True := eq_true (sz (by decide))
@[simp] theorem aNE : ((7 : Nat) <= sizeLine) = True := eq_true (sz (by decide))
@[simp] theorem aNF : ((8 : Nat) <= sizeLine) = True := eq_true (sz (by decide))
@[simp] theorem aNG : ((9 : Nat) <= sizeLine) = True := eq_true (sz (by decide))
@[simp] theorem aMS : ((10 : Nat) <= sizeLine) = True := eq_true (sz (by decide))
@[simp] theorem aMT : ((11 : Nat) <= sizeLine) = True := eq_true (sz (by decide))
@[simp] theorem aMU : ((12 : Nat) <= sizeLine) = True := eq_true (sz (by decide))
@[simp] theorem aMV : ((13 : Nat) <= sizeLine) = True := eq_true (sz (by decide))
@[simp] theorem aMW : ((14 : Nat) <= sizeLine) = True := eq_true (sz (by decide))
@[simp] theorem aMX : ((15 : Nat) <= sizeLine) = True := eq_true (sz (by decide))
@[simp] theorem aMY : ((16 : Nat) <= sizeLine) = True := eq_true (sz (by decide))
@[simp] theorem aMZ : ((17 : Nat) <= sizeLine) = True := eq_true (sz (by decide))
@[simp] theorem aM0 : ((18 : Nat) <= sizeLine) = True := eq_true (sz (by decide))
@[simp] theorem aM1 : ((19 : Nat) <= sizeLine) = True := eq_true (sz (by decide))
@[simp] theorem aM2 : ((20 : Nat) <= sizeLine) = True := eq_true (sz (by decide))
@[simp] theorem aM3 : ((21 : Nat) <= sizeLine) = True := eq_true (sz (by decide))
@[simp] theorem aM4 : ((22 : Nat) <= sizeLine) = True := eq_true (sz (by decide))
@[simp] theorem aM5 : ((23 : Nat) <= sizeLine) = True := eq_true (sz (by decide))
@[simp] theorem aM6 : ((24 : Nat) <= sizeLine) = True := eq_true (sz (by decide))
@[simp] theorem aM7 : ((25 : Nat) <= sizeLine) = True := eq_true (sz (by decide))
@[simp] theorem aM8 : ((26 : Nat) <= sizeLine) = True := eq_true (sz (by decide))
@[simp] theorem aM9 : ((27 : Nat) <= sizeLine) = True := eq_true (sz (by decide))
@[simp] theorem aNa : ((28 : Nat) <= sizeLine) = True := eq_true (sz (by decide))
@[simp] theorem aNb : ((29 : Nat) <= sizeLine) = True := eq_true (sz (by decide))
@[simp] theorem aNc : ((30 : Nat) <= sizeLine) = True := eq_true (sz (by decide))
@[simp] theorem aNd : ((31 : Nat) <= sizeLine) = True := eq_true (sz (by decide))
@[simp] theorem aNe : ((32 : Nat) <= sizeLine) = True := eq_true (sz (by decide))
@[simp] theorem aNf : ((33 : Nat) <= sizeLine) = True := eq_true (sz (by decide))
@[simp] theorem aNg : ((34 : Nat) <= sizeLine) = True := eq_true (sz (by decide))
@[simp] theorem aNh : ((35 : Nat) <= sizeLine) = True := eq_true (sz (by decide))
@[simp] theorem aNi : ((36 : Nat) <= sizeLine) = True := eq_true (sz (by decide))
@[simp] theorem aNj : ((37 : Nat) <= sizeLine) = True := eq_true (sz (by decide))
@[simp] theorem aNk : ((38 : Nat) <= sizeLine) = True := eq_true (sz (by decide))
@[simp] theorem aNl : ((39 : Nat) <= sizeLine) = True := eq_true (sz (by decide))
@[simp] theorem aNm : ((40 : Nat) <= sizeLine) = True := eq_true (sz (by decide))
@[simp] theorem sF {a b : Str} {h : Hh} : eqW (.str a) (.str b) h = .ok (.bl (decide (a = b))) h := id rfl
@[simp] theorem aLv {a b : Str} {h : Hh} : neW (.str a) (.str b) h = .ok (.bl (!decide (a = b))) h := id rfl
theorem vF {i : Int} : SeqAt.shaped (.int i) = true := by simp [SeqAt.shaped,PyData.canLay0,PyData.depth]
theorem aFa {i j : Int} {h : Hh} : eqW (.int i) (.int j) h = .ok (.bl (decide (i = j))) h := by
 have e1 : toP h bD (.int i) = some (.int i) := rfl
 have e2 : toP h bD (.int j) = some (.int j) := rfl
 have e3 : PyData.eqv (.int i) (.int j) = decide (i = j) := by
  rw [Bool.eq_iff_iff]
  simp [PyData.eqv]
 simp only [eqW,eqD,e1,e2,vF,Bool.and_self,if_true,e3]
theorem aAN {ds : List PyData} {n : Nat} (hn : n < 64) (h : ∀ d ∈ ds,d.canLay0 = true) (hd : ∀ d ∈ ds,d.depth <= n) : SeqAt.shaped (.list ds) = true := by
 have := gC hd
 simp [SeqAt.shaped,PyData.canLay0,eQ h,PyData.depth]
 omega
theorem aEu {h : Hh} {n : Nat} {l : List Str} : aJ (toP h (n + 1)) (l.map .str) = some (l.map .str) := dW (f := toP h (n + 1)) (g := D.str) (k := PyData.str) fun x _ => rfl
theorem aAO {l : List Str} (hs : ∀ s ∈ l,PyData.strOk s = true) : SeqAt.shaped (.list (l.map .str)) = true := aAN (n := 0) (by omega) (fun d hd => by
  obtain ⟨s,hs',rfl⟩ := List.mem_map.mp hd
  simp [PyData.canLay0,hs s hs']) (fun d hd => by
  obtain ⟨s,hs',rfl⟩ := List.mem_map.mp hd
  simp [PyData.depth])
theorem aEt {h : Hh} {q n : Nat} {l : List Str} (e : h[q]? = some (.lst (l.map .str))) : toP h (n + 2) (.ref q) = some (.list (l.map .str)) := by
 show (match h[q]? with
   | some (.lst ws) => (aJ (toP h (n + 1)) ws).map PyData.list
   | _ => none) = _
 rw [e]
 simp only [aEu,Option.map_some]
theorem aFr {h : Hh} {q : Nat} {l : List Str} (e : h[q]? = some (.lst (l.map .str))) (hs : ∀ s ∈ l,PyData.strOk s = true) : neW (.ref q) (.tl []) h = .ok (.bl (!l.isEmpty)) h := by
 have e1 : toP h bD (.ref q) = some (.list (l.map .str)) := aEt e
 have e2 : toP h bD (.tl []) = some (.list []) := rfl
 have s1 := aAO hs
 have s2 : SeqAt.shaped (.list []) = true := by decide +kernel
 have e3 : PyData.eqv (.list (l.map .str)) (.list []) = l.isEmpty := by
  cases l <;> simp [PyData.eqv,PyData.eqvAll]
 simp only [neW,eqD,e1,e2,s1,s2,Bool.and_self,if_true,e3]
section
variable {σ : Sg} {h : Hh} {m o a b : M D} {ts : List Tg} {t : Tg} {ws : List D} {w : D} {i : Nat}
@[simp] theorem aJu : aR (.tu ts) m σ h = (m σ h).then σ fun w h1 => match Tg.set (.tu ts) (aQ w h1).1 σ (aQ w h1).2 with
 | some σ1 => .nx σ1 (aQ w h1).2
 | none => .bad := id rfl
@[simp] theorem aLc : Tg.set (.nm i) w σ h = some (σ.set i (some w)) := by simp only [Tg.set]
@[simp] theorem aJN : Tg.set (.tu ts) (.tup ws) σ h = Tg.sets ts ws σ h := by simp only [Tg.set,asT]
@[simp] theorem aJm : Tg.sets [] [] σ h = some σ := by simp only [Tg.sets]
@[simp] theorem aIc : Tg.sets (t :: ts) (w :: ws) σ h = (Tg.set t w σ h).bind fun σ1 => Tg.sets ts ws σ1 h := by
 simp only [Tg.sets]
 cases Tg.set t w σ h <;> rfl
@[simp] theorem aLY {f : String -> Option Op0} : mM0 f o σ h = (o σ h).bind fun x h1 => match tyM h1 x with
 | some T => match f T with
  | some op => op x h1
  | none => .bad
 | none => .bad := id rfl
@[simp] theorem aLZ {f : String -> Option Op1} : mM1 f o a σ h = (o σ h).bind fun x h1 => match tyM h1 x with
 | some T => match f T with
  | some op => (a σ h1).bind fun y h2 => op x y h2
  | none => .bad
 | none => .bad := id rfl
@[simp] theorem aL0 {f : String -> Option Op2} : mM2 f o a b σ h = (o σ h).bind fun x h1 => match tyM h1 x with
 | some T => match f T with
  | some op => (a σ h1).bind fun y h2 => (b σ h2).bind fun z h3 => op x y z h3
  | none => .bad
 | none => .bad := id rfl
@[simp] theorem aKw {T : String} {op : Op0} : on0 T op T = some op := by simp [on0]
@[simp] theorem uB {T : String} {op : Op1} : on1 T op T = some op := by simp [on1]
@[simp] theorem aKx {T : String} {op : Op2} : on2 T op T = some op := by simp [on2]
@[simp] theorem aLI {x : Str} : tyM h (.str x) = some "str" := rfl
end
theorem aI6 {h : Hh} {w : D} {ws : List D} : slW (.tup (w :: ws)) (some 1) none h = .ok (.tup ws) h := by
 have e1 : HT.sIx (w :: ws).length 0 (some 1) = 1 := by simp [HT.sIx]
 have e2 : HT.sIx (w :: ws).length (w :: ws).length none = (w :: ws).length := rfl
 simp only [slW,asL,asT,e1,e2]
 rw [if_neg (by omega)]
 simp only [oJ,e1,e2]
 simp
theorem aF8 {h : Hh} {xs ys : List D} (hl : xs.length + ys.length <= 16777216) : cM (.tup xs) (.tup ys) h = .ok (.tup (xs ++ ys)) h := by
 have hl' : xs.length + ys.length <= sizeLine := hl
 simp only [cM,asT,hl',if_true]
 by_cases h1 : xs = []
 ·simp [h1]
 ·by_cases h2 : ys = []
  ·simp [h1,h2]
  ·simp [h1,h2]
end PV
end
section
namespace PV
open PySem PySem.Spec PyProof.Rows L2
theorem aDz {h h' : Hh} {c : Cl} {w : D} (a : Ux [h.length] (h ++ [c]) h') (lim : w.lim h.length = true) : gcR h (.ok w h') = .ok w h := by
 obtain ⟨h2,e1,u,_⟩ := aCq a lim (fun i hi hl => by
  have : i = h.length := by simpa using hi
  omega)
 rw [e1]
 have : h2 = h := by
  apply List.ext_getElem?
  intro j
  by_cases hj : j = h.length
  ·subst hj
   rw [List.getElem?_eq_none (by rw [u.len]; omega),List.getElem?_eq_none (by omega)]
  ·exact u.same j (by simpa using hj)
 rw [this]
theorem aIM {h : Hh} : qG (.int 10) (.int 18) h = .ok (.int 1000000000000000000) h := by rfl
theorem aIN {h : Hh} : ∃ z : Int,0 < z /\ qG (.int 10) (.int 60) h = .ok (.int z) h /\ ∃ y : Int,0 < y /\ qG (.int z) (.int 4) h = .ok (.int y) h :=
 ⟨10 ^ 60,by decide,by rfl,(10 ^ 60) ^ 4,by decide,by rfl⟩
theorem uR {α : Type} : ∀ {l : List α},aJ toB (l.map fun _ => D.bl true) = some (l.map fun _ => true)
 | [] => rfl
 | _ :: l => by
  have := uR (l := l)
  simp only [List.map_cons,aJ,toB,this]
theorem aBx {α : Type} {h : Hh} {l : List α} : kM (.tl (l.map fun _ => D.bl true)) h = .ok (.bl true) h := by
 simp only [kM,asL,uR]
 congr 2
 induction l with
 | nil => rfl
 | cons a l ih => simp
end PV
end
section
namespace PV
open PySem PySem.Spec PyProof.Rows L2
/-- data that can be shown: its depth,the length of its text -/
structure PN (n l : Nat) (d : PyData) : Prop where
 lay : d.canLay0 = true
 sh : d.showable = true
 dp : d.depth <= n
 ln : d.shown.length <= l
theorem PN.mono {n l n' l' : Nat} {d : PyData} (p : PN n l d) (hn : n <= n') (hl : l <= l') : PN n' l' d := ⟨p.lay,p.sh,Nat.le_trans p.dp hn,Nat.le_trans p.ln hl⟩
theorem PN.shaped {n l : Nat} {d : PyData} (p : PN n l d) (hn : n <= 64) : SeqAt.shaped d = true := by
 have := p.dp
 simp [SeqAt.shaped,p.lay]
 omega
theorem nM : ∀ {ds : List PyData},(∀ d ∈ ds,d.showable = true) -> PyData.showableAll ds = true
 | [],_ => by simp [PyData.showableAll]
 | d :: ds,h => by
  simp only [PyData.showableAll,Bool.and_eq_true]
  exact ⟨h d (by simp),nM fun x hx => h x (by simp [hx])⟩
end PV
end
section
namespace PV
open PySem PySem.Spec PyProof.Rows L2
/-- the places of those that p takes -/
def aGv (p : Opr -> Bool) (ops : List Opr) : List Int := ops.zipIdx.filterMap fun q => if p q.1 = true then some (q.2 : Int) else none
def aEK (ops : List Opr) : List (Int × Int) := (aGv Opr.Rr ops).flatMap fun s => (aGv Opr.L ops).map fun o => (s,o)
end PV
end
section
namespace PV
open PySem PySem.Spec PyProof.Rows L2
inductive Tr where
 | leaf (s : Str) | grp (t : Tr) | nd (n : Nat) (ts : List Tr)
 deriving Inhabited
mutual
def Tr.enc : Tr -> D
 | .leaf s => .str s
 | .grp t => .tup [.str "(",t.enc]
 | .nd n ts => .tup (.int n :: Tr.encs ts)
def Tr.encs : List Tr -> List D
 | [] => []
 | t :: ts => t.enc :: Tr.encs ts
end
@[simp] theorem aDt {t : Tr} : t.enc.isTl = false := by cases t <;> simp only [Tr.enc] <;> rfl
@[simp] theorem aJj {t : Tr} {h : Hh} : aQ t.enc h = (t.enc,h) := qR aDt
mutual
theorem Tr.lim {n : Nat} : ∀ t : Tr,t.enc.lim n = true
 | .leaf s => by simp only [Tr.enc,aBb]
 | .grp t => by simp only [Tr.enc,wB,nX,aBb,Tr.lim t,zI,Bool.and_self]
 | .nd m ts => by simp only [Tr.enc,wB,nX,aFn,Tr.lims ts,Bool.and_self]
theorem Tr.lims {n : Nat} : ∀ ts : List Tr,D.lims n (Tr.encs ts) = true
 | [] => by simp only [Tr.encs,zI]
 | t :: ts => by simp only [Tr.encs,nX,Tr.lim t,Tr.lims ts,Bool.and_self]
end
def Opr.holes (o : Opr) : Nat := o.words.length - 1 + (if o.L then 1 else 0) + (if o.Rr then 1 else 0)
mutual
/-- a tree of these operators,its identifiers of p -/
def Tr.ok (ops : List Opr) (p : Str -> Prop) : Tr -> Prop
 | .leaf s => p s
 | .grp t => t.ok ops p
 | .nd n ts => (∃ o,ops[n]? = some o /\ ts.length = o.holes) /\ Tr.oks ops p ts
def Tr.oks (ops : List Opr) (p : Str -> Prop) : List Tr -> Prop
 | [] => True
 | t :: ts => t.ok ops p /\ Tr.oks ops p ts
end
theorem aBc {ops : List Opr} {p : Str -> Prop} : ∀ {ts : List Tr},Tr.oks ops p ts ↔ ∀ t ∈ ts,t.ok ops p
 | [] => by simp [Tr.oks]
 | t :: ts => by simp [Tr.oks,aBc (ts := ts)]
mutual
def Tr.depth : Tr -> Nat
 | .leaf _ => 0
 | .grp t => t.depth + 1
 | .nd _ ts => Tr.depths ts + 1
def Tr.depths : List Tr -> Nat
 | [] => 0
 | t :: ts => max t.depth (Tr.depths ts)
end
theorem rD {n : Nat} : ∀ {ts : List Tr},Tr.depths ts <= n ↔ ∀ t ∈ ts,t.depth <= n
 | [] => by simp [Tr.depths]
 | t :: ts => by
  have := rD (n := n) (ts := ts)
  simp only [Tr.depths,List.mem_cons,forall_eq_or_imp,<- this]
  omega
def aCt : List Str := ["a","b","x1","7","abcdefgh","c","d","e","f","x","x9","y","0","99999999"]
/-- the data of operators -/
def Opr.py (o : Opr) : PyData := .tuple [.str o.kind, .tuple (o.words.map .str)]
end PV
end
section
namespace PV
open PySem PySem.Spec PyProof.Rows L2
/-- the next tree on a side (true: left),by its child's number -/
def nxt (ops : List Opr) (side : Bool) : Tr -> Option (Nat × Tr)
 | .nd n ts => match ops[n]? with
  | some o => if (if side then o.L else o.Rr) = true then (ts[if side then 0 else ts.length - 1]?).map fun t => (if side then 0 else ts.length - 1,t) else none
  | none => none
 | _ => none
theorem aCD {ts : List Tr} {t : Tr} {c : Nat} (h : ts[c]? = some t) : t.depth <= Tr.depths ts := (rD.mp (Nat.le_refl _)) t (List.mem_of_getElem? h)
theorem nG {ops : List Opr} {side : Bool} {t t' : Tr} {c : Nat} (h : nxt ops side t = some (c,t')) : ∃ n ts o,t = .nd n ts /\ ops[n]? = some o /\ (if side then o.L else o.Rr) = true /\ c = (if side then 0 else ts.length - 1) /\ ts[c]? = some t' := by
 cases t with
 | leaf s => cases h
 | grp t => cases h
 | nd n ts =>
  simp only [nxt] at h
  cases eo : ops[n]? with
  | none => rw [eo] at h; cases h
  | some o =>
   rw [eo] at h
   simp only at h
   by_cases hs : (if side then o.L else o.Rr) = true
   ·rw [if_pos hs] at h
    obtain ⟨x,hx,hp⟩ := Option.map_eq_some_iff.mp h
    cases hp
    exact ⟨n,ts,o,rfl,eo,hs,rfl,hx⟩
   ·rw [if_neg hs] at h; cases h
theorem xJ {ops : List Opr} {side : Bool} {t t' : Tr} {c : Nat} (h : nxt ops side t = some (c,t')) : t'.depth < t.depth := by
 obtain ⟨n,ts,o,rfl,_,_,_,hc⟩ := nG h
 have := aCD hc
 simp only [Tr.depth]
 omega
/-- whether a node with an open hole -/
theorem aBS {ops : List Opr} {p : Str -> Prop} {side : Bool} {n : Nat} {ts : List Tr} {o : Opr} (eo : ops[n]? = some o) (ok : (Tr.nd n ts).ok ops p) : (nxt ops side (.nd n ts)).isSome = (if side then o.L else o.Rr) := by
 obtain ⟨⟨o',eo',hl⟩,_⟩ := ok
 rw [eo] at eo'; cases eo'
 simp only [nxt]
 rw [eo]
 simp only
 by_cases hs : (if side then o.L else o.Rr) = true
 ·rw [if_pos hs,hs]
  have hpos : 0 < ts.length := by
   rw [hl]
   unfold Opr.holes
   cases side
   ·simp only [Bool.false_eq_true,if_false] at hs
    simp [hs]
   ·simp only [if_true] at hs
    simp [hs]
    omega
  cases side
  ·have : ts.length - 1 < ts.length := by omega
   simp [List.getElem?_eq_getElem this]
  ·simp [List.getElem?_eq_getElem hpos]
 ·rw [if_neg hs]
  simp only [Bool.not_eq_true] at hs
  rw [hs]
  rfl
def yC (pl : List Int) : D := .tup (pl.map .int)
@[simp] theorem aDs {pl : List Int} : (yC pl).isTl = false := by unfold yC; rfl
@[simp] theorem aK5 {pl : List Int} {h : Hh} : aQ (yC pl) h = (yC pl,h) := qR aDs
def Tr.isLeaf : Tr -> Bool
 | .leaf _ => true
 | _ => false
/-- what a call leaves of the caller's cells,its own apart -/
theorem Up.loc {is js : List Nat} {h e h' : Hh} (u : Up is (h ++ e) h') (hi : ∀ i ∈ is,i < h.length -> i ∈ js) : Ux js h h' := by
 have hl := u.len
 rw [List.length_append] at hl
 refine ⟨by omega,fun j hj hm => ?_⟩
 rw [u.same j fun z => hm (hi j z hj),List.getElem?_append_left hj]
theorem Ux.loc {is js : List Nat} {h e h' : Hh} (u : Ux is (h ++ e) h') (hi : ∀ i ∈ is,i < h.length -> i ∈ js) : Ux js h h' := by
 have hl := u.len
 rw [List.length_append] at hl
 refine ⟨by omega,fun j hj hm => ?_⟩
 rw [u.same j (by rw [List.length_append]; omega) fun z => hm (hi j z hj),List.getElem?_append_left hj]
end PV
end
section
namespace PV
open PySem PySem.Spec PyProof.Rows L2
end PV
end
section
namespace PV
open PySem PySem.Spec PyProof.Rows L2
/-- what a def that returns a list of its own leaves -/
def Ret (h : Hh) (ws : List D) (r : R D) : Prop := ∃ w h',r = .ok w h' /\ Ux [] h h' /\ (w = .tl ws \/ ∃ i,w = .ref i /\ h.length <= i /\ h'[i]? = some (.lst ws))
theorem Ret.tl {h : Hh} {ws : List D} : Ret h ws (.ok (.tl ws) h) := ⟨_,_,rfl,⟨Nat.le_refl _,fun _ _ _ => rfl⟩, .inl rfl⟩
end PV
end
section
namespace PV
open PySem PySem.Spec PyProof.Rows L2
mutual
def Tr.nds : Tr -> Nat
 | .leaf _ => 0
 | .grp t => t.nds
 | .nd _ ts => Tr.ndss ts + 1
def Tr.ndss : List Tr -> Nat
 | [] => 0
 | t :: ts => t.nds + Tr.ndss ts
end
mutual
def Tr.grs : Tr -> Nat
 | .leaf _ => 0
 | .grp t => t.grs + 1
 | .nd _ ts => Tr.grss ts
def Tr.grss : List Tr -> Nat
 | [] => 0
 | t :: ts => t.grs + Tr.grss ts
end
def Tr.sm (t : Tr) : Prop := t.nds <= 1000 /\ t.grs <= 1000
theorem Tr.sm.grp {t : Tr} (h : (Tr.grp t).sm) : t.sm := by
 unfold Tr.sm at h ⊢
 simp only [Tr.nds,Tr.grs] at h
 omega
def nV : List Str -> List (List Str) -> List Str
 | [],_ => []
 | w :: ws,[] => w :: nV ws []
 | w :: ws,p :: ps => w :: (p ++ nV ws ps)
def aBR (o : Option Opr) (ps : List (List Str)) : List Str := match o with
 | some o => if o.L = true then ps.headD [] ++ nV o.words ps.tail else nV o.words ps
 | none => []
mutual
def Tr.toks (ops : List Opr) : Tr -> List Str
 | .leaf s => [s]
 | .grp t => ("(" : Str) :: (t.toks ops ++ [(")" : Str)])
 | .nd n ts => aBR ops[n]? (Tr.toksL ops ts)
def Tr.toksL (ops : List Opr) : List Tr -> List (List Str)
 | [] => []
 | t :: ts => t.toks ops :: Tr.toksL ops ts
end
theorem xP {ops : List Opr} : ∀ ts : List Tr,Tr.toksL ops ts = ts.map (Tr.toks ops)
 | [] => rfl
 | t :: ts => by simp only [Tr.toksL,List.map_cons,xP ts]
mutual
def Tr.py : Tr -> PyData
 | .leaf s => .str s
 | .grp t => .tuple [.str "(",t.py]
 | .nd n ts => .tuple (.int n :: Tr.pys ts)
def Tr.pys : List Tr -> List PyData
 | [] => []
 | t :: ts => t.py :: Tr.pys ts
end
/-- plain data: its depth,its weight -/
structure PS (n w : Nat) (d : PyData) : Prop where
 lay : d.canLay0 = true
 sh : d.showable = true
 lv : d.leavesShort 24 = true
 dp : d.depth <= n
 wt : d.weight <= w
theorem PS.mono {n w n' w' : Nat} {d : PyData} (p : PS n w d) (hn : n <= n') (hw : w <= w') : PS n' w' d := ⟨p.lay,p.sh,p.lv,Nat.le_trans p.dp hn,Nat.le_trans p.wt hw⟩
theorem PS.pn {n w : Nat} {d : PyData} (p : PS n w d) : PN n (26 * w + 24) d := by
 refine ⟨p.lay,p.sh,p.dp, ?_⟩
 have h1 := PyData.shown_le 24 (by decide) d p.lv
 have h2 := Nat.mul_le_mul_left 26 p.wt
 omega
theorem aFB : PS 0 0 .none := ⟨rfl,rfl,rfl,by simp [PyData.depth],by simp [PyData.weight]⟩
theorem aFA {b : Bool} : PS 0 0 (.bool b) := ⟨rfl,rfl,rfl,by simp [PyData.depth],by simp [PyData.weight]⟩
theorem fW {x : Str} {w : Nat} (h : PyData.strOk x = true) (hw : x.length <= w) : PS 0 w (.str x) := by
 refine ⟨by simp [PyData.canLay0,h],rfl, ?_,by simp [PyData.depth],by simpa [PyData.weight,Str.length] using hw⟩
 simp only [PyData.leavesShort,List.all_eq_true,decide_eq_true_eq]
 intro c hc
 simp only [PyData.strOk,Array.all_eq_true'] at h
 have := h c (by simpa using hc)
 simp at this
 omega
theorem zJ {B : Nat} : ∀ {ds : List PyData},(∀ d ∈ ds,d.leavesShort B = true) -> PyData.leavesShortAll B ds = true
 | [],_ => by simp [PyData.leavesShortAll]
 | d :: ds,h => by
  simp only [PyData.leavesShortAll,Bool.and_eq_true]
  exact ⟨h d (by simp),zJ fun x hx => h x (by simp [hx])⟩
theorem aAx {w : Nat} : ∀ {ds : List PyData},(∀ d ∈ ds,d.weight <= w) -> PyData.weightAll ds <= ds.length * (w + 1)
 | [],_ => by simp [PyData.weightAll]
 | d :: ds,h => by
  have h1 := h d (by simp)
  have h2 := aAx fun x hx => h x (List.mem_cons_of_mem _ hx)
  simp only [PyData.weightAll,List.length_cons,Nat.add_mul]
  omega
theorem kW {n w : Nat} {ds : List PyData} (h : ∀ d ∈ ds,PS n w d) : PS (n + 1) (ds.length * (w + 1)) (.tuple ds) := by
 have h4 := gC fun d hd => (h d hd).dp
 exact ⟨by simp only [PyData.canLay0]; exact eQ fun d hd => (h d hd).lay,by simp only [PyData.showable]; exact nM fun d hd => (h d hd).sh,by simp only [PyData.leavesShort]; exact zJ fun d hd => (h d hd).lv,by simp only [PyData.depth]; omega,by simp only [PyData.weight]; exact aAx fun d hd => (h d hd).wt⟩
theorem pE {n w : Nat} {ds : List PyData} (h : ∀ d ∈ ds,PS n w d) : PS (n + 1) (ds.length * (w + 1)) (.list ds) := by
 have h4 := gC fun d hd => (h d hd).dp
 exact ⟨by simp only [PyData.canLay0]; exact eQ fun d hd => (h d hd).lay,by simp only [PyData.showable]; exact nM fun d hd => (h d hd).sh,by simp only [PyData.leavesShort]; exact zJ fun d hd => (h d hd).lv,by simp only [PyData.depth]; omega,by simp only [PyData.weight]; exact aAx fun d hd => (h d hd).wt⟩
/-- a tuple by its parts -/
theorem mR {n w1 w2 : Nat} {d : PyData} {ds : List PyData} (h1 : PS n w1 d) (h2 : PS (n + 1) w2 (.tuple ds)) : PS (n + 1) (w1 + 1 + w2) (.tuple (d :: ds)) := by
 have a1 := h1.dp
 have a2 := h2.dp
 have b1 := h1.wt
 have b2 := h2.wt
 have c1 := h2.lay
 have c2 := h2.sh
 have c3 := h2.lv
 simp only [PyData.depth,PyData.weight,PyData.canLay0,PyData.showable,PyData.leavesShort] at a2 b2 c1 c2 c3
 refine ⟨?_, ?_, ?_, ?_, ?_⟩
 ·simp [PyData.canLay0,PyData.canLayAll0,h1.lay,c1]
 ·simp [PyData.showable,PyData.showableAll,h1.sh,c2]
 ·simp [PyData.leavesShort,PyData.leavesShortAll,h1.lv,c3]
 ·simp only [PyData.depth,PyData.depthAll]; omega
 ·simp only [PyData.weight,PyData.weightAll]; omega
theorem zT {n : Nat} : PS (n + 1) 0 (.tuple []) := ⟨rfl,rfl,rfl,by simp [PyData.depth,PyData.depthAll],by simp [PyData.weight,PyData.weightAll]⟩
theorem aCP : ∀ x ∈ mK,x.length <= 8 := by decide +kernel
theorem nW : ∀ x ∈ kinds,x.length <= 8 := by decide +kernel
theorem aCQ {o : Opr} (h : OprOk o) : PS 2 60 o.py := by
 have h1 : PS 1 8 (.str o.kind) := (fW (jB _ h.kd) (nW _ h.kd)).mono (by omega) (by omega)
 have h2 : PS 1 27 (.tuple (o.words.map .str)) := (kW (n := 0) (w := 8) fun d hd => by
  obtain ⟨x,hx,rfl⟩ := List.mem_map.mp hd
  exact fW (zS x (h.w0 x hx)) (aCP x (h.w0 x hx))).mono (by omega) (by have := h.l3; simp only [List.length_map]; omega)
 exact (mR h1 (mR h2 zT)).mono (by omega) (by omega)
theorem aCR {ops : List Opr} (O : OpsOk ops) : PS 3 (ops.length * 61) (.tuple (ops.map Opr.py)) := by
 refine (kW (n := 2) (w := 60) fun d hd => ?_).mono (by omega) (by simp)
 obtain ⟨o,ho,rfl⟩ := List.mem_map.mp hd
 exact aCQ (O.ok o ho)
end PV
end
section
namespace PV
open PySem PySem.Spec PyProof.Rows L2
end PV
end
section
namespace PV
open PySem PySem.Spec PyProof.Rows L2
/-- a value whose type is known -/
def Ty (h : Hh) : D -> Prop
 | .non => True
 | .bl _ => True
 | .int _ => True
 | .tup _ => True
 | .str x => x.length <= 1000 /\ PyData.strOk x = true
 | .ref j => (∃ ws,h[j]? = some (.lst ws)) \/ ∃ kvs,h[j]? = some (.dK kvs)
 | _ => False
def D.isStr : D -> Bool
 | .str _ => true
 | _ => false
theorem isi_str {h : Hh} {w : D} (t : Ty h w) : jA w (.ty "str") h = .ok (.bl w.isStr) h := by
 cases w <;> first
  | (simp only [jA,sL,tyD]; rfl)
  | exact t.elim
  | (rcases t with ⟨ws, e⟩ | ⟨kvs, e⟩
     ·simp only [jA,sL,tyD,e]; rfl
     ·simp only [jA,sL,tyD,e]; rfl)
theorem Ty.ux {is : List Nat} {h h' : Hh} {w : D} (t : Ty h w) (u : Ux is h h') (hn : ∀ i,w = .ref i -> i ∉ is) : Ty h' w := by
 cases w <;> first
  | exact t
  | (rename_i j
     rcases t with ⟨ws,e⟩ | ⟨kvs,e⟩
     ·exact .inl ⟨ws,u.get e (hn j rfl)⟩
     ·exact .inr ⟨kvs,u.get e (hn j rfl)⟩)
/-- nested at most n bD; its lists are none of the cells bad -/
def Nv (bad : List Nat) (h : Hh) : Nat -> D -> Prop
 | 0,_ => False
 | n + 1,w => match w with
  | .non => True
  | .bl _ => True
  | .int i => ∃ k : Nat,i = k /\ k < 1000
  | .str x => PyData.strOk x = true /\ x.length <= 20
  | .tup ws => ws.length <= 8 /\ ∀ x ∈ ws,Nv bad h n x
  | .ref j => j ∉ bad /\ ∃ ws,h[j]? = some (.lst ws) /\ ws.length <= 8 /\ ∀ x ∈ ws,Nv bad h n x
  | _ => False
theorem Nv.ux {bad is : List Nat} {h h' : Hh} (u : Ux is h h') (hs : ∀ i ∈ is,i < h.length -> i ∈ bad) : ∀ {n : Nat} {w : D},Nv bad h n w -> Nv bad h' n w
 | 0,w,v => v
 | n + 1,w,v => by
  cases w <;> first
   | exact v
   | (rename_i ws
      exact ⟨v.1,fun x hx => Nv.ux u hs (v.2 x hx)⟩)
   | (rename_i j
      obtain ⟨hj,ws,e,hl,ha⟩ := v
      exact ⟨hj,ws,u.get e fun z => hj (hs j z (aH e)),hl,fun x hx => Nv.ux u hs (ha x hx)⟩)
theorem Nv.mono {bad bad' : List Nat} {h : Hh} (hs : ∀ i ∈ bad',i ∈ bad) : ∀ {n : Nat} {w : D},Nv bad h n w -> Nv bad' h n w
 | 0,w,v => v
 | n + 1,w,v => by
  cases w <;> first
   | exact v
   | (rename_i ws
      exact ⟨v.1,fun x hx => Nv.mono hs (v.2 x hx)⟩)
   | (rename_i j
      obtain ⟨hj,ws,e,hl,ha⟩ := v
      exact ⟨fun z => hj (hs j z),ws,e,hl,fun x hx => Nv.mono hs (ha x hx)⟩)
theorem Nv.up {bad : List Nat} {h : Hh} : ∀ {n : Nat} {w : D},Nv bad h n w -> Nv bad h (n + 1) w
 | 0,w,v => v.elim
 | n + 1,w,v => by
  cases w <;> first
   | exact v
   | (rename_i ws
      exact ⟨v.1,fun x hx => Nv.up (v.2 x hx)⟩)
   | (rename_i j
      obtain ⟨hj,ws,e,hl,ha⟩ := v
      exact ⟨hj,ws,e,hl,fun x hx => Nv.up (ha x hx)⟩)
theorem Nv.ty {bad : List Nat} {h : Hh} {n : Nat} {w : D} (v : Nv bad h n w) : Ty h w := by
 cases n with
 | zero => exact v.elim
 | succ n =>
  cases w <;> first
   | trivial
   | exact ⟨by have := v.2; omega,v.1⟩
   | exact v.elim
   | (obtain ⟨_,ws,e,_⟩ := v; exact .inl ⟨ws,e⟩)
theorem Nv.tup {bad : List Nat} {h : Hh} {n : Nat} {ws : List D} (v : Nv bad h (n + 1) (.tup ws)) : ws.length <= 8 /\ ∀ x ∈ ws,Nv bad h n x := v
theorem Nv.lim {bad : List Nat} {h : Hh} : ∀ {n : Nat} {w : D},Nv bad h n w -> D.lim h.length w = true
 | 0,w,v => v.elim
 | n + 1,w,v => by
  cases w <;> first
   | rfl
   | exact v.elim
   | (rw [wB]; exact qC fun x hx => Nv.lim (v.2 x hx))
   | (obtain ⟨_,ws,e,_⟩ := v; rw [aFo]; exact decide_eq_true (aH e))
theorem Nv.isTl {bad : List Nat} {h : Hh} {n : Nat} {w : D} (v : Nv bad h n w) : w.isTl = false := by
 cases n with
 | zero => exact v.elim
 | succ n => cases w <;> first | rfl | exact v.elim
end PV
end
section
namespace PV
open PySem PySem.Spec PyProof.Rows L2
theorem sIx_nat {l d n : Nat} (h : n <= l) : HT.sIx l d (some (n : Int)) = n := by
 rw [HT.sIx_nat]
 omega
/-- the values of a law: plain ones,and the empty dict -/
def Vg (bad : List Nat) (h : Hh) (w : D) : Prop := Nv bad h 5 w \/ ∃ j,w = .ref j /\ j ∉ bad /\ h[j]? = some (.dK [])
theorem Vg.ux {bad is : List Nat} {h h' : Hh} {w : D} (v : Vg bad h w) (u : Ux is h h') (hs : ∀ i ∈ is,i < h.length -> i ∈ bad) : Vg bad h' w := by
 rcases v with v | ⟨j,rfl,hj,e⟩
 ·exact .inl (v.ux u hs)
 ·exact .inr ⟨j,rfl,hj,u.get e fun z => hj (hs j z (aH e))⟩
theorem Vg.isTl {bad : List Nat} {h : Hh} {w : D} (v : Vg bad h w) : w.isTl = false := by
 rcases v with v | ⟨j,rfl,hj,e⟩
 ·exact v.isTl
 ·rfl
end PV
end
section
namespace PV
open PySem PySem.Spec PyProof.Rows L2
mutual
theorem aDK {n m : Nat} (hn : n <= m) : ∀ {w : D},D.lim n w = true -> D.lim m w = true
 | .non,_ => rfl
 | .bl _,_ => rfl
 | .int _,_ => rfl
 | .str _,_ => rfl
 | .ty _,_ => rfl
 | .fn _,_ => rfl
 | .cls _,_ => rfl
 | .ref i,h => by simp only [D.lim,decide_eq_true_eq] at h ⊢; omega
 | .tup ws,h => by simp only [D.lim] at h ⊢; exact lims_mono hn h
 | .kt ws,h => by simp only [D.lim] at h ⊢; exact lims_mono hn h
 | .tl ws,h => by simp only [D.lim] at h ⊢; exact lims_mono hn h
 | .fl ws,h => by simp only [D.lim] at h ⊢; exact lims_mono hn h
 | .xc _ _ ws,h => by simp only [D.lim] at h ⊢; exact lims_mono hn h
theorem lims_mono {n m : Nat} (hn : n <= m) : ∀ {ws : List D},D.lims n ws = true -> D.lims m ws = true
 | [],_ => rfl
 | w :: ws,h => by
  simp only [D.lims,Bool.and_eq_true] at h ⊢
  exact ⟨aDK hn h.1,lims_mono hn h.2⟩
end
@[simp] theorem aKr {b : MS} {hs : List Hdl} {σ : Sg} {h : Hh} : aIB b hs σ h = match b σ h with
 | .exc c fs σ1 h1 => if 100 <= c then qE hs c fs σ1 h1 else .bad
 | r => r := by rfl
@[simp] theorem aKn {c : Nat} {fs : List (Str × D)} {σ : Sg} {h : Hh} : qE [] c fs σ h = .exc c fs σ h := id rfl
@[simp] theorem aLs {L : List Nat} {i : Nat} {ms : MS} {r : List Hdl} {c : Nat} {fs : List (Str × D)} {σ : Sg} {h : Hh} : qE ((L,some i,ms) :: r) c fs σ h = if L.contains c = true then (ms (σ.set i (some (aEx c fs))) h).unset i else qE r c fs σ h := id rfl
@[simp] theorem aLt {L : List Nat} {ms : MS} {r : List Hdl} {c : Nat} {fs : List (Str × D)} {σ : Sg} {h : Hh} : qE ((L,none,ms) :: r) c fs σ h = if L.contains c = true then (ms σ h).noexc else qE r c fs σ h := id rfl
@[simp] theorem aLf {i : Nat} {σ : Sg} {h : Hh} : (RT.nx σ h).unset i = .nx (σ.set i none) h := id rfl
@[simp] theorem aJQ {i : Nat} {w : D} {h : Hh} : (RT.ret w h).unset i = .ret w h := id rfl
@[simp] theorem aKu {σ : Sg} {h : Hh} : (RT.nx σ h).noexc = .nx σ h := id rfl
@[simp] theorem aJw {w : D} {h : Hh} : (RT.ret w h).noexc = .ret w h := id rfl
@[simp] theorem aLM {c : Nat} {fs : List (Str × D)} : aEx c fs = .xc c (fs.map (·.1)) (fs.map (·.2)) := id rfl
@[simp] theorem aK8 {c : Nat} {ks : List Str} {ws : List D} {h : Hh} : aQ (.xc c ks ws) h = (.xc c ks ws,h) := id rfl
@[simp] theorem aJF {c : Nat} {h : Hh} : aQ (.cls c) h = (.cls c,h) := id rfl
@[simp] theorem aK7 {c : String} {h : Hh} : aQ (.ty c) h = (.ty c,h) := id rfl
@[simp] theorem aKf {a b : M D} {σ : Sg} {h : Hh} : sO a b σ h = (a σ h).bind fun x h1 => match x with
 | .bl true => b σ h1
 | .bl false => .ok (.bl false) h1
 | _ => .bad := id rfl
@[simp] theorem aLq {a b : M D} {σ : Sg} {h : Hh} : aKk a b σ h = (a σ h).bind fun x h1 => match x with
 | .bl true => .ok (.bl true) h1
 | .bl false => b σ h1
 | _ => .bad := id rfl
@[simp] theorem aLW {n c : Nat} {ks : List Str} {ws : List D} : D.lim n (.xc c ks ws) = D.lims n ws := by simp only [D.lim]
@[simp] theorem aIA {c : Nat} {ks : List Str} {ma : M (List D)} {σ : Sg} {h : Hh} : aFq c ks ma σ h = (ma σ h).then σ fun ws h1 => if ws.length = ks.length then .exc c ((ks.zip ws).reverse) σ h1 else .bad := id rfl
@[simp] theorem aKy {c : Nat} {fs : List (Str × D)} {σ : Sg} {h : Hh} : gK (.exc c fs σ h) = .exc c fs h := id rfl
@[simp] theorem aKa {κ : Type} {n : Nat} : gR (κ := κ) n [] = true := id rfl
@[simp] theorem aJq {κ : Type} {n : Nat} {p : κ × D} {ps : List (κ × D)} : gR n (p :: ps) = (D.lim n p.2 && gR n ps) := id rfl
theorem aFd {h h' : Hh} {c : Nat} {fs : List (Str × D)} (a : Ux [] h h') (lim : gR h.length fs = true) : gcR h (.exc c fs h') = .exc c fs h := by
 have e : iH h.length h h' = true := sK a.len fun j c hj e => .inl (by rw [<- e]; exact (a.same j hj (by simp)).symm)
 simp only [gcR,gcX,e,lim,and_self,if_true]
 congr 1
 apply List.ext_getElem?
 intro j
 rcases Nat.lt_or_ge j h.length with hj | hj
 ·rw [List.getElem?_take_of_lt hj]; exact a.same j hj (by simp)
 ·rw [List.getElem?_eq_none hj,List.getElem?_eq_none (by simp; omega)]
@[simp] theorem aHY {h e : Hh} {c : Nat} {fs : List (Str × D)} (lim : gR h.length fs = true) : gcR h (.exc c fs (h ++ e)) = .exc c fs h := aFd .app lim
@[simp] theorem aLi {f : Str} {c : Nat} {ks : List Str} {ws : List D} {h : Hh} : aDu f (.xc c ks ws) h = if 100 <= c then match (ks.zip ws).lookup f with
   | some w => .ok w h
   | none => .bad
  else .bad := id rfl
@[simp] theorem aKh {f : Str} {m : M D} {σ : Sg} {h : Hh} : aIu f m σ h = (m σ h).bind (aDu f) := id rfl
end PV
end
section
namespace PV
open PySem PySem.Spec PyProof.Rows L2
@[simp] theorem aKi {cl : Cll} {mt : Nat -> Option Nat} {m : Str} {mo : M D} {ms : M (List D)} {σ : Sg} {h : Hh} : aIw cl mt m mo ms σ h = gcR h ((mo σ h).bind fun x h1 => match x with
 | .ref i => match h1[i]? with
  | some (.ins c fs) => match mt c with
   | some f => if c < 100 /\ fs.lookup m = none then (ms σ h1).bind fun ws h2 => cl f (.ref i :: ws) h2 else .bad
   | none => .bad
  | _ => .bad
 | _ => .bad) := id rfl
@[simp] theorem aKm {f : Str} {mo me : M D} {σ : Sg} {h : Hh} : aIz f mo me σ h = (mSt me σ h).then σ fun w h1 => (mo σ h1).then σ fun x h2 => match aEV f x w h2 with
 | some h3 => .nx σ h3
 | none => .bad := id rfl
end PV
end
section
namespace PV
open PySem PySem.Spec PyProof.Rows L2
/-- an entry -/
structure Ent where
 s : Int
 o : Int
 e : Str
def Ent.enc (x : Ent) : D := .tup [.int x.s, .int x.o, .str x.e]
def kOf (s o : Int) : List Key := [.inl s, .inl o]
/-- the entry of a pair -/
def aGn (es : List Ent) (s o : Int) : Str := match es.find? fun x => decide (x.s = s /\ x.o = o) with
 | some x => x.e
 | none => "error"
def tf3 (od ed : D) (j : Nat) : List (Str × D) := [(("operators" : Str),od),("entries",ed),("entry_by_pair", .ref j)]
/-- the table at k of the heap: where its dict stands -/
structure TabAt (h : Hh) (k : Nat) (ops : List Opr) (es : List Ent) (j : Nat) (kvs : List (List Key × D)) : Prop where
 at_ : ∃ ev,(ev = .tup (es.map Ent.enc) \/ ev = .kt [] /\ es = []) /\ h[k]? = some (.ins 0 (tf3 (.tup (ops.map Opr.enc)) ev j))
 dic : h[j]? = some (.dT kvs)
 get : ∀ s o,fR kvs (kOf s o) = if (s,o) ∈ aEK ops then some (.str (aGn es s o)) else none
theorem TabAt.ux {is : List Nat} {h h' : Hh} {k j : Nat} {ops : List Opr} {es : List Ent} {kvs : List (List Key × D)} (t : TabAt h k ops es j kvs) (u : Ux is h h') (hk : k ∉ is) (hj : j ∉ is) : TabAt h' k ops es j kvs := ⟨let ⟨ev,h1,h2⟩ := t.at_; ⟨ev,h1,u.get h2 hk⟩,u.get t.dic hj,t.get⟩
end PV
end
section
namespace PV
open PySem PySem.Spec PyProof.Rows L2
/-- the nodes on a side -/
def lX (ops : List Opr) (side : Bool) : Nat -> Tr -> List Tr
 | 0,_ => []
 | f + 1,t => match nxt ops side t with
  | some (_,t') => t :: lX ops side f t'
  | none => []
theorem lO {ops : List Opr} {side : Bool} {f : Nat} {t : Tr} (h : nxt ops side t = none) : lX ops side f t = [] := by
 cases f with
 | zero => rfl
 | succ f => simp only [lX,h]
theorem rS {ops : List Opr} {side : Bool} {f c : Nat} {t t' : Tr} (h : nxt ops side t = some (c,t')) : lX ops side (f + 1) t = t :: lX ops side f t' := by simp only [lX,h]
theorem aC9 {ops : List Opr} {side : Bool} : ∀ {f g : Nat} {t : Tr},t.depth <= f -> t.depth <= g -> lX ops side f t = lX ops side g t := by
 intro f
 induction f with
 | zero =>
  intro g t hf hg
  cases e : nxt ops side t with
  | none => rw [lO e,lO e]
  | some q => obtain ⟨c,t'⟩ := q; have := xJ e; omega
 | succ f ih =>
  intro g t hf hg
  cases e : nxt ops side t with
  | none => rw [lO e,lO e]
  | some q =>
   obtain ⟨c,t'⟩ := q
   have := xJ e
   cases g with
   | zero => omega
   | succ g => rw [rS e,rS e,ih (g := g) (by omega) (by omega)]
def Tr.num : Tr -> Nat
 | .nd n _ => n
 | _ => 0
def kid : Tr -> Int -> Option Tr
 | .leaf _,_ => none
 | .grp t,c => if c = 0 then some t else none
 | .nd _ ts,c => if 0 <= c then ts[c.toNat]? else none
def sub : Tr -> List Int -> Option Tr
 | t,[] => some t
 | t,c :: pl => (kid t c).bind fun t' => sub t' pl
/-- whether the entries with the facing nodes let a node stand -/
def zL (ops : List Opr) (ent : Int -> Int -> Str) (t : Tr) : Bool :=
 (match nxt ops false t with
  | some (_,r) => (lX ops true r.depth r).all fun x => decide (ent t.num x.num = "shift")
  | none => true) &&
 (match nxt ops true t with
  | some (_,l) => (lX ops false l.depth l).all fun x => decide (ent x.num t.num = "reduce")
  | none => true)
mutual
def mG (ops : List Opr) (ent : Int -> Int -> Str) : Tr -> Bool
 | .leaf _ => true
 | .grp t => mG ops ent t
 | .nd n ts => zL ops ent (.nd n ts) && fitsTs ops ent ts
def fitsTs (ops : List Opr) (ent : Int -> Int -> Str) : List Tr -> Bool
 | [] => true
 | t :: ts => mG ops ent t && fitsTs ops ent ts
end
theorem uP {ops : List Opr} {ent : Int -> Int -> Str} : ∀ {ts : List Tr},fitsTs ops ent ts = ts.all (mG ops ent)
 | [] => rfl
 | t :: ts => by simp only [fitsTs,List.all_cons,uP]
end PV
end
section
namespace PV
open PySem PySem.Spec PyProof.Rows L2
def Ent.key (x : Ent) : Int × Int := (x.s,x.o)
end PV
end
section
namespace PV
open PySem PySem.Spec PyProof.Rows L2
/-- a dict that holds the entry of each pair -/
def aDh (h : Hh) (j : Nat) (ops : List Opr) (es : List Ent) : Prop := ∃ kvs,h[j]? = some (.dT kvs) /\ ∀ s o,fR kvs (kOf s o) = if (s,o) ∈ aEK ops then some (.str (aGn es s o)) else none
theorem aDh.ux {is : List Nat} {h h' : Hh} {j : Nat} {ops : List Opr} {es : List Ent} (d : aDh h j ops es) (u : Ux is h h') (hj : j ∉ is) : aDh h' j ops es := by
 obtain ⟨kvs,e,hg⟩ := d
 exact ⟨kvs,u.get e hj,hg⟩
/-- entries with increased numbers -/
def Ent.up (n : Nat) (x : Ent) : Ent := ⟨x.s + n,x.o + n,x.e⟩
/-- operators of one word each -/
structure Named (ops : List Opr) (ws : List Str) : Prop where
 kd : ∀ o ∈ ops,o.kind ∈ kinds /\ o.kind ≠ "closed"
 wd : ops.map Opr.words = ws.map fun w => [w]
theorem Named.app {a b : List Opr} {ws us : List Str} (h1 : Named a ws) (h2 : Named b us) : Named (a ++ b) (ws ++ us) := ⟨fun o ho => by
 rcases List.mem_append.mp ho with ho | ho
 ·exact h1.kd o ho
 ·exact h2.kd o ho,by rw [List.map_append,List.map_append,h1.wd,h2.wd]⟩
end PV
end
section
namespace PV
open PySem PySem.Spec PyProof.Rows L2
/-- an unfinished operator,or an open group -/
structure Uf where
 num : Option Nat
 parts : List Tr
 later : List Str
def Uf.bd (f : Uf) : Bool := f.num.isNone || !f.later.isEmpty
def Uf.nm (f : Uf) : Nat := f.num.getD 0
inductive RErr where
 | missing (p : Nat) | unexp (p : Nat) | uncl (p : Nat) | entry (p s o : Nat)
def aGL (ops : List Opr) (b : Bool) (w : Str) : Option Nat := ops.findIdx? fun o => decide (o.L = b) && decide (o.words.head? = some w)
/-- the last child -/
theorem aDP {ops : List Opr} {n c : Nat} {ts : List Tr} {r : Tr} (h : nxt ops false (.nd n ts) = some (c,r)) : ts.dropLast ++ [r] = ts := by
 obtain ⟨n',ts',o,h1,_,_,hc,he⟩ := nG h
 cases h1
 simp only [Bool.false_eq_true,if_false] at hc
 have hlt := aH he
 have hne : ts ≠ [] := fun z => by rw [z] at hlt; simp at hlt
 have : ts.getLast hne = r := by
  rw [List.getLast_eq_getElem]
  rw [List.getElem?_eq_getElem hlt] at he
  have h2 : ts.length - 1 = c := hc.symm
  simp only [h2]
  exact Option.some.inj he
 rw [<- this]
 exact List.dropLast_concat_getLast hne
end PV
end
section
namespace PV
open PySem PySem.Spec PyProof.Rows L2
end PV
end
section
namespace PV
open PySem PySem.Spec PyProof.Rows L2
end PV
end
section
namespace PV
open PySem PySem.Spec PyProof.Rows L2
section
variable (ops : List Opr) (ent : Int -> Int -> Str) (p : Str -> Prop)
def lsp (t : Tr) : List Tr := lX ops true t.depth t
def rsp (t : Tr) : List Tr := lX ops false t.depth t
/-- the tokens so far of an operator: its left part,its words with its other parts -/
def ftk (o : Opr) (parts : List Tr) (used : List Str) : List Str :=
 if o.L = true then (match parts with | [] => [] | l :: qs => l.toks ops ++ nV used (qs.map (Tr.toks ops))) else nV used (parts.map (Tr.toks ops))
/-- the numbers on its left side -/
def fls (o : Opr) (n : Nat) (parts : List Tr) : List Nat :=
 if o.L = true then n :: (match parts with | [] => [] | l :: _ => (lsp ops l).map Tr.num) else []
/-- an unfinished operator,with the words that were used -/
structure FOk (n : Nat) (parts : List Tr) (later : List Str) (o : Opr) (used : List Str) : Prop where
 eo : ops[n]? = some o
 wd : o.words = used ++ later
 ln : parts.length + 1 = used.length + (if o.L = true then 1 else 0)
 ne : 1 <= used.length
 ok : ∀ q ∈ parts,q.ok ops p /\ mG ops ent q = true
 lf : o.L = true -> ∀ l,parts.head? = some l -> ∀ x ∈ rsp ops l,ent x.num n = "reduce"
end
section
variable {ops : List Opr} {ent : Int -> Int -> Str} {p : Str -> Prop}
/-- a node of such parts -/
theorem aFt {n : Nat} {o : Opr} {ts : List Tr} (eo : ops[n]? = some o) (hl : ts.length = o.holes) (hok : ∀ q ∈ ts,q.ok ops p /\ mG ops ent q = true) (lf : o.L = true -> ∀ l,ts.head? = some l -> ∀ x ∈ rsp ops l,ent x.num n = "reduce") (rf : o.Rr = true -> ∀ r,ts.getLast? = some r -> ∀ x ∈ lsp ops r,ent n x.num = "shift") :
  (Tr.nd n ts).ok ops p /\ mG ops ent (.nd n ts) = true /\ (lsp ops (.nd n ts)).map Tr.num = fls ops o n ts := by
 have ok : (Tr.nd n ts).ok ops p := ⟨⟨o,eo,hl⟩,aBc.mpr fun q hq => (hok q hq).1⟩
 have hdl : (Tr.nd n ts).depth = Tr.depths ts + 1 := by simp only [Tr.depth]
 refine ⟨ok, ?_, ?_⟩
 ·rw [mG,Bool.and_eq_true,uP,List.all_eq_true]
  refine ⟨?_,fun q hq => (hok q hq).2⟩
  unfold zL
  rw [Bool.and_eq_true]
  constructor
  ·cases e : nxt ops false (.nd n ts) with
   | none => rfl
   | some q =>
    obtain ⟨c,r⟩ := q
    obtain ⟨n',ts',o',h1,h2,h3,hc,h4⟩ := nG e
    cases h1
    rw [eo] at h2; cases h2
    have hts := aDP e
    have hlast : ts.getLast? = some r := by rw [<- hts]; simp
    simp only [List.all_eq_true,decide_eq_true_eq]
    exact fun x hx => rf (by simpa using h3) r hlast x hx
  ·cases e : nxt ops true (.nd n ts) with
   | none => rfl
   | some q =>
    obtain ⟨c,l⟩ := q
    obtain ⟨n',ts',o',h1,h2,h3,hc,h4⟩ := nG e
    cases h1
    rw [eo] at h2; cases h2
    simp only [if_true] at hc
    subst hc
    have hh : ts.head? = some l := by rw [List.head?_eq_getElem?]; exact h4
    simp only [List.all_eq_true,decide_eq_true_eq]
    exact fun x hx => lf (by simpa using h3) l hh x hx
 ·unfold lsp fls
  rw [hdl]
  cases hL : o.L with
  | false =>
   have : nxt ops true (.nd n ts) = none := by simp [nxt,eo,hL]
   rw [lO this]; rfl
  | true =>
   have hs := aBS (side := true) eo ok
   simp only [if_true,hL] at hs
   obtain ⟨⟨c,l⟩,e⟩ := Option.isSome_iff_exists.mp hs
   obtain ⟨n',ts',o',h1,h2,h3,hc,h4⟩ := nG e
   cases h1
   simp only [if_true] at hc
   subst hc
   cases ts with
   | nil => simp at h4
   | cons l' qs =>
    have : l' = l := by simpa using h4
    subst this
    have hld : l'.depth <= Tr.depths (l' :: qs) := rD.mp (Nat.le_refl _) l' (by simp)
    rw [rS e,aC9 (f := Tr.depths (l' :: qs)) (g := l'.depth) hld (Nat.le_refl _)]
    rfl
/-- tokens of the whole -/
theorem aF6 {n : Nat} {o : Opr} {ts : List Tr} (eo : ops[n]? = some o) (hL : o.L = true -> ts ≠ []) : (Tr.nd n ts).toks ops = ftk ops o ts o.words := by
 simp only [Tr.toks,aBR,eo,ftk,xP]
 cases h : o.L with
 | false => simp
 | true =>
  cases ts with
  | nil => exact absurd rfl (hL h)
  | cons l qs => simp
theorem aCs {α : Type} {l : List α} {x : α} (h : l ≠ []) : (l ++ [x]).head? = l.head? := by
 cases l with
 | nil => exact absurd rfl h
 | cons a l => rfl
theorem FOk.pne {n : Nat} {o : Opr} {parts : List Tr} {used : List Str} {later : List Str} (F : FOk ops ent p n parts later o used) : o.L = true -> parts ≠ [] := fun h z => by
 have ln := F.ln
 have := F.ne
 rw [h,z] at ln
 simp only [List.length_nil,if_true] at ln; omega
/-- all words used,no right hole -/
theorem FOk.done {n : Nat} {o : Opr} {parts : List Tr} {used : List Str} (F : FOk ops ent p n parts [] o used) (hR : o.Rr = false) :
  (Tr.nd n parts).ok ops p /\ mG ops ent (.nd n parts) = true /\ (lsp ops (.nd n parts)).map Tr.num = fls ops o n parts /\ (Tr.nd n parts).toks ops = ftk ops o parts used := by
 have hw : o.words = used := by rw [F.wd,List.append_nil]
 have hl : parts.length = o.holes := by
  have := F.ln
  have := F.ne
  unfold Opr.holes
  rw [hw,hR]
  simp only [Bool.false_eq_true,if_false]
  omega
 obtain ⟨h1,h2,h3⟩ := aFt (ts := parts) (p := p) (ent := ent) F.eo hl F.ok F.lf (fun h => by rw [hR] at h; cases h)
 exact ⟨h1,h2,h3,by rw [aF6 F.eo F.pne,hw]⟩
/-- the next word,behind a closed hole -/
theorem FOk.next {n : Nat} {o : Opr} {parts : List Tr} {used later : List Str} {w : Str} {x : Tr} (F : FOk ops ent p n parts (w :: later) o used) (xo : x.ok ops p) (xf : mG ops ent x = true) : FOk ops ent p n (parts ++ [x]) later o (used ++ [w]) := by
 refine ⟨F.eo,by rw [F.wd]; simp, ?_,by simp,fun q hq => ?_,fun hL l hh => F.lf hL l (by rwa [aCs (F.pne hL)] at hh)⟩
 ·have := F.ln
  simp only [List.length_append,List.length_cons,List.length_nil]
  omega
 ·rcases List.mem_append.mp hq with hq | hq
  ·exact F.ok q hq
  ·have : q = x := by simpa using hq
   subst this; exact ⟨xo,xf⟩
end
end PV
end
section
namespace PV
open PySem PySem.Spec PyProof.Rows L2
end PV
end
section
namespace PV
open PySem PySem.Spec PyProof.Rows L2
end PV
end
section
namespace PV
open PySem PySem.Spec PyProof.Rows L2
/-- from the innermost boundary on -/
def bs (st : List Uf) : List Uf := st.dropWhile fun f => !f.bd
end PV
end
section
namespace PV
open PySem PySem.Spec PyProof.Rows L2
end PV
end
section
namespace PV
open PySem PySem.Spec PyProof.Rows L2
theorem aBM {ops ops' : List Opr} (h : ops'.Sublist ops) : (dO ops').Sublist (dO ops) := by
 unfold dO
 induction h with
 | slnil => exact List.Sublist.refl _
 | cons a _ ih => simp only [List.flatMap_cons]; exact ih.trans (List.sublist_append_right _ _)
 | cons_cons a _ ih => simp only [List.flatMap_cons]; exact (List.Sublist.refl _).append ih
theorem OpsOk.sub {ops ops' : List Opr} (O : OpsOk ops) (h : ops'.Sublist ops) : OpsOk ops' := by
 have hf : ∀ b,(cV b ops').Sublist (cV b ops) := fun b => h.filterMap _
 have hl := aBM h
 exact ⟨fun o ho => O.ok o (h.subset ho),fun b => (O.nd b).sublist (hf b),O.lt.sublist hl,fun x hx b hb => O.ld x (hl.subset hx) b ((hf b).subset hb)⟩
def aGD (n : Nat) (x : Int) : Int := if (n : Int) < x then x - 1 else x
def Ent.low (n : Nat) (x : Ent) : Ent := ⟨aGD n x.s,aGD n x.o,x.e⟩
end PV
end
section
namespace PV
open PySem PySem.Spec PyProof.Rows L2
def rdF (tb sA fA kA : Nat) (od : D) : List (Str × D) := [(("rules" : Str), .ref tb),("starts", .ref sA),("follows", .ref fA),("stack", .ref kA),("operand",od)]
def ufF (num : D) (p : Nat) (later : List Str) : List (Str × D) := [(("number" : Str),num),("parts", .ref p),("later", .tup (later.map .str))]
def aKv (f : Uf) : D := match f.num with
 | none => .non
 | some n => .int (n : Nat)
def odD : Option Tr -> D
 | none => .non
 | some t => t.enc
structure FrAt (h : Hh) (x : Nat × Nat × Uf) : Prop where
 u : h[x.1]? = some (.ins 1 (ufF (aKv x.2.2) x.2.1 x.2.2.later))
 p : h[x.2.1]? = some (.lst (Tr.encs x.2.2.parts))
def vV (fr : List (Nat × Nat × Uf)) : List Nat := fr.flatMap fun x => [x.1,x.2.1]
/-- the reader at r: its frames,the innermost first; nothing below n0 has changed -/
structure RdAt (hb : Hh) (ops : List Opr) (r tb sA fA kA : Nat) (h : Hh) (fr : List (Nat × Nat × Uf)) (od : Option Tr) : Prop where
 rd : h[r]? = some (.ins 2 (rdF tb sA fA kA (odD od)))
 st : ∃ kvs,h[sA]? = some (.dK kvs) /\ ∀ w,fR kvs (.inr w) = (aGL ops false w).map fun n => D.int (n : Nat)
 fo : ∃ kvs,h[fA]? = some (.dK kvs) /\ ∀ w,fR kvs (.inr w) = (aGL ops true w).map fun n => D.int (n : Nat)
 sk : h[kA]? = some (.lst (fr.reverse.map fun x => D.ref x.1))
 fs : ∀ x ∈ fr,FrAt h x
 nd : (r :: sA :: fA :: kA :: vV fr).Nodup
 lo : ∀ a ∈ r :: sA :: fA :: kA :: vV fr,hb.length <= a
 old : ∀ a,a < hb.length -> h[a]? = hb[a]?
 len : hb.length <= h.length
section
variable {hb h h' : Hh} {ops : List Opr} {r tb sA fA kA : Nat} {fr fr' : List (Nat × Nat × Uf)} {od od' : Option Tr}
theorem aDx {x : Nat × Nat × Uf} (h : x ∈ fr) : x.1 ∈ vV fr /\ x.2.1 ∈ vV fr := by
 unfold vV
 exact ⟨List.mem_flatMap.mpr ⟨x,h,by simp⟩,List.mem_flatMap.mpr ⟨x,h,by simp⟩⟩
theorem RdAt.lt (a : RdAt hb ops r tb sA fA kA h fr od) : r < h.length /\ sA < h.length /\ fA < h.length /\ kA < h.length := by
 obtain ⟨_,e1,_⟩ := a.st
 obtain ⟨_,e2,_⟩ := a.fo
 exact ⟨aH a.rd,aH e1,aH e2,aH a.sk⟩
/-- another heap with the same cells -/
theorem RdAt.same (a : RdAt hb ops r tb sA fA kA h fr od) (hl : hb.length <= h'.length) (hs : ∀ b ∈ r :: sA :: fA :: kA :: vV fr,h'[b]? = h[b]?) (ho : ∀ b,b < hb.length -> h'[b]? = h[b]?) : RdAt hb ops r tb sA fA kA h' fr od := by
 refine ⟨by rw [hs r (by simp)]; exact a.rd, ?_, ?_,by rw [hs kA (by simp)]; exact a.sk,fun x hx => ?_,a.nd,a.lo,fun b l => (ho b l).trans (a.old b l),hl⟩
 ·obtain ⟨kvs,e,g⟩ := a.st; exact ⟨kvs,by rw [hs sA (by simp)]; exact e,g⟩
 ·obtain ⟨kvs,e,g⟩ := a.fo; exact ⟨kvs,by rw [hs fA (by simp)]; exact e,g⟩
 ·have f := aDx hx
  exact ⟨by rw [hs x.1 (by simp [f.1])]; exact (a.fs x hx).u,by rw [hs x.2.1 (by simp [f.2])]; exact (a.fs x hx).p⟩
end
end PV
end
section
namespace PV
open PySem PySem.Spec PyProof.Rows L2
end PV
end
section
namespace PV
open PySem PySem.Spec PyProof.Rows L2
/-- a value by its content; src is the law's source of draws -/
inductive Q where
 | non | bl (b : Bool) | int (i : Int) | str (x : Str) | tup (ws : List Q) | kt (ws : List Q) | lst (ws : List Q)
 | dK (kvs : List (Key × Q)) | dT (kvs : List (List Key × Q)) | ins (c : Nat) (fs : List (Str × Q))
 | ty (n : String) | fn (f : Nat) | cls (c : Nat) | xc (c : Nat) (ks : List Str) (ws : List Q) | src
 deriving Inhabited
section
variable {P : Q -> Prop} (h1 : P .non) (h2 : ∀ b,P (.bl b)) (h3 : ∀ i,P (.int i)) (h4 : ∀ x,P (.str x)) (h5 : ∀ qs,(∀ q ∈ qs,P q) -> P (.tup qs)) (h6 : ∀ qs,(∀ q ∈ qs,P q) -> P (.kt qs)) (h7 : ∀ qs,(∀ q ∈ qs,P q) -> P (.lst qs))
 (h8 : ∀ kvs : List (Key × Q),(∀ q ∈ kvs,P q.2) -> P (.dK kvs)) (h9 : ∀ kvs : List (List Key × Q),(∀ q ∈ kvs,P q.2) -> P (.dT kvs)) (h10 : ∀ c (kvs : List (Str × Q)),(∀ q ∈ kvs,P q.2) -> P (.ins c kvs))
 (h11 : ∀ n,P (.ty n)) (h12 : ∀ n,P (.fn n)) (h13 : ∀ n,P (.cls n)) (h14 : ∀ c ks qs,(∀ q ∈ qs,P q) -> P (.xc c ks qs)) (h15 : P .src)
include h1 h2 h3 h4 h5 h6 h7 h8 h9 h10 h11 h12 h13 h14 h15
mutual
theorem Q.ind : ∀ q : Q,P q
 | .non => h1
 | .bl b => h2 b
 | .int i => h3 i
 | .str x => h4 x
 | .tup qs => h5 qs (Q.inds qs)
 | .kt qs => h6 qs (Q.inds qs)
 | .lst qs => h7 qs (Q.inds qs)
 | .dK kvs => h8 kvs (Q.indK kvs)
 | .dT kvs => h9 kvs (Q.indT kvs)
 | .ins c kvs => h10 c kvs (Q.indF kvs)
 | .ty n => h11 n
 | .fn n => h12 n
 | .cls n => h13 n
 | .xc c ks qs => h14 c ks qs (Q.inds qs)
 | .src => h15
theorem Q.inds : ∀ (qs : List Q),∀ q ∈ qs,P q
 | [] => fun q hq => by cases hq
 | q :: qs => fun x hx => (List.mem_cons.mp hx).elim (fun e => e ▸ Q.ind q) (Q.inds qs x)
theorem Q.indK : ∀ (qs : List (Key × Q)),∀ q ∈ qs,P q.2
 | [] => fun q hq => by cases hq
 | (k,q) :: qs => fun x hx => (List.mem_cons.mp hx).elim (fun e => e ▸ Q.ind q) (Q.indK qs x)
theorem Q.indT : ∀ (qs : List (List Key × Q)),∀ q ∈ qs,P q.2
 | [] => fun q hq => by cases hq
 | (k,q) :: qs => fun x hx => (List.mem_cons.mp hx).elim (fun e => e ▸ Q.ind q) (Q.indT qs x)
theorem Q.indF : ∀ (qs : List (Str × Q)),∀ q ∈ qs,P q.2
 | [] => fun q hq => by cases hq
 | (k,q) :: qs => fun x hx => (List.mem_cons.mp hx).elim (fun e => e ▸ Q.ind q) (Q.indF qs x)
end
end
section
variable (F : Nat -> Prop) (sa : Nat) (h : Hh)
mutual
def Rep : Q -> D -> Prop
 | .non,w => w = .non
 | .bl b,w => w = .bl b
 | .int i,w => w = .int i
 | .str x,w => w = .str x
 | .ty n,w => w = .ty n
 | .fn n,w => w = .fn n
 | .cls n,w => w = .cls n
 | .src,w => w = .ref sa
 | .tup qs,w => ∃ ws,w = .tup ws /\ Reps qs ws
 | .kt qs,w => ∃ ws,w = .kt ws /\ Reps qs ws
 | .xc c ks qs,w => ∃ ws,w = .xc c ks ws /\ Reps qs ws
 | .lst qs,w => ∃ ws,(w = .tl ws \/ ∃ a,w = .ref a /\ F a /\ h[a]? = some (.lst ws)) /\ Reps qs ws
 | .dK kvs,w => ∃ a ws,w = .ref a /\ F a /\ h[a]? = some (.dK ws) /\ RepA kvs ws
 | .dT kvs,w => ∃ a ws,w = .ref a /\ F a /\ h[a]? = some (.dT ws) /\ RepB kvs ws
 | .ins c fs,w => ∃ a ws,w = .ref a /\ F a /\ h[a]? = some (.ins c ws) /\ RepC fs ws
def Reps : List Q -> List D -> Prop
 | [],ws => ws = []
 | q :: qs,ws => ∃ w r,ws = w :: r /\ w.isTl = false /\ Rep q w /\ Reps qs r
def RepA : List (Key × Q) -> List (Key × D) -> Prop
 | [],ws => ws = []
 | (k,q) :: qs,ws => ∃ w r,ws = (k,w) :: r /\ w.isTl = false /\ Rep q w /\ RepA qs r
def RepB : List (List Key × Q) -> List (List Key × D) -> Prop
 | [],ws => ws = []
 | (k,q) :: qs,ws => ∃ w r,ws = (k,w) :: r /\ w.isTl = false /\ Rep q w /\ RepB qs r
def RepC : List (Str × Q) -> List (Str × D) -> Prop
 | [],ws => ws = []
 | (k,q) :: qs,ws => ∃ w r,ws = (k,w) :: r /\ w.isTl = false /\ Rep q w /\ RepC qs r
end
def aT {κ : Type} : List (κ × Q) -> List (κ × D) -> Prop
 | [],ws => ws = []
 | (k,q) :: qs,ws => ∃ w r,ws = (k,w) :: r /\ w.isTl = false /\ Rep F sa h q w /\ aT qs r
end
section
variable {F F' : Nat -> Prop} {sa : Nat} {h h' : Hh} {w : D} {ws : List D} {q : Q} {qs : List Q}
theorem aBj : ∀ {kvs : List (Key × Q)} {ws : List (Key × D)},RepA F sa h kvs ws ↔ aT F sa h kvs ws
 | [],ws => by simp only [RepA,aT]
 | (k,q) :: kvs,ws => by simp only [RepA,aT,aBj]
theorem aBk : ∀ {kvs : List (List Key × Q)} {ws : List (List Key × D)},RepB F sa h kvs ws ↔ aT F sa h kvs ws
 | [],ws => by simp only [RepB,aT]
 | (k,q) :: kvs,ws => by simp only [RepB,aT,aBk]
theorem aBl : ∀ {kvs : List (Str × Q)} {ws : List (Str × D)},RepC F sa h kvs ws ↔ aT F sa h kvs ws
 | [],ws => by simp only [RepC,aT]
 | (k,q) :: kvs,ws => by simp only [RepC,aT,aBl]
theorem lM {kvs : List (Key × Q)} : Rep F sa h (.dK kvs) w ↔ ∃ a ws,w = .ref a /\ F a /\ h[a]? = some (.dK ws) /\ aT F sa h kvs ws := by simp only [Rep,aBj]
theorem lN {kvs : List (List Key × Q)} : Rep F sa h (.dT kvs) w ↔ ∃ a ws,w = .ref a /\ F a /\ h[a]? = some (.dT ws) /\ aT F sa h kvs ws := by simp only [Rep,aBk]
theorem jP {c : Nat} {kvs : List (Str × Q)} : Rep F sa h (.ins c kvs) w ↔ ∃ a ws,w = .ref a /\ F a /\ h[a]? = some (.ins c ws) /\ aT F sa h kvs ws := by simp only [Rep,aBl]
theorem Reps.len : ∀ {qs : List Q} {ws : List D},Reps F sa h qs ws -> ws.length = qs.length
 | [],_,r => by simp only [Reps] at r; rw [r]; rfl
 | q :: qs,_,r => by
  simp only [Reps] at r
  obtain ⟨w,r,rfl,_,_,z⟩ := r
  simp [z.len]
theorem Reps.get : ∀ {qs : List Q} {ws : List D} {i : Nat} {q : Q},Reps F sa h qs ws -> qs[i]? = some q -> ∃ w,ws[i]? = some w /\ w.isTl = false /\ Rep F sa h q w
 | [],_,i,q,r,e => by simp at e
 | q :: qs,_,i,q',r,e => by
  simp only [Reps] at r
  obtain ⟨w,r,rfl,h1,h2,z⟩ := r
  cases i with
  | zero => simp at e; subst e; exact ⟨w,rfl,h1,h2⟩
  | succ i => simpa using z.get (by simpa using e)
theorem jG : ∀ {qs : List Q} {ws : List D},Reps F sa h qs ws ↔ ws.length = qs.length /\ ∀ (i : Nat) (q : Q) (w : D),qs[i]? = some q -> ws[i]? = some w -> w.isTl = false /\ Rep F sa h q w
 | [],ws => by
  simp only [Reps]
  constructor
  ·rintro rfl; simp
  ·rintro ⟨h1,_⟩; simpa using h1
 | q :: qs,ws => by
  simp only [Reps,jG]
  constructor
  ·rintro ⟨w,r,rfl,h1,h2,h3,h4⟩
   refine ⟨by simp [h3],fun i x y ex ey => ?_⟩
   cases i with
   | zero => simp at ex ey; subst ex; subst ey; exact ⟨h1,h2⟩
   | succ i => exact h4 i x y (by simpa using ex) (by simpa using ey)
  ·rintro ⟨h1,h2⟩
   cases ws with
   | nil => simp at h1
   | cons w r =>
    have := h2 0 q w rfl rfl
    exact ⟨w,r,rfl,this.1,this.2,by simpa using h1,fun i x y ex ey => h2 (i + 1) x y (by simpa using ex) (by simpa using ey)⟩
theorem Reps.app {qs' : List Q} {ws' : List D} : ∀ {qs : List Q} {ws : List D},Reps F sa h qs ws -> Reps F sa h qs' ws' -> Reps F sa h (qs ++ qs') (ws ++ ws')
 | [],_,a,b => by simp only [Reps] at a; subst a; exact b
 | q :: qs,_,a,b => by
  simp only [Reps] at a
  obtain ⟨w,r,rfl,h1,h2,z⟩ := a
  simp only [List.cons_append,Reps]
  exact ⟨w,_,rfl,h1,h2,z.app b⟩
theorem Reps.one (r : Rep F sa h q w) (hw : w.isTl = false) : Reps F sa h [q] [w] := by
 simp only [Reps]; exact ⟨w,[],rfl,hw,r,rfl⟩
theorem Reps.drop : ∀ {qs : List Q} {ws : List D} (n : Nat),Reps F sa h qs ws -> Reps F sa h (qs.drop n) (ws.drop n)
 | qs,ws,0,a => a
 | [],_,n + 1,a => by simp only [Reps] at a; subst a; simp [Reps]
 | q :: qs,_,n + 1,a => by
  simp only [Reps] at a
  obtain ⟨w,r,rfl,h1,h2,z⟩ := a
  simpa using z.drop n
theorem Reps.take : ∀ {qs : List Q} {ws : List D} (n : Nat),Reps F sa h qs ws -> Reps F sa h (qs.take n) (ws.take n)
 | qs,ws,0,a => by simp [Reps]
 | [],_,n + 1,a => by simp only [Reps] at a; subst a; simp [Reps]
 | q :: qs,_,n + 1,a => by
  simp only [Reps] at a
  obtain ⟨w,r,rfl,h1,h2,z⟩ := a
  simp only [List.take_succ_cons,Reps]
  exact ⟨w,_,rfl,h1,h2,z.take n⟩
theorem aT.keys {κ : Type} : ∀ {kvs : List (κ × Q)} {ws : List (κ × D)},aT F sa h kvs ws -> ws.map (·.1) = kvs.map (·.1)
 | [],_,r => by simp only [aT] at r; rw [r]; rfl
 | (k,q) :: kvs,_,r => by
  simp only [aT] at r
  obtain ⟨w,r,rfl,_,_,z⟩ := r
  simp [z.keys]
theorem aT.vals {κ : Type} : ∀ {kvs : List (κ × Q)} {ws : List (κ × D)},aT F sa h kvs ws -> Reps F sa h (kvs.map (·.2)) (ws.map (·.2))
 | [],_,r => by simp only [aT] at r; rw [r]; rfl
 | (k,q) :: kvs,_,r => by
  simp only [aT] at r
  obtain ⟨w,r,rfl,h1,h2,z⟩ := r
  simp only [List.map_cons,Reps]
  exact ⟨w,_,rfl,h1,h2,z.vals⟩
theorem sW {κ : Type} : ∀ {kvs : List (κ × Q)} {ws : List (κ × D)},ws.map (·.1) = kvs.map (·.1) -> Reps F sa h (kvs.map (·.2)) (ws.map (·.2)) -> aT F sa h kvs ws
 | [],ws,e,r => by simpa [aT] using e
 | (k,q) :: kvs,[],e,r => by simp at e
 | (k,q) :: kvs,(k',w) :: ws,e,r => by
  simp only [List.map_cons,Reps,List.cons.injEq] at e r
  obtain ⟨rfl,e⟩ := e
  obtain ⟨w',r',⟨rfl,rfl⟩,h1,h2,z⟩ := r
  simp only [aT]
  exact ⟨w,ws,rfl,h1,h2,sW e z⟩
/-- the frozen cells as they were,and more of them -/
structure Gw (F : Nat -> Prop) (h : Hh) (F' : Nat -> Prop) (h' : Hh) : Prop where
 len : h.length <= h'.length
 up : ∀ a,F a -> F' a
 same : ∀ a,F a -> h'[a]? = h[a]?
theorem Gw.rfl' : Gw F h F h := ⟨Nat.le_refl _,fun _ z => z,fun _ _ => rfl⟩
theorem Gw.trans {F2 : Nat -> Prop} {h2 : Hh} (a : Gw F h F' h') (b : Gw F' h' F2 h2) : Gw F h F2 h2 := ⟨Nat.le_trans a.len b.len,fun x z => b.up x (a.up x z),fun x z => (b.same x (a.up x z)).trans (a.same x z)⟩
theorem jR (ih : ∀ q ∈ qs,∀ w,Rep F sa h q w -> Rep F' sa h' q w) (r : Reps F sa h qs ws) : Reps F' sa h' qs ws := by
 rw [jG] at r ⊢
 refine ⟨r.1,fun i q w e1 e2 => ?_⟩
 have := r.2 i q w e1 e2
 exact ⟨this.1,ih q (List.mem_of_getElem? e1) w this.2⟩
theorem oC {κ : Type} {kvs : List (κ × Q)} {ws : List (κ × D)} (ih : ∀ q ∈ kvs,∀ w,Rep F sa h q.2 w -> Rep F' sa h' q.2 w) (r : aT F sa h kvs ws) : aT F' sa h' kvs ws :=
 sW r.keys (jR (fun q hq w => by
  obtain ⟨kv,hkv,rfl⟩ := List.mem_map.mp hq
  exact ih kv hkv w) r.vals)
theorem Rep.mono (g : Gw F h F' h') (r : Rep F sa h q w) : Rep F' sa h' q w := by
 induction q using Q.ind generalizing w with
 | h5 qs ih => simp only [Rep] at r ⊢; obtain ⟨ws,e,r⟩ := r; exact ⟨ws,e,jR (fun q hq w r => ih q hq r) r⟩
 | h6 qs ih => simp only [Rep] at r ⊢; obtain ⟨ws,e,r⟩ := r; exact ⟨ws,e,jR (fun q hq w r => ih q hq r) r⟩
 | h14 c ks qs ih => simp only [Rep] at r ⊢; obtain ⟨ws,e,r⟩ := r; exact ⟨ws,e,jR (fun q hq w r => ih q hq r) r⟩
 | h7 qs ih =>
  simp only [Rep] at r ⊢
  obtain ⟨ws,e,r⟩ := r
  refine ⟨ws, ?_,jR (fun q hq w r => ih q hq r) r⟩
  rcases e with e | ⟨a,e,f,c⟩
  ·exact .inl e
  ·exact .inr ⟨a,e,g.up a f,by rw [g.same a f]; exact c⟩
 | h8 kvs ih => rw [lM] at r ⊢; obtain ⟨a,ws,e,f,c,r⟩ := r; exact ⟨a,ws,e,g.up a f,by rw [g.same a f]; exact c,oC (fun q hq w r => ih q hq r) r⟩
 | h9 kvs ih => rw [lN] at r ⊢; obtain ⟨a,ws,e,f,c,r⟩ := r; exact ⟨a,ws,e,g.up a f,by rw [g.same a f]; exact c,oC (fun q hq w r => ih q hq r) r⟩
 | h10 n kvs ih => rw [jP] at r ⊢; obtain ⟨a,ws,e,f,c,r⟩ := r; exact ⟨a,ws,e,g.up a f,by rw [g.same a f]; exact c,oC (fun q hq w r => ih q hq r) r⟩
 | _ => simpa only [Rep] using r
theorem Reps.mono (g : Gw F h F' h') (r : Reps F sa h qs ws) : Reps F' sa h' qs ws := jR (fun _ _ _ r => r.mono g) r
theorem aT.mono {κ : Type} {kvs : List (κ × Q)} {ws : List (κ × D)} (g : Gw F h F' h') (r : aT F sa h kvs ws) : aT F' sa h' kvs ws := oC (fun _ _ _ r => r.mono g) r
end
end PV
end
section
namespace PV
open PySem PySem.Spec PyProof.Rows L2
inductive Rs (α : Type) where
 | ok (a : α) | exc (c : Nat) (fs : List (Str × Q))
/-- a plain program: what must hold of its result,the number of draws so far -/
abbrev Pm (α : Type) := (Rs α -> Nat -> Prop) -> Nat -> Prop
def Pm.ret {α : Type} (a : α) : Pm α := fun K c => K (.ok a) c
def Pm.bind {α β : Type} (p : Pm α) (f : α -> Pm β) : Pm β := fun K c => p (fun r c' => match r with
 | .ok a => f a K c'
 | .exc n fs => K (.exc n fs) c') c
def Pm.bad {α : Type} : Pm α := fun _ _ => False
def Pm.exc {α : Type} (n : Nat) (fs : List (Str × Q)) : Pm α := fun K c => K (.exc n fs) c
def Pm.of {α : Type} (o : Option α) : Pm α := match o with
 | some a => .ret a
 | none => .bad
section
variable {α β γ : Type}
@[simp] theorem aA {a : α} {f : α -> Pm β} : (Pm.ret a).bind f = f a := id rfl
@[simp] theorem aIa {f : α -> Pm β} : Pm.bind Pm.bad f = Pm.bad := id rfl
@[simp] theorem aIb {n : Nat} {fs : List (Str × Q)} {f : α -> Pm β} : Pm.bind (Pm.exc n fs) f = Pm.exc n fs := id rfl
@[simp] theorem aC {a : α} : Pm.of (some a) = .ret a := id rfl
@[simp] theorem aIJ : Pm.of (none : Option α) = .bad := id rfl
@[simp] theorem aI {p : Pm α} {f : α -> Pm β} {g : β -> Pm γ} : (p.bind f).bind g = p.bind fun a => (f a).bind g := by
 funext K c
 show p _ c = p _ c
 apply congrFun
 apply congrArg
 funext r c'
 cases r <;> rfl
@[simp] theorem aJy {a : α} {K : Rs α -> Nat -> Prop} {c : Nat} : Pm.ret a K c = K (.ok a) c := id rfl
@[simp] theorem aJx {n : Nat} {fs : List (Str × Q)} {K : Rs α -> Nat -> Prop} {c : Nat} : Pm.exc n fs K c = K (.exc n fs) c := id rfl
end
/-- where a def began: the heap,the frozen cells,the source -/
structure Bs where
 h0 : Hh
 F0 : Nat -> Prop
 sa : Nat
structure Iv (B : Bs) (F : Nat -> Prop) (h : Hh) (c : Nat) : Prop where
 sr : Sr h B.sa c
 ns : ¬ F B.sa
 fl : ∀ a,F a -> ∃ x,h[a]? = some x /\ x.lim h.length = true
 len : B.h0.length <= h.length
 sl : B.sa < B.h0.length
 up0 : ∀ a,B.F0 a -> F a
 dn0 : ∀ a,a < B.h0.length -> F a -> B.F0 a
 same0 : ∀ a,a < B.h0.length -> a ≠ B.sa -> h[a]? = B.h0[a]?
structure Ge (sa : Nat) (F : Nat -> Prop) (h : Hh) (F' : Nat -> Prop) (h' : Hh) : Prop extends Gw F h F' h' where
 dn : ∀ a,a < h.length -> F' a -> F a
 old : ∀ a,a < h.length -> a ≠ sa -> h'[a]? = h[a]?
def Top (F : Nat -> Prop) (sa : Nat) (h : Hh) (a : Nat) : Q -> Prop
 | .lst qs => ∃ ws,h[a]? = some (.lst ws) /\ Reps F sa h qs ws
 | .dK kvs => ∃ ws,h[a]? = some (.dK ws) /\ aT F sa h kvs ws
 | .dT kvs => ∃ ws,h[a]? = some (.dT ws) /\ aT F sa h kvs ws
 | .ins c fs => ∃ ws,h[a]? = some (.ins c ws) /\ aT F sa h fs ws
 | _ => False
/-- fresh: nobody holds it -/
def pR (n : Nat) (F : Nat -> Prop) (sa : Nat) (h : Hh) (q : Q) (w : D) : Prop := (∃ qs ws,q = .lst qs /\ w = .tl ws /\ Reps F sa h qs ws) \/ ∃ a,w = .ref a /\ n <= a /\ ¬ F a /\ Top F sa h a q
section
variable {F F' F1 F2 : Nat -> Prop} {sa a n c c' : Nat} {h h' h1 h2 : Hh} {w : D} {ws : List D} {q : Q} {qs : List Q} {B : Bs}
theorem Ge.rfl' : Ge sa F h F h := ⟨.rfl',fun _ _ z => z,fun _ _ _ => rfl⟩
theorem Ge.trans (x : Ge sa F h F1 h1) (y : Ge sa F1 h1 F2 h2) : Ge sa F h F2 h2 :=
 ⟨x.toGw.trans y.toGw,fun a l z => x.dn a l (y.dn a (Nat.lt_of_lt_of_le l x.len) z),fun a l z => (y.old a (Nat.lt_of_lt_of_le l x.len) z).trans (x.old a l z)⟩
theorem Top.mono (g : Gw F h F' h') (ha : h'[a]? = h[a]?) (t : Top F sa h a q) : Top F' sa h' a q := by
 cases q with
 | lst qs => obtain ⟨ws,e,r⟩ := t; exact ⟨ws,by rw [ha]; exact e,r.mono g⟩
 | dK qs => obtain ⟨ws,e,r⟩ := t; exact ⟨ws,by rw [ha]; exact e,r.mono g⟩
 | dT qs => obtain ⟨ws,e,r⟩ := t; exact ⟨ws,by rw [ha]; exact e,r.mono g⟩
 | ins n qs => obtain ⟨ws,e,r⟩ := t; exact ⟨ws,by rw [ha]; exact e,r.mono g⟩
 | _ => exact t.elim
theorem Top.lt (t : Top F sa h a q) : a < h.length := by
 cases q with
 | lst qs => obtain ⟨ws,e,r⟩ := t; exact aH e
 | dK qs => obtain ⟨ws,e,r⟩ := t; exact aH e
 | dT qs => obtain ⟨ws,e,r⟩ := t; exact aH e
 | ins n qs => obtain ⟨ws,e,r⟩ := t; exact aH e
 | _ => exact t.elim
theorem Top.rep (t : Top F sa h a q) (f : F a) : Rep F sa h q (.ref a) := by
 cases q with
 | lst qs => obtain ⟨ws,e,r⟩ := t; simp only [Rep]; exact ⟨ws, .inr ⟨a,rfl,f,e⟩,r⟩
 | dK qs => obtain ⟨ws,e,r⟩ := t; rw [lM]; exact ⟨a,ws,rfl,f,e,r⟩
 | dT qs => obtain ⟨ws,e,r⟩ := t; rw [lN]; exact ⟨a,ws,rfl,f,e,r⟩
 | ins n qs => obtain ⟨ws,e,r⟩ := t; rw [jP]; exact ⟨a,ws,rfl,f,e,r⟩
 | _ => exact t.elim
theorem Rep.top (r : Rep F sa h q (.ref a)) : (q = .src /\ a = sa) \/ (F a /\ Top F sa h a q) := by
 cases q with
 | lst qs =>
  simp only [Rep] at r
  obtain ⟨ws,e | ⟨b,e,f,g⟩,r⟩ := r
  ·cases e
  ·cases e; exact .inr ⟨f,ws,g,r⟩
 | dK qs => rw [lM] at r; obtain ⟨b,ws,e,f,g,r⟩ := r; cases e; exact .inr ⟨f,ws,g,r⟩
 | dT qs => rw [lN] at r; obtain ⟨b,ws,e,f,g,r⟩ := r; cases e; exact .inr ⟨f,ws,g,r⟩
 | ins n qs => rw [jP] at r; obtain ⟨b,ws,e,f,g,r⟩ := r; cases e; exact .inr ⟨f,ws,g,r⟩
 | src => simp only [Rep] at r; cases r; exact .inl ⟨rfl,rfl⟩
 | tup qs => simp only [Rep] at r; obtain ⟨_,e,_⟩ := r; cases e
 | kt qs => simp only [Rep] at r; obtain ⟨_,e,_⟩ := r; cases e
 | xc c ks qs => simp only [Rep] at r; obtain ⟨_,e,_⟩ := r; cases e
 | _ => simp only [Rep] at r; cases r
theorem lH {n : Nat} : ∀ {ws : List D},D.lims n ws = true ↔ ∀ w ∈ ws,D.lim n w = true
 | [] => by simp
 | w :: ws => by simp [lH (ws := ws)]
theorem jD {κ : Type} {n : Nat} : ∀ {kvs : List (κ × D)},gR n kvs = D.lims n (kvs.map (·.2))
 | [] => rfl
 | p :: kvs => by simp [jD (kvs := kvs)]
theorem Rep.lim (hF : ∀ a,F a -> a < n) (hs : sa < n) (r : Rep F sa h q w) : w.lim n = true := by
 have key : ∀ {qs : List Q} {ws : List D},(∀ q ∈ qs,∀ w,Rep F sa h q w -> w.lim n = true) -> Reps F sa h qs ws -> D.lims n ws = true := fun {qs ws} ih r => lH.mpr fun w hw => by
  obtain ⟨i,hi,e⟩ := List.getElem_of_mem hw
  have hl := r.len
  have := (jG.mp r).2 i (qs[i]'(by omega)) w (by simp) (by rw [<- e]; simp)
  exact ih _ (List.getElem_mem _) w this.2
 induction q using Q.ind generalizing w with
 | h5 qs ih => simp only [Rep] at r; obtain ⟨ws,rfl,r⟩ := r; simp only [D.lim]; exact key (fun q hq w r => ih q hq r) r
 | h6 qs ih => simp only [Rep] at r; obtain ⟨ws,rfl,r⟩ := r; simp only [D.lim]; exact key (fun q hq w r => ih q hq r) r
 | h14 c ks qs ih => simp only [Rep] at r; obtain ⟨ws,rfl,r⟩ := r; simp only [D.lim]; exact key (fun q hq w r => ih q hq r) r
 | h7 qs ih =>
  simp only [Rep] at r
  obtain ⟨ws,rfl | ⟨a,rfl,f,e⟩,r⟩ := r
  ·simp only [D.lim]; exact key (fun q hq w r => ih q hq r) r
  ·simp [hF a f]
 | h8 kvs ih => rw [lM] at r; obtain ⟨a,ws,rfl,f,_⟩ := r; simp [hF a f]
 | h9 kvs ih => rw [lN] at r; obtain ⟨a,ws,rfl,f,_⟩ := r; simp [hF a f]
 | h10 n kvs ih => rw [jP] at r; obtain ⟨a,ws,rfl,f,_⟩ := r; simp [hF a f]
 | h15 => simp only [Rep] at r; subst r; simp [hs]
 | _ => simp only [Rep] at r; subst r; simp [D.lim]
theorem Reps.lim (hF : ∀ a,F a -> a < n) (hs : sa < n) (r : Reps F sa h qs ws) : D.lims n ws = true := lH.mpr fun w hw => by
 obtain ⟨i,hi,e⟩ := List.getElem_of_mem hw
 have hl := r.len
 have := (jG.mp r).2 i (qs[i]'(by omega)) w (by simp) (by rw [<- e]; simp)
 exact this.2.lim hF hs
theorem aT.lim {κ : Type} {kvs : List (κ × Q)} {ws : List (κ × D)} (hF : ∀ a,F a -> a < n) (hs : sa < n) (r : aT F sa h kvs ws) : gR n ws = true := by
 rw [jD]; exact r.vals.lim hF hs
/-- what a cut leaves -/
theorem Rep.cut (hF : ∀ a,a < n -> F' a -> F a) (hs : ∀ a,F a -> h2[a]? = h'[a]? /\ ∃ x,h'[a]? = some x /\ x.lim n = true) (r : Rep F' sa h' q w) (l : w.lim n = true) : Rep F sa h2 q w := by
 have key : ∀ {qs : List Q} {ws : List D},(∀ q ∈ qs,∀ w,Rep F' sa h' q w -> w.lim n = true -> Rep F sa h2 q w) -> Reps F' sa h' qs ws -> D.lims n ws = true -> Reps F sa h2 qs ws := fun {qs ws} ih r l => by
  rw [jG] at r ⊢
  refine ⟨r.1,fun i q w e1 e2 => ?_⟩
  have := r.2 i q w e1 e2
  exact ⟨this.1,ih q (List.mem_of_getElem? e1) w this.2 (lH.mp l w (List.mem_of_getElem? e2))⟩
 have keyK : ∀ {κ : Type} {kvs : List (κ × Q)} {ws : List (κ × D)},(∀ q ∈ kvs,∀ w,Rep F' sa h' q.2 w -> w.lim n = true -> Rep F sa h2 q.2 w) -> aT F' sa h' kvs ws -> gR n ws = true -> aT F sa h2 kvs ws := fun {κ kvs ws} ih r l =>
  sW r.keys (key (fun q hq w => by
   obtain ⟨kv,hkv,rfl⟩ := List.mem_map.mp hq
   exact ih kv hkv w) r.vals (by rw [<- jD]; exact l))
 induction q using Q.ind generalizing w with
 | h5 qs ih => simp only [Rep] at r ⊢; obtain ⟨ws,rfl,r⟩ := r; simp only [D.lim] at l; exact ⟨ws,rfl,key (fun q hq w r l => ih q hq r l) r l⟩
 | h6 qs ih => simp only [Rep] at r ⊢; obtain ⟨ws,rfl,r⟩ := r; simp only [D.lim] at l; exact ⟨ws,rfl,key (fun q hq w r l => ih q hq r l) r l⟩
 | h14 c ks qs ih => simp only [Rep] at r ⊢; obtain ⟨ws,rfl,r⟩ := r; simp only [D.lim] at l; exact ⟨ws,rfl,key (fun q hq w r l => ih q hq r l) r l⟩
 | h7 qs ih =>
  simp only [Rep] at r ⊢
  obtain ⟨ws,rfl | ⟨a,rfl,f,e⟩,r⟩ := r
  ·simp only [D.lim] at l; exact ⟨ws, .inl rfl,key (fun q hq w r l => ih q hq r l) r l⟩
  ·have fa := hF a (by simpa using l) f
   obtain ⟨s1,x,s2,s3⟩ := hs a fa
   rw [e] at s2; cases s2
   exact ⟨ws, .inr ⟨a,rfl,fa,by rw [s1]; exact e⟩,key (fun q hq w r l => ih q hq r l) r (by simpa [Cl.lim] using s3)⟩
 | h8 kvs ih =>
  rw [lM] at r ⊢
  obtain ⟨a,ws,rfl,f,e,r⟩ := r
  have fa := hF a (by simpa using l) f
  obtain ⟨s1,x,s2,s3⟩ := hs a fa
  rw [e] at s2; cases s2
  exact ⟨a,ws,rfl,fa,by rw [s1]; exact e,keyK (fun q hq w r l => ih q hq r l) r (by simpa [Cl.lim] using s3)⟩
 | h9 kvs ih =>
  rw [lN] at r ⊢
  obtain ⟨a,ws,rfl,f,e,r⟩ := r
  have fa := hF a (by simpa using l) f
  obtain ⟨s1,x,s2,s3⟩ := hs a fa
  rw [e] at s2; cases s2
  exact ⟨a,ws,rfl,fa,by rw [s1]; exact e,keyK (fun q hq w r l => ih q hq r l) r (by simpa [Cl.lim] using s3)⟩
 | h10 m kvs ih =>
  rw [jP] at r ⊢
  obtain ⟨a,ws,rfl,f,e,r⟩ := r
  have fa := hF a (by simpa using l) f
  obtain ⟨s1,x,s2,s3⟩ := hs a fa
  rw [e] at s2; cases s2
  exact ⟨a,ws,rfl,fa,by rw [s1]; exact e,keyK (fun q hq w r l => ih q hq r l) r (by simpa [Cl.lim] using s3)⟩
 | _ => simpa only [Rep] using r
theorem Reps.cut (hF : ∀ a,a < n -> F' a -> F a) (hs : ∀ a,F a -> h2[a]? = h'[a]? /\ ∃ x,h'[a]? = some x /\ x.lim n = true) (r : Reps F' sa h' qs ws) (l : D.lims n ws = true) : Reps F sa h2 qs ws := by
 rw [jG] at r ⊢
 refine ⟨r.1,fun i q w e1 e2 => ?_⟩
 have := r.2 i q w e1 e2
 exact ⟨this.1,this.2.cut hF hs (lH.mp l w (List.mem_of_getElem? e2))⟩
theorem aT.cut {κ : Type} {kvs : List (κ × Q)} {ws : List (κ × D)} (hF : ∀ a,a < n -> F' a -> F a) (hs : ∀ a,F a -> h2[a]? = h'[a]? /\ ∃ x,h'[a]? = some x /\ x.lim n = true) (r : aT F' sa h' kvs ws) (l : gR n ws = true) : aT F sa h2 kvs ws :=
 sW r.keys (r.vals.cut hF hs (by rw [<- jD]; exact l))
/-- one more frozen cell -/
def Fx (F : Nat -> Prop) (a : Nat) : Nat -> Prop := fun b => F b \/ b = a
theorem Top.cut {c : Cl} (hF : ∀ a,a < n -> F' a -> F a) (hs : ∀ a,F a -> h2[a]? = h'[a]? /\ ∃ x,h'[a]? = some x /\ x.lim n = true) (t : Top F' sa h' a q) (e : h'[a]? = some c) (l : c.lim n = true) {b : Nat} (e2 : h2[b]? = some c) : Top F sa h2 b q := by
 cases q with
 | lst qs => obtain ⟨ws,e',r⟩ := t; rw [e] at e'; cases e'; exact ⟨ws,e2,r.cut hF hs (by simpa [Cl.lim] using l)⟩
 | dK qs => obtain ⟨ws,e',r⟩ := t; rw [e] at e'; cases e'; exact ⟨ws,e2,r.cut hF hs (by simpa [Cl.lim] using l)⟩
 | dT qs => obtain ⟨ws,e',r⟩ := t; rw [e] at e'; cases e'; exact ⟨ws,e2,r.cut hF hs (by simpa [Cl.lim] using l)⟩
 | ins m qs => obtain ⟨ws,e',r⟩ := t; rw [e] at e'; cases e'; exact ⟨ws,e2,r.cut hF hs (by simpa [Cl.lim] using l)⟩
 | _ => exact t.elim
end
end PV
end
section
namespace PV
open PySem PySem.Spec PyProof.Rows L2
/-- the outcome r of a heap's function beside a plain program's continuation K -/
inductive Out (B : Bs) (F : Nat -> Prop) (h : Hh) {α β : Type} (Rl : (Nat -> Prop) -> Hh -> β -> α -> Prop) (K : Rs β -> Nat -> Prop) : R α -> Prop
 | ok {q : β} {c' : Nat} {w : α} {h' : Hh} {F' : Nat -> Prop} (k : K (.ok q) c') (iv : Iv B F' h' c') (g : Ge B.sa F h F' h') (r : Rl F' h' q w) : Out B F h Rl K (.ok w h')
 | exc {n c' : Nat} {fs : List (Str × Q)} {fs' : List (Str × D)} {h' : Hh} {F' : Nat -> Prop} (k : K (.exc n fs) c') (iv : Iv B F' h' c') (g : Ge B.sa F h F' h') (r : aT F' B.sa h' fs fs') : Out B F h Rl K (.exc n fs' h')
abbrev RlS (B : Bs) : (Nat -> Prop) -> Hh -> Q -> D -> Prop := fun F h q w => Rep F B.sa h q w
abbrev RlF (n : Nat) (B : Bs) : (Nat -> Prop) -> Hh -> Q -> D -> Prop := fun F h q w => pR n F B.sa h q w
abbrev RlA (B : Bs) : (Nat -> Prop) -> Hh -> List Q -> List D -> Prop := fun F h q w => Reps F B.sa h q w
abbrev RlE {α : Type} : (Nat -> Prop) -> Hh -> α -> α -> Prop := fun _ _ q w => w = q
def bK {α β : Type} (g : α -> Pm β) (K : Rs β -> Nat -> Prop) : Rs α -> Nat -> Prop := fun r c' => match r with
 | .ok a => g a K c'
 | .exc n fs => K (.exc n fs) c'
section
variable {F F' F1 F2 : Nat -> Prop} {sa a n c c' : Nat} {h h' h1 h2 : Hh} {w : D} {ws : List D} {q : Q} {qs : List Q} {B : Bs} {α β α' β' : Type} {Rl : (Nat -> Prop) -> Hh -> β -> α -> Prop} {Rl2 : (Nat -> Prop) -> Hh -> β' -> α' -> Prop} {K : Rs β -> Nat -> Prop} {K2 : Rs β' -> Nat -> Prop}
theorem Out.ge {r : R α} (g : Ge B.sa F h F1 h1) (o : Out B F1 h1 Rl K r) : Out B F h Rl K r := by
 cases o with
 | ok k iv g' r => exact .ok k iv (g.trans g') r
 | exc k iv g' r => exact .exc k iv (g.trans g') r
theorem Out.bind {r : R α} {f : α -> Hh -> R α'} {g : β -> Pm β'} (o : Out B F h Rl (bK g K2) r)
  (hf : ∀ {F1 : Nat -> Prop} {h1 : Hh} {q : β} {w : α} {c1 : Nat},Iv B F1 h1 c1 -> Ge B.sa F h F1 h1 -> Rl F1 h1 q w -> g q K2 c1 -> Out B F1 h1 Rl2 K2 (f w h1)) : Out B F h Rl2 K2 (r.bind f) := by
 cases o with
 | ok k iv g' r => exact (hf iv g' r k).ge g'
 | exc k iv g' r => exact .exc k iv g' r
theorem Out.imp {r : R α} {Rl' : (Nat -> Prop) -> Hh -> β -> α -> Prop} (o : Out B F h Rl K r) (hr : ∀ {F1 : Nat -> Prop} {h1 : Hh} {q : β} {w : α} {c1 : Nat},Iv B F1 h1 c1 -> Ge B.sa F h F1 h1 -> Rl F1 h1 q w -> Rl' F1 h1 q w) : Out B F h Rl' K r := by
 cases o with
 | ok k iv g' r => exact .ok k iv g' (hr iv g' r)
 | exc k iv g' r => exact .exc k iv g' r
theorem Out.ret {q : β} {w : α} (iv : Iv B F h c) (k : K (.ok q) c) (r : Rl F h q w) : Out B F h Rl K (.ok w h) := .ok k iv .rfl' r
theorem Iv.lt (iv : Iv B F h c) (f : F a) : a < h.length := let ⟨_,e,_⟩ := iv.fl a f; aH e
theorem Iv.sal (iv : Iv B F h c) : B.sa < h.length := Nat.lt_of_lt_of_le iv.sl iv.len
theorem Iv.base (iv : Iv B F h c) : Iv ⟨h,F,B.sa⟩ F h c := ⟨iv.sr,iv.ns,iv.fl,Nat.le_refl _,iv.sal,fun _ z => z,fun _ _ z => z,fun _ _ _ => rfl⟩
theorem Iv.rebase (iv : Iv B F h c) (g : Ge B.sa F h F1 h1) (i2 : Iv ⟨h,F,B.sa⟩ F1 h1 c') : Iv B F1 h1 c' :=
 ⟨i2.sr,i2.ns,i2.fl,Nat.le_trans iv.len g.len,iv.sl,fun a z => g.up a (iv.up0 a z),fun a l z => iv.dn0 a l (g.dn a (Nat.lt_of_lt_of_le l iv.len) z),fun a l z => (g.old a (Nat.lt_of_lt_of_le l iv.len) z).trans (iv.same0 a l z)⟩
theorem Rep.limH (iv : Iv B F h c) (r : Rep F B.sa h q w) : w.lim h.length = true := r.lim (fun _ f => iv.lt f) iv.sal
theorem Reps.limH (iv : Iv B F h c) (r : Reps F B.sa h qs ws) : D.lims h.length ws = true := r.lim (fun _ f => iv.lt f) iv.sal
theorem Top.limH (iv : Iv B F h c) (t : Top F B.sa h a q) : ∃ x,h[a]? = some x /\ x.lim h.length = true := by
 cases q with
 | lst qs => obtain ⟨ws,e,r⟩ := t; exact ⟨_,e,by simp only [Cl.lim]; exact r.limH iv⟩
 | dK qs => obtain ⟨ws,e,r⟩ := t; exact ⟨_,e,by simp only [Cl.lim]; exact r.lim (fun _ f => iv.lt f) iv.sal⟩
 | dT qs => obtain ⟨ws,e,r⟩ := t; exact ⟨_,e,by simp only [Cl.lim]; exact r.lim (fun _ f => iv.lt f) iv.sal⟩
 | ins m qs => obtain ⟨ws,e,r⟩ := t; exact ⟨_,e,by simp only [Cl.lim]; exact r.lim (fun _ f => iv.lt f) iv.sal⟩
 | _ => exact t.elim
/-- freeze a cell of one's own -/
theorem Iv.freeze (iv : Iv B F h c) (ha : B.h0.length <= a) (t : Top F B.sa h a q) : Iv B (Fx F a) h c := by
 have := iv.sl
 refine ⟨iv.sr,fun z => ?_,fun b z => ?_,iv.len,iv.sl,fun b z => .inl (iv.up0 b z),fun b l z => ?_,iv.same0⟩
 ·rcases z with z | z
  ·exact iv.ns z
  ·omega
 ·rcases z with z | rfl
  ·exact iv.fl b z
  ·exact t.limH iv
 ·rcases z with z | rfl
  ·exact iv.dn0 b l z
  ·omega
theorem nB : Gw F h (Fx F a) h := ⟨Nat.le_refl _,fun _ z => .inl z,fun _ _ => rfl⟩
theorem Ge.fx (g : Ge sa F h F1 h1) (ha : h.length <= a) : Ge sa F h (Fx F1 a) h1 := ⟨g.toGw.trans nB,fun b l z => by
 rcases z with z | rfl
 ·exact g.dn b l z
 ·omega,g.old⟩
theorem aAX {n m : Nat} {x : Cl} (hn : n <= m) (l : x.lim n = true) : x.lim m = true := by
 cases x with
 | lst ws => simp only [Cl.lim] at l ⊢; exact lims_mono hn l
 | dK ws => simp only [Cl.lim,jD] at l ⊢; exact lims_mono hn l
 | dT ws => simp only [Cl.lim,jD] at l ⊢; exact lims_mono hn l
 | ins c ws => simp only [Cl.lim,jD] at l ⊢; exact lims_mono hn l
/-- a new cell at the end -/
theorem Iv.app (iv : Iv B F h c) (x : Cl) : Iv B F (h ++ [x]) c := by
 refine ⟨iv.sr.app,iv.ns,fun b z => ?_,by have := iv.len; simp; omega,iv.sl,iv.up0,iv.dn0,fun b l z => ?_⟩
 ·obtain ⟨y,e,l⟩ := iv.fl b z
  refine ⟨y, ?_,aAX (by simp) l⟩
  rw [List.getElem?_append_left (aH e)]; exact e
 ·have := iv.len
  rw [List.getElem?_append_left (by omega)]; exact iv.same0 b l z
theorem geApp {x : Cl} (hF : ∀ a,F a -> a < h.length) : Ge sa F h F (h ++ [x]) := ⟨⟨by simp,fun _ z => z,fun a z => List.getElem?_append_left (hF a z)⟩,fun _ _ z => z,fun a l _ => List.getElem?_append_left l⟩
theorem Iv.geApp (iv : Iv B F h c) {x : Cl} : Ge B.sa F h F (h ++ [x]) := PV.geApp fun _ f => iv.lt f
/-- what is stored -/
theorem nP (iv : Iv B F h c) (r : Rep F B.sa h q w) : ∃ F2,Iv B F2 (aQ w h).2 c /\ Ge B.sa F h F2 (aQ w h).2 /\ Rep F2 B.sa (aQ w h).2 q (aQ w h).1 /\ (aQ w h).1.isTl = false := by
 by_cases ht : w.isTl = true
 ·cases w with
  | tl ws =>
   have hq : ∃ qs,q = .lst qs /\ Reps F B.sa h qs ws := by
    cases q with
    | lst qs =>
     simp only [Rep] at r
     obtain ⟨ws',e | ⟨a,e,_⟩,r⟩ := r
     ·cases e; exact ⟨qs,rfl,r⟩
     ·cases e
    | tup qs => simp only [Rep] at r; obtain ⟨_,e,_⟩ := r; cases e
    | kt qs => simp only [Rep] at r; obtain ⟨_,e,_⟩ := r; cases e
    | xc _ _ qs => simp only [Rep] at r; obtain ⟨_,e,_⟩ := r; cases e
    | dK qs => rw [lM] at r; obtain ⟨_,_,e,_⟩ := r; cases e
    | dT qs => rw [lN] at r; obtain ⟨_,_,e,_⟩ := r; cases e
    | ins _ qs => rw [jP] at r; obtain ⟨_,_,e,_⟩ := r; cases e
    | _ => simp only [Rep] at r; cases r
   obtain ⟨qs,rfl,rs⟩ := hq
   have g0 : Ge B.sa F h F (h ++ [.lst ws]) := iv.geApp
   have t : Top F B.sa (h ++ [.lst ws]) h.length (.lst qs) := ⟨ws,by simp,rs.mono g0.toGw⟩
   have i2 := (iv.app (.lst ws)).freeze iv.len t
   exact ⟨Fx F h.length,i2,g0.fx (Nat.le_refl _),(t.mono nB rfl).rep (.inr rfl),rfl⟩
  | _ => cases ht
 ·have : aQ w h = (w,h) := by
   cases w <;> first | rfl | exact absurd rfl ht
  rw [this]
  exact ⟨F,iv, .rfl',r,by simpa using ht⟩
theorem aDd (iv : Iv B F h c) (hn : n <= h.length) (r : pR n F B.sa h q w) : ∃ a,(aQ w h).1 = .ref a /\ n <= a /\ ¬ F a /\ Iv B F (aQ w h).2 c /\ Ge B.sa F h F (aQ w h).2 /\ Top F B.sa (aQ w h).2 a q := by
 rcases r with ⟨qs,ws,rfl,rfl,r⟩ | ⟨a,rfl,ha,hf,t⟩
 ·have g0 : Ge B.sa F h F (h ++ [.lst ws]) := iv.geApp
  exact ⟨h.length,rfl,hn,fun z => Nat.lt_irrefl _ (iv.lt z),iv.app _,g0,ws,by simp [aQ],r.mono g0.toGw⟩
 ·exact ⟨a,rfl,ha,hf,iv, .rfl',t⟩
theorem aJ2 (g : Ge B.sa F h F' h') (i2 : Iv B F' h' c') : iH h.length h h' = true := sK g.len fun j x hj e => by
 by_cases hs : j = B.sa
 ·subst hs
  obtain ⟨y,e2,l⟩ := i2.sr.cell h.length
  rw [e2] at e; cases e; exact .inr l
 ·rw [g.old j hj hs] at e; exact .inl e
theorem Iv.cut (iv : Iv B F h c) (g : Ge B.sa F h F' h') (i2 : Iv B F' h' c') : Iv B F (h'.take h.length) c' /\ Ge B.sa F h F (h'.take h.length) /\ (∀ a,F a -> (h'.take h.length)[a]? = h'[a]? /\ ∃ x,h'[a]? = some x /\ x.lim h.length = true) := by
 have hl := g.len
 have lt : (h'.take h.length).length = h.length := by simp; omega
 have tk : ∀ a,a < h.length -> (h'.take h.length)[a]? = h'[a]? := fun a l => by rw [List.getElem?_take]; simp [l]
 have nsa : ∀ a,F a -> a ≠ B.sa := fun a f z => iv.ns (z ▸ f)
 refine ⟨⟨i2.sr.cut iv.sal,iv.ns,fun a f => ?_,by rw [lt]; exact iv.len,iv.sl,iv.up0,iv.dn0,fun a l z => ?_⟩,⟨⟨by rw [lt]; exact Nat.le_refl _,fun _ z => z,fun a f => ?_⟩,fun _ _ z => z,fun a l z => ?_⟩,fun a f => ?_⟩
 ·obtain ⟨x,e,l⟩ := iv.fl a f
  exact ⟨x,by rw [tk a (aH e),g.old a (aH e) (nsa a f)]; exact e,by rw [lt]; exact l⟩
 ·have := iv.len
  rw [tk a (by omega)]; exact i2.same0 a l z
 ·rw [tk a (iv.lt f)]; exact g.same a f
 ·rw [tk a l]; exact g.old a l z
 ·obtain ⟨x,e,l⟩ := iv.fl a f
  exact ⟨tk a (iv.lt f),x,by rw [g.same a f]; exact e,l⟩
theorem Out.gcS {K : Rs Q -> Nat -> Prop} {r : R D} (iv : Iv B F h c) (o : Out B F h (RlS B) K r) : Out B F h (RlS B) K (gcR h r) := by
 cases o with
 | @ok q c' w h' F' k i2 g r =>
  obtain ⟨ic,gc',hs⟩ := iv.cut g i2
  show Out B F h (RlS B) K (gc h w h')
  unfold gc
  rw [if_pos (aJ2 g i2)]
  by_cases hl : w.lim h.length = true
  ·rw [if_pos hl]
   exact .ok k ic gc' (r.cut g.dn hs hl)
  ·rw [if_neg hl]
   split
   ·rename_i i
    split
    ·rename_i ws e
     split
     ·rename_i hz
      have t : ∃ qs,q = .lst qs /\ Reps F' B.sa h' qs ws := by
       rcases r.top with ⟨_,z⟩ | ⟨f,t⟩
       ·exact absurd (by simp [z,iv.sal]) hl
       ·cases q with
        | lst qs => obtain ⟨ws',e',r'⟩ := t; rw [e] at e'; cases e'; exact ⟨qs,rfl,r'⟩
        | dK qs => obtain ⟨ws',e',r'⟩ := t; rw [e] at e'; cases e'
        | dT qs => obtain ⟨ws',e',r'⟩ := t; rw [e] at e'; cases e'
        | ins m qs => obtain ⟨ws',e',r'⟩ := t; rw [e] at e'; cases e'
        | _ => exact t.elim
      obtain ⟨qs,rfl,rs⟩ := t
      refine .ok k ic gc' ?_
      simp only [RlS,Rep]
      exact ⟨ws, .inl rfl,rs.cut g.dn hs hz.1⟩
     ·exact .ok k i2 g r
    ·rename_i x hx e
     split
     ·rename_i hz
      have t : Top F' B.sa h' i q := by
       rcases r.top with ⟨_,z⟩ | ⟨f,t⟩
       ·exact absurd (by simp [z,iv.sal]) hl
       ·exact t
      have ia := ic.app x
      have lt : (h'.take h.length).length = h.length := by have := g.len; simp; omega
      have hs2 : ∀ a,F a -> (h'.take h.length ++ [x])[a]? = h'[a]? /\ ∃ x,h'[a]? = some x /\ x.lim h.length = true := fun a f => by
       obtain ⟨s1,s2⟩ := hs a f
       exact ⟨by rw [List.getElem?_append_left (by rw [lt]; exact iv.lt f)]; exact s1,s2⟩
      have t2 : Top F B.sa (h'.take h.length ++ [x]) h.length q := t.cut g.dn hs2 e hz.1 (by rw [List.getElem?_append_right (by omega)]; simp [lt])
      exact .ok (F' := Fx F h.length) k (ia.freeze iv.len t2) ((gc'.trans (Iv.geApp ic)).fx (Nat.le_refl _)) ((t2.mono nB rfl).rep (.inr rfl))
     ·exact .ok k i2 g r
    ·exact .ok k i2 g r
   ·exact .ok k i2 g r
 | @exc n c' fs fs' h' F' k i2 g r =>
  obtain ⟨ic,gc',hs⟩ := iv.cut g i2
  show Out B F h (RlS B) K (gcX h n fs' h')
  unfold gcX
  split
  ·rename_i hz
   exact .exc k ic gc' (r.cut g.dn hs hz.2)
  ·exact .exc k i2 g r
/-- fresh is more than whole -/
theorem pR.rep (iv : Iv B F h c) (hn : B.h0.length <= n) (r : pR n F B.sa h q w) : ∃ F2,Iv B F2 h c /\ (∀ F0 h0,Ge B.sa F0 h0 F h -> h0.length <= n -> Ge B.sa F0 h0 F2 h) /\ Rep F2 B.sa h q w := by
 rcases r with ⟨qs,ws,rfl,rfl,r⟩ | ⟨a,rfl,ha,hf,t⟩
 ·refine ⟨F,iv,fun _ _ g _ => g, ?_⟩
  simp only [Rep]; exact ⟨ws, .inl rfl,r⟩
 ·exact ⟨Fx F a,iv.freeze (Nat.le_trans hn ha) t,fun _ _ g l => g.fx (Nat.le_trans l ha),(t.mono nB rfl).rep (.inr rfl)⟩
theorem Out.fs {K : Rs Q -> Nat -> Prop} {r : R D} (iv : Iv B F h c) (o : Out B F h (RlF h.length B) K r) : Out B F h (RlS B) K r := by
 cases o with
 | ok k i2 g r =>
  obtain ⟨F2,i3,g3,r3⟩ := r.rep i2 iv.len
  exact .ok k i3 (g3 _ _ g (Nat.le_refl _)) r3
 | exc k i2 g r => exact .exc k i2 g r
end
inductive Sl where
 | no | fz (q : Q) | ow (q : Q) | eqd (w : D)
structure En (B : Bs) (F : Nat -> Prop) (O : Nat -> Option Nat) (h : Hh) (Γ : List Sl) (σ : Sg) : Prop where
 len : σ.length = Γ.length
 fz : ∀ (i : Nat) (q : Q),Γ[i]? = some (.fz q) -> ∃ w,σ[i]? = some (some w) /\ w.isTl = false /\ Rep F B.sa h q w
 ow : ∀ (i : Nat) (q : Q),Γ[i]? = some (.ow q) -> ∃ a,O i = some a /\ σ[i]? = some (some (.ref a)) /\ Top F B.sa h a q
 oh : ∀ i a,O i = some a -> B.h0.length <= a /\ ¬ F a /\ a < h.length
 inj : ∀ i j a,O i = some a -> O j = some a -> i = j
 eqd : ∀ (i : Nat) (w : D),Γ[i]? = some (.eqd w) -> σ[i]? = some (some w)
/-- whole,or a list or dict of one's own -/
def lR (B : Bs) (O : Nat -> Option Nat) (F : Nat -> Prop) (h : Hh) (q : Q) (w : D) : Prop := Rep F B.sa h q w \/ ∃ i a,O i = some a /\ w = .ref a /\ Top F B.sa h a q
section
variable {F F' F1 F2 : Nat -> Prop} {sa a n c c' : Nat} {h h' h1 h2 : Hh} {w : D} {ws : List D} {q : Q} {qs : List Q} {B : Bs} {O : Nat -> Option Nat} {Γ : List Sl} {σ : Sg}
theorem En.ge (en : En B F O h Γ σ) (iv : Iv B F h c) (g : Ge B.sa F h F1 h1) : En B F1 O h1 Γ σ := by
 have hs := iv.sl
 refine ⟨en.len,fun i q e => ?_,fun i q e => ?_,fun i a e => ?_,en.inj,en.eqd⟩
 ·obtain ⟨w,e1,e2,r⟩ := en.fz i q e
  exact ⟨w,e1,e2,r.mono g.toGw⟩
 ·obtain ⟨a,e1,e2,t⟩ := en.ow i q e
  obtain ⟨o1,o2,o3⟩ := en.oh i a e1
  exact ⟨a,e1,e2,t.mono g.toGw (g.old a o3 (by omega))⟩
 ·obtain ⟨o1,o2,o3⟩ := en.oh i a e
  exact ⟨o1,fun z => o2 (g.dn a o3 z),Nat.lt_of_lt_of_le o3 g.len⟩
theorem lR.ge (en : En B F O h Γ σ) (iv : Iv B F h c) (g : Ge B.sa F h F1 h1) (r : lR B O F h q w) : lR B O F1 h1 q w := by
 have hs := iv.sl
 rcases r with r | ⟨i,a,e1,e2,t⟩
 ·exact .inl (r.mono g.toGw)
 ·obtain ⟨o1,o2,o3⟩ := en.oh i a e1
  exact .inr ⟨i,a,e1,e2,t.mono g.toGw (g.old a o3 (by omega))⟩
end
end PV
end
section
namespace PV
open PySem PySem.Spec PyProof.Rows L2
/-- as Rep,but the cell at the top need not be frozen -/
def Vw (F : Nat -> Prop) (sa : Nat) (h : Hh) : Q -> D -> Prop
 | .lst qs,w => ∃ ws,(w = .tl ws \/ ∃ a,w = .ref a /\ h[a]? = some (.lst ws)) /\ Reps F sa h qs ws
 | .dK kvs,w => ∃ a ws,w = .ref a /\ h[a]? = some (.dK ws) /\ aT F sa h kvs ws
 | .dT kvs,w => ∃ a ws,w = .ref a /\ h[a]? = some (.dT ws) /\ aT F sa h kvs ws
 | .ins c kvs,w => ∃ a ws,w = .ref a /\ h[a]? = some (.ins c ws) /\ aT F sa h kvs ws
 | q,w => Rep F sa h q w
section
variable {F : Nat -> Prop} {sa : Nat} {h : Hh} {q x y : Q} {w u v : D} {qs : List Q} {ws : List D} {B : Bs} {O : Nat -> Option Nat}
theorem Rep.vw (r : Rep F sa h q w) : Vw F sa h q w := by
 cases q with
 | lst qs =>
  simp only [Rep,Vw] at r ⊢
  obtain ⟨ws,e,r⟩ := r
  refine ⟨ws, ?_,r⟩
  rcases e with e | ⟨a,e,_,e2⟩
  ·exact .inl e
  ·exact .inr ⟨a,e,e2⟩
 | dK qs => rw [lM] at r; obtain ⟨a,ws,e,_,e2,r⟩ := r; exact ⟨a,ws,e,e2,r⟩
 | dT qs => rw [lN] at r; obtain ⟨a,ws,e,_,e2,r⟩ := r; exact ⟨a,ws,e,e2,r⟩
 | ins c qs => rw [jP] at r; obtain ⟨a,ws,e,_,e2,r⟩ := r; exact ⟨a,ws,e,e2,r⟩
 | _ => exact r
theorem Top.vw {a : Nat} (t : Top F sa h a q) : Vw F sa h q (.ref a) := by
 cases q with
 | lst qs => obtain ⟨ws,e,r⟩ := t; exact ⟨ws, .inr ⟨a,rfl,e⟩,r⟩
 | dK qs => obtain ⟨ws,e,r⟩ := t; exact ⟨a,ws,rfl,e,r⟩
 | dT qs => obtain ⟨ws,e,r⟩ := t; exact ⟨a,ws,rfl,e,r⟩
 | ins c qs => obtain ⟨ws,e,r⟩ := t; exact ⟨a,ws,rfl,e,r⟩
 | _ => exact t.elim
theorem lR.vw (r : lR B O F h q w) : Vw F B.sa h q w := by
 rcases r with r | ⟨i,a,_,rfl,t⟩
 ·exact r.vw
 ·exact t.vw
theorem pR.vw {n : Nat} (r : pR n F sa h q w) : Vw F sa h q w := by
 rcases r with ⟨qs,ws,rfl,rfl,r⟩ | ⟨a,rfl,_,_,t⟩
 ·exact ⟨ws, .inl rfl,r⟩
 ·exact t.vw
theorem gB (v : Vw F sa h (.lst qs) w) : ∃ ws,asL h w = some ws /\ asM h w = some ws /\ asT w = none /\ tyD h w = some "list" /\ Reps F sa h qs ws := by
 obtain ⟨ws,rfl | ⟨a,rfl,e⟩,r⟩ := v
 ·exact ⟨ws,rfl,rfl,rfl,rfl,r⟩
 ·exact ⟨ws,by simp [asL,e],by simp [asM,e],rfl,by simp [tyD,e],r⟩
theorem cX (v : Vw F sa h (.tup qs) w) : ∃ ws,w = .tup ws /\ Reps F sa h qs ws := by simpa only [Vw,Rep] using v
theorem mN (v : Vw F sa h (.kt qs) w) : ∃ ws,w = .kt ws /\ Reps F sa h qs ws := by simpa only [Vw,Rep] using v
theorem bO {i : Int} (v : Vw F sa h (.int i) w) : w = .int i := by simpa only [Vw,Rep] using v
theorem iG {i : Bool} (v : Vw F sa h (.bl i) w) : w = .bl i := by simpa only [Vw,Rep] using v
theorem bZ {i : Str} (v : Vw F sa h (.str i) w) : w = .str i := by simpa only [Vw,Rep] using v
theorem rX (v : Vw F sa h .non w) : w = .non := by simpa only [Vw,Rep] using v
theorem aEX {n : String} (v : Vw F sa h (.ty n) w) : w = .ty n := by simpa only [Vw,Rep] using v
theorem aHX {n : Nat} (v : Vw F sa h (.cls n) w) : w = .cls n := by simpa only [Vw,Rep] using v
theorem aJp {c : Nat} {ks : List Str} (v : Vw F sa h (.xc c ks qs) w) : ∃ ws,w = .xc c ks ws /\ Reps F sa h qs ws := by simpa only [Vw,Rep] using v
theorem dH {i : Int} : Rep F sa h (.int i) (.int i) := by simp only [Rep]
theorem cR {i : Bool} : Rep F sa h (.bl i) (.bl i) := by simp only [Rep]
theorem fY {i : Str} : Rep F sa h (.str i) (.str i) := by simp only [Rep]
theorem aBm : Rep F sa h .non .non := by simp only [Rep]
theorem jQ (r : Reps F sa h qs ws) : Rep F sa h (.tup qs) (.tup ws) := by simp only [Rep]; exact ⟨ws,rfl,r⟩
theorem aAd (r : Reps F sa h qs ws) : Rep F sa h (.lst qs) (.tl ws) := by simp only [Rep]; exact ⟨ws, .inl rfl,r⟩
def aO : Nat -> Q -> Option PyData
 | 0,_ => none
 | n + 1,q => match q with
  | .non => some .none
  | .bl b => some (.bool b)
  | .int i => some (.int i)
  | .str x => some (.str x)
  | .tup ws => (aJ (aO n) ws).map .tuple
  | .kt ws => (aJ (aO n) ws).map .tuple
  | .lst ws => (aJ (aO n) ws).map .list
  | _ => none
theorem cZ {β : Type} {f : Q -> Option β} {g : D -> Option β} (hf : ∀ q w b,Rep F sa h q w -> f q = some b -> g w = some b) : ∀ {qs : List Q} {ws : List D} {bs : List β},Reps F sa h qs ws -> aJ f qs = some bs -> aJ g ws = some bs
 | [],_,bs,r,e => by simp only [Reps] at r; subst r; simpa [aJ] using e
 | q :: qs,_,bs,r,e => by
  simp only [Reps] at r
  obtain ⟨w,r,rfl,_,h2,z⟩ := r
  simp only [aJ] at e ⊢
  cases e1 : f q with
  | none => rw [e1] at e; cases e
  | some b =>
   cases e2 : aJ f qs with
   | none => rw [e1,e2] at e; cases e
   | some b' =>
    rw [e1,e2] at e
    rw [hf q w b h2 e1,cZ hf z e2]
    exact e
theorem gA : ∀ {n : Nat} {q : Q} {w : D} {d : PyData},Vw F sa h q w -> aO n q = some d -> toP h n w = some d
 | 0,_,_,_,_,e => by simp [aO] at e
 | n + 1,q,w,d,v,e => by
  have ih : ∀ q w b,Rep F sa h q w -> aO n q = some b -> toP h n w = some b := fun q w b r e => gA r.vw e
  cases q with
  | non => cases rX v; simpa [toP,aO] using e
  | bl b => cases iG v; simpa [toP,aO] using e
  | int i => cases bO v; simpa [toP,aO] using e
  | str x => cases bZ v; simpa [toP,aO] using e
  | tup qs =>
   obtain ⟨ws,rfl,r⟩ := cX v
   simp only [aO,Option.map_eq_some_iff] at e
   obtain ⟨ds,e,rfl⟩ := e
   simp only [toP,cZ ih r e,Option.map_some]
  | kt qs =>
   obtain ⟨ws,rfl,r⟩ := mN v
   simp only [aO,Option.map_eq_some_iff] at e
   obtain ⟨ds,e,rfl⟩ := e
   simp only [toP,cZ ih r e,Option.map_some]
  | lst qs =>
   obtain ⟨ws,hw,r⟩ := v
   simp only [aO,Option.map_eq_some_iff] at e
   obtain ⟨ds,e,rfl⟩ := e
   rcases hw with rfl | ⟨a,rfl,ea⟩
   ·simp only [toP,cZ ih r e,Option.map_some]
   ·simp only [toP,ea,cZ ih r e,Option.map_some]
  | _ => simp [aO] at e
def pS (f : D -> Hh -> R D) (g : Q -> Option Q) : Prop := ∀ (F : Nat -> Prop) (sa : Nat) (h : Hh) (x : Q) (u : D) (q : Q),Vw F sa h x u -> g x = some q -> ∃ w,f u h = .ok w h /\ Rep F sa h q w
def gY (f : D -> D -> Hh -> R D) (g : Q -> Q -> Option Q) : Prop := ∀ (F : Nat -> Prop) (sa : Nat) (h : Hh) (x y : Q) (u v : D) (q : Q),Vw F sa h x u -> Vw F sa h y v -> g x y = some q -> ∃ w,f u v h = .ok w h /\ Rep F sa h q w
/-- the same,and a list is a list just made -/
def aEy (f : D -> Hh -> R D) (g : Q -> Option Q) : Prop := ∀ (F : Nat -> Prop) (sa : Nat) (h : Hh) (x : Q) (u : D) (q : Q),Vw F sa h x u -> g x = some q -> ∃ qs ws,q = .lst qs /\ f u h = .ok (.tl ws) h /\ Reps F sa h qs ws
def aId (f : D -> D -> Hh -> R D) (g : Q -> Q -> Option Q) : Prop := ∀ (F : Nat -> Prop) (sa : Nat) (h : Hh) (x y : Q) (u v : D) (q : Q),Vw F sa h x u -> Vw F sa h y v -> g x y = some q -> ∃ qs ws,q = .lst qs /\ f u v h = .ok (.tl ws) h /\ Reps F sa h qs ws
def iJ : Q -> Q -> Option Q
 | .int i, .int j => some (.int (i + j))
 | .str i, .str j => if i.length + j.length <= sizeLine then some (.str (i ++ j)) else none
 | .tup i, .tup j => if i.length + j.length <= sizeLine then some (.tup (i ++ j)) else none
 | .lst i, .lst j => if i.length + j.length <= sizeLine then some (.lst (i ++ j)) else none
 | _,_ => none
def aER : Q -> Q -> Option Q
 | .lst i, .lst j => if i.length + j.length <= sizeLine then some (.lst (i ++ j)) else none
 | _,_ => none
theorem aG5 : aId cM aER := by
 intro F sa h x y u v q rx ry e
 unfold aER at e
 split at e
 ·split at e
  ·rename_i i j hl
   cases e
   obtain ⟨ws,a1,a2,a3,a4,r1⟩ := gB rx
   obtain ⟨us,b1,b2,b3,b4,r2⟩ := gB ry
   refine ⟨_,ws ++ us,rfl, ?_,r1.app r2⟩
   have hl' : ws.length + us.length <= sizeLine := by rw [r1.len,r2.len]; exact hl
   obtain ⟨_,rfl | ⟨a,rfl,ea⟩,_⟩ := rx <;> simp only [cM,asT,a2,b2,hl',if_true]
  ·cases e
 ·cases e
theorem uZ : gY cM iJ := by
 intro F sa h x y u v q rx ry e
 unfold iJ at e
 split at e
 ·cases e; cases bO rx; cases bO ry; exact ⟨_,rfl,dH⟩
 ·split at e
  ·rename_i hl
   cases e; cases bZ rx; cases bZ ry; exact ⟨_,by simp only [cM,hl,if_true],fY⟩
  ·cases e
 ·split at e
  ·rename_i hl
   cases e
   obtain ⟨ws,rfl,r1⟩ := cX rx
   obtain ⟨us,rfl,r2⟩ := cX ry
   rw [<- r1.len,<- r2.len] at hl
   exact ⟨_,aF8 (by exact hl),jQ (r1.app r2)⟩
  ·cases e
 ·rename_i i j
  obtain ⟨qs,ws,rfl,e2,r⟩ := aG5 F sa h _ _ u v q rx ry e
  exact ⟨_,e2,aAd r⟩
 ·cases e
def aKN : Q -> Q -> Option Q
 | .int i, .int j => some (.int (i - j))
 | _,_ => none
def wK : Q -> Q -> Option Q
 | .int i, .int j => if CMul i j then some (.int (i * j)) else none
 | .lst i, .int k => if -(2 ^ 63) <= k /\ k < 2 ^ 63 /\ i.length * k.toNat <= sizeLine then some (.lst (List.replicate k.toNat i).flatten) else none
 | _,_ => none
theorem aD7 {n : Nat} (r : Reps F sa h qs ws) : Reps F sa h (List.replicate n qs).flatten (List.replicate n ws).flatten := by
 induction n with
 | zero => simp [Reps]
 | succ n ih => simp only [List.replicate_succ,List.flatten_cons]; exact r.app ih
theorem aIS : gY iI wK := by
 intro F sa h x y u v q rx ry e
 unfold wK at e
 split at e
 ·split at e
  ·rename_i hl
   cases e; cases bO rx; cases bO ry; exact ⟨_,by simp only [iI,hl,if_true],dH⟩
  ·cases e
 ·split at e
  ·rename_i hl
   cases e; cases bO ry
   obtain ⟨ws,a1,a2,a3,a4,r1⟩ := gB rx
   rw [<- r1.len] at hl
   refine ⟨.tl (List.replicate _ ws).flatten, ?_,aAd (aD7 r1)⟩
   obtain ⟨_,rfl | ⟨a,rfl,ea⟩,_⟩ := rx <;> simp only [iI,a2,hl,if_true,and_self]
  ·cases e
 ·cases e
def oR (x y : Q) : Option Bool := match x,y with
 | .str a, .str b => some (decide (a = b))
 | x,y => match aO bD x,aO bD y with
  | some d,some e => if SeqAt.shaped d && SeqAt.shaped e then some (PyData.eqv d e) else none
  | _,_ => none
def qEq (x y : Q) : Option Q := (oR x y).map .bl
def qNe (x y : Q) : Option Q := (oR x y).map fun b => .bl (!b)
theorem aA0 {b : Bool} (rx : Vw F sa h x u) (ry : Vw F sa h y v) (e : oR x y = some b) : eqW u v h = .ok (.bl b) h /\ neW u v h = .ok (.bl (!b)) h := by
 unfold oR at e
 split at e
 ·cases e; cases bZ rx; cases bZ ry; exact ⟨rfl,rfl⟩
 ·rename_i hn
  split at e
  ·rename_i d d' e1 e2
   split at e
   ·rename_i hz
    cases e
    have p1 := gA rx e1
    have p2 := gA ry e2
    have hne : ¬ ∃ a b,u = .str a /\ v = .str b := by
     rintro ⟨a,b,rfl,rfl⟩
     have t1 : toP h bD (.str a) = some (.str a) := rfl
     have t2 : toP h bD (.str b) = some (.str b) := rfl
     rw [t1] at p1; rw [t2] at p2
     cases p1; cases p2
     have k1 : ∀ {x : Q} {a : Str},aO bD x = some (.str a) -> x = .str a := fun {x a} e => by
      cases x with
      | str z => simp only [aO,bD] at e; cases e; rfl
      | tup z => simp only [aO,bD,Option.map_eq_some_iff] at e; obtain ⟨_,_,e⟩ := e; cases e
      | kt z => simp only [aO,bD,Option.map_eq_some_iff] at e; obtain ⟨_,_,e⟩ := e; cases e
      | lst z => simp only [aO,bD,Option.map_eq_some_iff] at e; obtain ⟨_,_,e⟩ := e; cases e
      | _ => simp only [aO,bD] at e; cases e
     exact hn a b (k1 e1) (k1 e2)
    have ed : eqD h u v = some (PyData.eqv d d') := by simp only [eqD,p1,p2,hz,if_true]
    constructor
    ·unfold eqW; split
     ·exact absurd ⟨_,_,rfl,rfl⟩ hne
     ·rw [ed]
    ·unfold neW; split
     ·exact absurd ⟨_,_,rfl,rfl⟩ hne
     ·rw [ed]
   ·cases e
  ·cases e
theorem rR : gY eqW qEq := by
 intro F sa h x y u v q rx ry e
 unfold qEq at e
 obtain ⟨b,e',rfl⟩ := Option.map_eq_some_iff.mp e
 exact ⟨_,(aA0 rx ry e').1,cR⟩
theorem wM : gY neW qNe := by
 intro F sa h x y u v q rx ry e
 unfold qNe at e
 obtain ⟨b,e',rfl⟩ := Option.map_eq_some_iff.mp e
 exact ⟨_,(aA0 rx ry e').2,cR⟩
end
end PV
end
section
namespace PV
open PySem PySem.Spec PyProof.Rows L2
section
variable {F : Nat -> Prop} {sa : Nat} {h : Hh} {q x y : Q} {w u v : D} {qs : List Q} {ws : List D}
def rV : Q -> Option Key
 | .int i => some (.inl i)
 | .str x => some (.inr x)
 | _ => none
theorem pN {q : Q} {w : D} {k : Key} (r : Vw F sa h q w) (e : rV q = some k) : toK w = some k := by
 cases q with
 | int i => cases bO r; exact e
 | str i => cases bZ r; exact e
 | _ => simp [rV] at e
def nU {κ : Type} [DecidableEq κ] (kvs : List (κ × Q)) (k : κ) : Option Q := (kvs.find? fun kv => decide (kv.1 = k)).map (·.2)
theorem tR {κ : Type} [DecidableEq κ] {k : κ} : ∀ {kvs : List (κ × Q)} {ws : List (κ × D)},aT F sa h kvs ws -> (nU kvs k = none /\ fR ws k = none) \/ ∃ q w,nU kvs k = some q /\ fR ws k = some w /\ w.isTl = false /\ Rep F sa h q w
 | [],_,r => by simp only [aT] at r; subst r; exact .inl ⟨rfl,rfl⟩
 | (k',q) :: kvs,_,r => by
  simp only [aT] at r
  obtain ⟨w,r,rfl,h1,h2,z⟩ := r
  by_cases hk : k' = k
  ·subst hk
   exact .inr ⟨q,w,by simp [nU],by simp [fR],h1,h2⟩
  ·have ih := tR (k := k) z
   have e1 : nU ((k',q) :: kvs) k = nU kvs k := by simp [nU,List.find?_cons,hk]
   have e2 : fR ((k',w) :: r) k = fR r k := by simp [fR,List.find?_cons,hk]
   rw [e1,e2]; exact ih
/-- a key's place in a dict -/
def mF (d k : Q) : Option (Option Q) := match d with
 | .dK kvs => (rV k).map (nU kvs)
 | .dT kvs => match k with
  | .tup ks => (aJ rV ks).map (nU kvs)
  | _ => none
 | _ => none
theorem pX {o : Option Q} (rx : Vw F sa h x u) (ry : Vw F sa h y v) (e : mF x y = some o) : (∃ a,u = .ref a /\ dE h u = none) /\ ((o = none /\ jW h u v = some none) \/ ∃ q w,o = some q /\ jW h u v = some (some w) /\ w.isTl = false /\ Rep F sa h q w) := by
 cases x with
 | dK kvs =>
  obtain ⟨a,ws,rfl,ea,r⟩ := rx
  simp only [mF,Option.map_eq_some_iff] at e
  obtain ⟨k,e1,rfl⟩ := e
  have e2 := pN ry e1
  refine ⟨⟨a,rfl,by simp [dE,ea]⟩, ?_⟩
  have : jW h (.ref a) v = some (fR ws k) := by simp only [jW,ea,e2]
  rw [this]
  rcases tR (k := k) r with ⟨h1,h2⟩ | ⟨q,w,h1,h2,h3,h4⟩
  ·exact .inl ⟨h1,by rw [h2]⟩
  ·exact .inr ⟨q,w,h1,by rw [h2],h3,h4⟩
 | dT kvs =>
  obtain ⟨a,ws,rfl,ea,r⟩ := rx
  cases y with
  | tup ks =>
   obtain ⟨us,rfl,r2⟩ := cX ry
   simp only [mF,Option.map_eq_some_iff] at e
   obtain ⟨k,e1,rfl⟩ := e
   have e2 : aJ toK us = some k := cZ (fun q w b r e => pN r.vw e) r2 e1
   refine ⟨⟨a,rfl,by simp [dE,ea]⟩, ?_⟩
   have : jW h (.ref a) (.tup us) = some (fR ws k) := by simp only [jW,ea,e2]
   rw [this]
   rcases tR (k := k) r with ⟨h1,h2⟩ | ⟨q,w,h1,h2,h3,h4⟩
   ·exact .inl ⟨h1,by rw [h2]⟩
   ·exact .inr ⟨q,w,h1,by rw [h2],h3,h4⟩
  | _ => simp [mF] at e
 | _ => simp [mF] at e
theorem vN {n : Nat} {x : Q} {ds : List PyData} (e : aO n x = some (.tuple ds)) : (∃ qs,x = .tup qs) \/ ∃ qs,x = .kt qs := by
 cases n with
 | zero => cases e
 | succ n =>
  cases x with
  | tup qs => exact .inl ⟨qs,rfl⟩
  | kt qs => exact .inr ⟨qs,rfl⟩
  | lst qs => simp only [aO,Option.map_eq_some_iff] at e; obtain ⟨_,_,e⟩ := e; cases e
  | _ => simp only [aO] at e; cases e
theorem rW {n : Nat} {x : Q} {ds : List PyData} (e : aO n x = some (.list ds)) : ∃ qs,x = .lst qs := by
 cases n with
 | zero => cases e
 | succ n =>
  cases x with
  | lst qs => exact ⟨qs,rfl⟩
  | tup qs => simp only [aO,Option.map_eq_some_iff] at e; obtain ⟨_,_,e⟩ := e; cases e
  | kt qs => simp only [aO,Option.map_eq_some_iff] at e; obtain ⟨_,_,e⟩ := e; cases e
  | _ => simp only [aO] at e; cases e
def aB9 (y z : Str) : Bool := match y.cps.toList with
 | [c] => decide (c ∈ z.cps.toList)
 | _ => !(Builtin.Str.occurrences z y 0 z.length 1).isEmpty
theorem aFi {y z : Str} : inO (.str y) (.str z) h = some (aB9 y z) := by
 simp only [inO,aB9]
 generalize y.cps.toList = l
 match l with
 | [] => rfl
 | [_] => rfl
 | _ :: _ :: _ => rfl
def hO (x y : Q) : Option Bool := match y with
 | .str z => match x with
  | .str y => some (aB9 y z)
  | _ => none
 | .dK kvs => (mF (.dK kvs) x).map Option.isSome
 | .dT kvs => (mF (.dT kvs) x).map Option.isSome
 | y => match aO bD x,aO bD y with
  | some d,some (.tuple ds) => if SeqAt.shaped d && SeqAt.shaped (.tuple ds) then some (ds.any fun z => PyData.eqv z d) else none
  | some d,some (.list ds) => if SeqAt.shaped d && SeqAt.shaped (.list ds) then some (ds.any fun z => PyData.eqv z d) else none
  | _,_ => none
theorem aA5 {b : Bool} (rx : Vw F sa h x u) (ry : Vw F sa h y v) (e : hO x y = some b) : inO u v h = some b := by
 cases y with
 | str z =>
  cases bZ ry
  cases x with
  | str y => cases bZ rx; rw [aFi]; exact e
  | _ => simp [hO] at e
 | dK kvs =>
  simp only [hO,Option.map_eq_some_iff] at e
  obtain ⟨o,e,rfl⟩ := e
  obtain ⟨⟨a,rfl,_⟩,hd⟩ := pX ry rx e
  simp only [inO]
  rcases hd with ⟨rfl,hd⟩ | ⟨q,w,rfl,hd,_⟩ <;> rw [hd] <;> rfl
 | dT kvs =>
  simp only [hO,Option.map_eq_some_iff] at e
  obtain ⟨o,e,rfl⟩ := e
  obtain ⟨⟨a,rfl,_⟩,hd⟩ := pX ry rx e
  simp only [inO]
  rcases hd with ⟨rfl,hd⟩ | ⟨q,w,rfl,hd,_⟩ <;> rw [hd] <;> rfl
 | tup qs =>
  obtain ⟨ws,rfl,r⟩ := cX ry
  simp only [hO] at e
  split at e
  ·rename_i d ds e1 e2
   have p1 := gA rx e1
   have p2 := gA ry e2
   simp only [inO,p1,p2]; exact e
  ·rename_i d ds e1 e2
   obtain ⟨_,e2⟩ := rW e2; cases e2
  ·cases e
 | kt qs =>
  obtain ⟨ws,rfl,r⟩ := mN ry
  simp only [hO] at e
  split at e
  ·rename_i d ds e1 e2
   have p1 := gA rx e1
   have p2 := gA ry e2
   simp only [inO,p1,p2]; exact e
  ·rename_i d ds e1 e2
   obtain ⟨_,e2⟩ := rW e2; cases e2
  ·cases e
 | lst qs =>
  simp only [hO] at e
  split at e
  ·rename_i d ds e1 e2
   rcases vN e2 with ⟨_,e2⟩ | ⟨_,e2⟩ <;> cases e2
  ·rename_i d ds e1 e2
   have p1 := gA rx e1
   have p2 := gA ry e2
   obtain ⟨ws,rfl | ⟨a,rfl,ea⟩,r⟩ := ry
   ·simp only [inO,jW,p1,p2]; exact e
   ·simp only [inO,jW,ea,p1,p2]; exact e
  ·cases e
 | _ =>
  simp only [hO] at e
  split at e
  ·rename_i d ds e1 e2
   rcases vN e2 with ⟨_,e2⟩ | ⟨_,e2⟩ <;> cases e2
  ·rename_i d ds e1 e2
   obtain ⟨_,e2⟩ := rW e2; cases e2
  ·cases e
def qIn (x y : Q) : Option Q := (hO x y).map .bl
def qNi (x y : Q) : Option Q := (hO x y).map fun b => .bl (!b)
theorem aB1 : gY inW qIn := by
 intro F sa h x y u v q rx ry e
 obtain ⟨b,e',rfl⟩ := Option.map_eq_some_iff.mp e
 exact ⟨_,by simp only [inW,aA5 rx ry e'],cR⟩
theorem aG8 : gY niW qNi := by
 intro F sa h x y u v q rx ry e
 obtain ⟨b,e',rfl⟩ := Option.map_eq_some_iff.mp e
 exact ⟨_,by simp only [niW,aA5 rx ry e'],cR⟩
def jJ : Q -> Option Int
 | .int i => some i
 | _ => none
theorem aBt {q : Q} {w : D} {k : Int} (r : Rep F sa h q w) (e : jJ q = some k) : toI w = some k := by
 cases q with
 | int i => cases bO r.vw; exact e
 | _ => simp [jJ] at e
def qLt : Q -> Q -> Option Q
 | .int i, .int j => some (.bl (decide (i < j)))
 | .str i, .str j => some (.bl (decide (i.cps.toList < j.cps.toList)))
 | .tup i, .tup j => match aJ jJ i,aJ jJ j with
  | some i,some j => some (.bl (HT.lexLt i j))
  | _,_ => none
 | _,_ => none
theorem aKW : gY ltW qLt := by
 intro F sa h x y u v q rx ry e
 unfold qLt at e
 split at e
 ·cases e; cases bO rx; cases bO ry; exact ⟨_,rfl,cR⟩
 ·cases e; cases bZ rx; cases bZ ry; exact ⟨_,rfl,cR⟩
 ·split at e
  ·rename_i e1 e2
   cases e
   obtain ⟨ws,rfl,r1⟩ := cX rx
   obtain ⟨us,rfl,r2⟩ := cX ry
   exact ⟨_,by simp only [ltW,asT,cZ (fun q w b r e => aBt r e) r1 e1,cZ (fun q w b r e => aBt r e) r2 e2],cR⟩
  ·cases e
 ·cases e
def qLe : Q -> Q -> Option Q
 | .int i, .int j => some (.bl (decide (i <= j)))
 | .str i, .str j => some (.bl (!decide (j.cps.toList < i.cps.toList)))
 | _,_ => none
def qGt : Q -> Q -> Option Q
 | .int i, .int j => some (.bl (decide (j < i)))
 | .str i, .str j => some (.bl (decide (j.cps.toList < i.cps.toList)))
 | _,_ => none
def qGe : Q -> Q -> Option Q
 | .int i, .int j => some (.bl (decide (j <= i)))
 | .str i, .str j => some (.bl (!decide (i.cps.toList < j.cps.toList)))
 | _,_ => none
theorem aAh : gY leW qLe := by
 intro F sa h x y u v q rx ry e
 unfold qLe at e
 split at e
 ·cases e; cases bO rx; cases bO ry; exact ⟨_,rfl,cR⟩
 ·cases e; cases bZ rx; cases bZ ry; exact ⟨_,rfl,cR⟩
 ·cases e
theorem aG6 : gY gtW qGt := by
 intro F sa h x y u v q rx ry e
 unfold qGt at e
 split at e
 ·cases e; cases bO rx; cases bO ry; exact ⟨_,rfl,cR⟩
 ·cases e; cases bZ rx; cases bZ ry; exact ⟨_,rfl,cR⟩
 ·cases e
def Q.isNon : Q -> Bool
 | .non => true
 | _ => false
theorem aDF (r : Vw F sa h q w) : w.isNon = q.isNon := by
 cases q with
 | non => cases rX r; rfl
 | bl b => cases iG r; rfl
 | int b => cases bO r; rfl
 | str b => cases bZ r; rfl
 | tup b => obtain ⟨_,rfl,_⟩ := cX r; rfl
 | kt b => obtain ⟨_,rfl,_⟩ := mN r; rfl
 | xc c k b => obtain ⟨_,rfl,_⟩ := aJp r; rfl
 | lst b => obtain ⟨_,rfl | ⟨_,rfl,_⟩,_⟩ := r <;> rfl
 | dK b => obtain ⟨_,_,rfl,_⟩ := r; rfl
 | dT b => obtain ⟨_,_,rfl,_⟩ := r; rfl
 | ins c b => obtain ⟨_,_,rfl,_⟩ := r; rfl
 | ty b => cases aEX r; rfl
 | cls b => cases aHX r; rfl
 | fn b => simp only [Vw,Rep] at r; cases r; rfl
 | src => simp only [Vw,Rep] at r; cases r; rfl
def qIs : Q -> Q -> Option Q
 | .bl a, .bl b => some (.bl (decide (a = b)))
 | x, .non => some (.bl x.isNon)
 | _,_ => none
def aGY : Q -> Q -> Option Q
 | .bl a, .bl b => some (.bl (!decide (a = b)))
 | x, .non => some (.bl (!x.isNon))
 | _,_ => none
theorem aKV : gY isW qIs := by
 intro F sa h x y u v q rx ry e
 unfold qIs at e
 split at e
 ·cases e; cases iG rx; cases iG ry; exact ⟨_,rfl,cR⟩
 ·cases e; cases rX ry; rw [<- aDF rx]; exact ⟨_,by cases u <;> rfl,cR⟩
 ·cases e
def qIx (x y : Q) : Option Q := match x,y with
 | .lst qs, .int i => atI qs i
 | .tup qs, .int i => atI qs i
 | .kt qs, .int i => atI qs i
 | .str z, .int i => if z.length <= sizeLine then (atI z.cps.toList i).map fun c => .str ⟨#[c]⟩ else none
 | .dK kvs,y => (mF (.dK kvs) y).join
 | .dT kvs,y => (mF (.dT kvs) y).join
 | _,_ => none
theorem tN {i : Int} (r : Reps F sa h qs ws) (e : atI qs i = some q) : ∃ w,atI ws i = some w /\ Rep F sa h q w := by
 unfold atI at e ⊢
 rw [r.len]
 cases hi : ixN qs.length i with
 | none => rw [hi] at e; cases e
 | some j =>
  rw [hi] at e
  obtain ⟨w,e1,_,e2⟩ := r.get e
  exact ⟨w,e1,e2⟩
theorem fZ : gY ixW qIx := by
 intro F sa h x y u v q rx ry e
 unfold qIx at e
 split at e
 ·cases bO ry
  obtain ⟨ws,a1,a2,a3,a4,r1⟩ := gB rx
  obtain ⟨w,e1,e2⟩ := tN r1 e
  exact ⟨w,by simp only [ixW,a1,e1],e2⟩
 ·cases bO ry
  obtain ⟨ws,rfl,r1⟩ := cX rx
  obtain ⟨w,e1,e2⟩ := tN r1 e
  exact ⟨w,by simp only [ixW,asL,asT,e1],e2⟩
 ·cases bO ry
  obtain ⟨ws,rfl,r1⟩ := mN rx
  obtain ⟨w,e1,e2⟩ := tN r1 e
  exact ⟨w,by simp only [ixW,asL,asT,e1],e2⟩
 ·cases bO ry
  cases bZ rx
  split at e
  ·rename_i hl
   obtain ⟨c,e1,rfl⟩ := Option.map_eq_some_iff.mp e
   exact ⟨_,by simp only [ixW,asL,asT,hl,if_true,e1],fY⟩
  ·cases e
 ·obtain ⟨o,e1,e2⟩ := Option.join_eq_some_iff.mp e |> fun z => (⟨some q,z,rfl⟩ : ∃ o,_ = some o /\ o = some q)
  subst e2
  obtain ⟨⟨a,rfl,hl⟩,hd⟩ := pX rx ry e1
  rcases hd with ⟨hd,_⟩ | ⟨q',w,hq,hd,_,hr⟩
  ·cases hd
  ·cases hq
   refine ⟨w, ?_,hr⟩
   have h1 : asL h (.ref a) = none := by
    unfold dE at hl
    simp only [asL]
    cases hh : h[a]? with
    | none => rfl
    | some c => cases c <;> simp_all
   cases v <;> simp only [ixW,h1,asT,hd]
 ·obtain ⟨o,e1,e2⟩ := Option.join_eq_some_iff.mp e |> fun z => (⟨some q,z,rfl⟩ : ∃ o,_ = some o /\ o = some q)
  subst e2
  obtain ⟨⟨a,rfl,hl⟩,hd⟩ := pX rx ry e1
  rcases hd with ⟨hd,_⟩ | ⟨q',w,hq,hd,_,hr⟩
  ·cases hd
  ·cases hq
   refine ⟨w, ?_,hr⟩
   have h1 : asL h (.ref a) = none := by
    unfold dE at hl
    simp only [asL]
    cases hh : h[a]? with
    | none => rfl
    | some c => cases c <;> simp_all
   cases v <;> simp only [ixW,h1,asT,hd]
 ·cases e
def oK (xs : List Q) (lo hi : Option Int) : List Q := (xs.drop (HT.sIx xs.length 0 lo)).take (HT.sIx xs.length xs.length hi - HT.sIx xs.length 0 lo)
def qSl (x : Q) (lo hi : Option Int) : Option Q := match x with
 | .lst qs => some (.lst (oK qs lo hi))
 | .tup qs => some (.tup (oK qs lo hi))
 | .str z => if z.length <= sizeLine then some (.str (cutS z lo hi)) else none
 | _ => none
theorem yS {lo hi : Option Int} (r : Reps F sa h qs ws) : Reps F sa h (oK qs lo hi) (oJ ws lo hi) := by
 unfold oK oJ
 rw [r.len]
 exact (r.drop _).take _
theorem aE2 {lo hi : Option Int} (hz : HT.sIx ws.length 0 lo = 0 /\ HT.sIx ws.length ws.length hi = ws.length) : oJ ws lo hi = ws := by
 unfold oJ
 rw [hz.1,hz.2]; simp
theorem aKX {lo hi : Option Int} (rx : Vw F sa h x u) (e : qSl x lo hi = some q) : ∃ w,slW u lo hi h = .ok w h /\ Rep F sa h q w := by
 unfold qSl at e
 split at e
 ·cases e
  obtain ⟨ws,a1,a2,a3,a4,r1⟩ := gB rx
  exact ⟨_,by simp only [slW,a1],aAd (yS r1)⟩
 ·cases e
  obtain ⟨ws,rfl,r1⟩ := cX rx
  refine ⟨.tup (oJ ws lo hi), ?_,jQ (yS r1)⟩
  simp only [slW,asL,asT]
  split
  ·rename_i hz; rw [aE2 hz]
  ·rfl
 ·split at e
  ·rename_i hl
   cases e; cases bZ rx
   exact ⟨_,by simp only [slW,asL,asT,hl,if_true],fY⟩
  ·cases e
 ·cases e
end
end PV
end
section
namespace PV
open PySem PySem.Spec PyProof.Rows L2
section
variable {F : Nat -> Prop} {sa : Nat} {h : Hh} {q x y : Q} {w u v : D} {qs : List Q} {ws : List D}
def cJ : Q -> Option Q
 | .lst qs => some (.int qs.length)
 | .tup qs => some (.int qs.length)
 | .kt qs => some (.int qs.length)
 | .str z => if z.length <= sizeLine then some (.int z.length) else none
 | .dK kvs => some (.int kvs.length)
 | .dT kvs => some (.int kvs.length)
 | _ => none
theorem aT.len {κ : Type} {kvs : List (κ × Q)} {ws : List (κ × D)} (r : aT F sa h kvs ws) : ws.length = kvs.length := by
 have := congrArg List.length r.keys
 simpa using this
theorem kF : pS cG cJ := by
 intro F sa h x u q rx e
 unfold cJ at e
 split at e
 ·cases e
  obtain ⟨ws,a1,a2,a3,a4,r1⟩ := gB rx
  exact ⟨.int ws.length,by simp only [cG,a1],by rw [r1.len]; exact dH⟩
 ·cases e
  obtain ⟨ws,rfl,r1⟩ := cX rx
  exact ⟨.int ws.length,by simp only [cG,asL,asT],by rw [r1.len]; exact dH⟩
 ·cases e
  obtain ⟨ws,rfl,r1⟩ := mN rx
  exact ⟨.int ws.length,by simp only [cG,asL,asT],by rw [r1.len]; exact dH⟩
 ·split at e
  ·rename_i hl
   cases e; cases bZ rx
   exact ⟨_,by simp only [cG,asL,asT,hl,if_true],dH⟩
  ·cases e
 ·cases e
  obtain ⟨a,ws,rfl,ea,r⟩ := rx
  exact ⟨.int ws.length,by simp only [cG,asL,asT,ea],by rw [r.len]; exact dH⟩
 ·cases e
  obtain ⟨a,ws,rfl,ea,r⟩ := rx
  exact ⟨.int ws.length,by simp only [cG,asL,asT,ea],by rw [r.len]; exact dH⟩
 ·cases e
def aKK : Q -> Option Q
 | .int i => some (.int (-i))
 | _ => none
def wJ : Q -> Option Q
 | .int i => some (.int i)
 | .bl k => some (.int (if k then 1 else 0))
 | .str a => match PySem.intText? a with
  | some n => if a.length <= 640 then some (.int n) else none
  | none => none
 | _ => none
theorem aIR : pS rE wJ := by
 intro F sa h x u q rx e
 unfold wJ at e
 split at e
 ·cases e; cases bO rx; exact ⟨_,rfl,dH⟩
 ·cases e; cases iG rx; exact ⟨_,rfl,dH⟩
 ·cases bZ rx
  split at e
  ·rename_i e1
   split at e
   ·rename_i hl
    cases e
    exact ⟨_,by simp only [rE,e1,hl,if_true],dH⟩
   ·cases e
  ·cases e
 ·cases e
def nK : Q -> Option Q
 | .lst qs => some (.tup qs)
 | .tup qs => some (.tup qs)
 | _ => none
theorem wN : pS fF nK := by
 intro F sa h x u q rx e
 unfold nK at e
 split at e
 ·cases e
  obtain ⟨ws,a1,a2,a3,a4,r1⟩ := gB rx
  exact ⟨_,by simp only [fF,a1],jQ r1⟩
 ·cases e
  obtain ⟨ws,rfl,r1⟩ := cX rx
  exact ⟨_,by simp only [fF,asL,asT],jQ r1⟩
 ·cases e
def gV : Q -> Option Q
 | .lst qs => some (.lst qs)
 | .tup qs => some (.lst qs)
 | .kt qs => some (.lst qs)
 | .str z => if z.cps.size <= sizeLine then some (.lst (z.cps.toList.map fun c => .str ⟨#[c]⟩)) else none
 | _ => none
theorem kZ {α : Type} {f : α -> Q} {g : α -> D} {l : List α} (hf : ∀ a ∈ l,(g a).isTl = false /\ Rep F sa h (f a) (g a)) : Reps F sa h (l.map f) (l.map g) := by
 induction l with
 | nil => simp [Reps]
 | cons a l ih =>
  simp only [List.map_cons,Reps]
  exact ⟨_,_,rfl,(hf a (by simp)).1,(hf a (by simp)).2,ih fun b hb => hf b (by simp [hb])⟩
theorem pH : aEy fJ gV := by
 intro F sa h x u q rx e
 unfold gV at e
 split at e
 ·cases e
  obtain ⟨ws,a1,a2,a3,a4,r1⟩ := gB rx
  exact ⟨_,_,rfl,by simp only [fJ,a1],r1⟩
 ·cases e
  obtain ⟨ws,rfl,r1⟩ := cX rx
  exact ⟨_,_,rfl,by simp only [fJ,asL,asT],r1⟩
 ·cases e
  obtain ⟨ws,rfl,r1⟩ := mN rx
  exact ⟨_,_,rfl,by simp only [fJ,asL,asT],r1⟩
 ·split at e
  ·rename_i hl
   cases e; cases bZ rx
   exact ⟨_,_,rfl,by simp only [fJ,asL,asT,hl,if_true],kZ fun c _ => ⟨rfl,fY⟩⟩
  ·cases e
 ·cases e
def bT : Q -> Option Bool
 | .bl b => some b
 | _ => none
theorem aBs {q : Q} {w : D} {k : Bool} (r : Rep F sa h q w) (e : bT q = some k) : toB w = some k := by
 cases q with
 | bl i => cases iG r.vw; exact e
 | _ => simp [bT] at e
def rM : Q -> Option Q
 | .lst qs => (aJ bT qs).map fun bs => .bl (bs.all id)
 | _ => none
def wI : Q -> Option Q
 | .lst qs => (aJ bT qs).map fun bs => .bl (bs.any id)
 | _ => none
theorem yI : pS kM rM := by
 intro F sa h x u q rx e
 unfold rM at e
 split at e
 ·obtain ⟨ws,a1,a2,a3,a4,r1⟩ := gB rx
  obtain ⟨bs,e1,rfl⟩ := Option.map_eq_some_iff.mp e
  exact ⟨_,by simp only [kM,a1,cZ (fun q w b r e => aBs r e) r1 e1],cR⟩
 ·cases e
theorem aET : pS tM wI := by
 intro F sa h x u q rx e
 unfold wI at e
 split at e
 ·obtain ⟨ws,a1,a2,a3,a4,r1⟩ := gB rx
  obtain ⟨bs,e1,rfl⟩ := Option.map_eq_some_iff.mp e
  exact ⟨_,by simp only [tM,a1,cZ (fun q w b r e => aBs r e) r1 e1],cR⟩
 ·cases e
def qJ (x : Q) : Option Q := match aO bD x with
 | some d => if d.showable && decide (d.shown.length <= sizeLine) && SeqAt.shaped d then some (.str d.shown) else none
 | none => none
theorem aHa : pS uY qJ := by
 intro F sa h x u q rx e
 unfold qJ at e
 split at e
 ·rename_i d e1
  split at e
  ·rename_i hz
   cases e
   exact ⟨_,by simp only [uY,gA rx e1,hz,if_true],fY⟩
  ·cases e
 ·cases e
theorem aFL : pS iF qJ := by
 intro F sa h x u q rx e
 obtain ⟨w,e2,r⟩ := aHa F sa h x u q rx e
 refine ⟨w, ?_,r⟩
 unfold qJ at e
 split at e
 ·rename_i d e1
  simp only [iF,gA rx e1]; exact e2
 ·cases e
def aKH : Q -> Q -> Option Q
 | .int i, .int j => some (.int (if j > i then j else i))
 | _,_ => none
def aKI : Q -> Q -> Option Q
 | .int i, .int j => some (.int (if j < i then j else i))
 | _,_ => none
def tyQ : Q -> Option String
 | .non => some "NoneType"
 | .bl _ => some "bool"
 | .int _ => some "int"
 | .str _ => some "str"
 | .tup _ => some "tuple"
 | .kt _ => some "tuple"
 | .lst _ => some "list"
 | .dK _ => some "dict"
 | .dT _ => some "dict"
 | _ => none
theorem aHV {t : String} (r : Vw F sa h q w) (e : tyQ q = some t) : tyD h w = some t := by
 cases q with
 | non => cases rX r; exact e
 | bl b => cases iG r; exact e
 | int b => cases bO r; exact e
 | str b => cases bZ r; exact e
 | tup b => obtain ⟨_,rfl,_⟩ := cX r; exact e
 | kt b => obtain ⟨_,rfl,_⟩ := mN r; exact e
 | lst b => obtain ⟨_,_,_,_,a4,_⟩ := gB r; rw [a4]; exact e
 | dK b => obtain ⟨_,_,rfl,ea,_⟩ := r; simp only [tyD,ea]; exact e
 | dT b => obtain ⟨_,_,rfl,ea,_⟩ := r; simp only [tyD,ea]; exact e
 | _ => simp [tyQ] at e
def bU : Q -> Q -> Option Q
 | x, .ty n => match tyQ x with
  | some t => (kitB t n).map .bl
  | none => none
 | _,_ => none
theorem sX : gY jA bU := by
 intro F sa h x y u v q rx ry e
 unfold bU at e
 split at e
 ·cases aEX ry
  split at e
  ·rename_i t e1
   obtain ⟨b,e2,rfl⟩ := Option.map_eq_some_iff.mp e
   exact ⟨_,by simp only [jA,sL,aHV rx e1,e2],cR⟩
  ·cases e
 ·cases e
def aKE (f : Str) : Q -> Option Q
 | .xc c ks qs => if 100 <= c then (ks.zip qs).lookup f else none
 | .ins c fs => if c < 100 then fs.lookup f else none
 | _ => none
def rN (x y : Q) : Option Q := match aO bD x,aO bD y with
 | some (.list ds),some d => if SeqAt.shaped (.list ds) && SeqAt.shaped d then some (.int (ds.countP (fun z => PyData.eqv z d) : Nat)) else none
 | _,_ => none
theorem aFK : gY oW rN := by
 intro F sa h x y u v q rx ry e
 unfold rN at e
 split at e
 ·rename_i ds d e1 e2
  split at e
  ·rename_i hz
   cases e
   exact ⟨_,by simp only [oW,gA rx e1,gA ry e2,hz,if_true],dH⟩
  ·cases e
 ·cases e
end
end PV
end
section
namespace PV
open PySem PySem.Spec PyProof.Rows L2
/-- whole -/
structure SEs (Γ : List Sl) (m : M D) (p : Pm Q) : Prop where
 run : ∀ {B : Bs} {F : Nat -> Prop} {O : Nat -> Option Nat} {σ : Sg} {h : Hh} {c : Nat} {K : Rs Q -> Nat -> Prop},Iv B F h c -> En B F O h Γ σ -> p K c -> Out B F h (RlS B) K (m σ h)
/-- whole,or one's own -/
structure SEw (Γ : List Sl) (m : M D) (p : Pm Q) : Prop where
 run : ∀ {B : Bs} {F : Nat -> Prop} {O : Nat -> Option Nat} {σ : Sg} {h : Hh} {c : Nat} {K : Rs Q -> Nat -> Prop},Iv B F h c -> En B F O h Γ σ -> p K c -> Out B F h (fun F' h' q w => lR B O F' h' q w) K (m σ h)
/-- fresh -/
structure SEf (Γ : List Sl) (m : M D) (p : Pm Q) : Prop where
 run : ∀ {B : Bs} {F : Nat -> Prop} {O : Nat -> Option Nat} {σ : Sg} {h : Hh} {c : Nat} {K : Rs Q -> Nat -> Prop},Iv B F h c -> En B F O h Γ σ -> p K c -> Out B F h (RlF h.length B) K (m σ h)
structure STb (Γ : List Sl) (m : M Bool) (p : Pm Bool) : Prop where
 run : ∀ {B : Bs} {F : Nat -> Prop} {O : Nat -> Option Nat} {σ : Sg} {h : Hh} {c : Nat} {K : Rs Bool -> Nat -> Prop},Iv B F h c -> En B F O h Γ σ -> p K c -> Out B F h RlE K (m σ h)
structure SAs (n : Nat) (Γ : List Sl) (m : M (List D)) (p : Pm (List Q)) : Prop where
 run : ∀ {B : Bs} {F : Nat -> Prop} {O : Nat -> Option Nat} {σ : Sg} {h : Hh} {c : Nat} {K : Rs (List Q) -> Nat -> Prop},Iv B F h c -> En B F O h Γ σ -> p K c -> Out B F h (fun F' h' q w => Reps F' B.sa h' q w /\ q.length = n) K (m σ h)
structure SPo (Γ : List Sl) (m : Option (M D)) (p : Pm (Option Int)) : Prop where
 run : ∀ {B : Bs} {F : Nat -> Prop} {O : Nat -> Option Nat} {σ : Sg} {h : Hh} {c : Nat} {K : Rs (Option Int) -> Nat -> Prop},Iv B F h c -> En B F O h Γ σ -> p K c -> Out B F h RlE K (nY m σ h)
/-- a def: fr tells whether its result is fresh -/
structure FnS (fr : Bool) (cl : List D -> Hh -> R D) (p : List Q -> Pm Q) : Prop where
 run : ∀ {F : Nat -> Prop} {sa : Nat} {h : Hh} {c : Nat} {K : Rs Q -> Nat -> Prop} {qs : List Q} {ws : List D},Iv ⟨h,F,sa⟩ F h c -> Reps F sa h qs ws -> p qs K c ->
  Out ⟨h,F,sa⟩ F h (fun F' h' q w => if fr = true then pR h.length F' sa h' q w else Rep F' sa h' q w) K (cl ws h)
section
variable {Γ : List Sl} {m a b d : M D} {p pa pb pd : Pm Q} {q : Q} {w : D} {f : D -> D -> Hh -> R D} {g : Q -> Q -> Option Q} {f1 : D -> Hh -> R D} {g1 : Q -> Option Q}
theorem SEs.toW (s : SEs Γ m p) : SEw Γ m p := ⟨fun iv en k => (s.run iv en k).imp fun _ _ r => .inl r⟩
theorem SEf.toS (s : SEf Γ m p) : SEs Γ m p := ⟨fun iv en k => (s.run iv en k).fs iv⟩
theorem SEf.toW (s : SEf Γ m p) : SEw Γ m p := s.toS.toW
theorem mQ {α β : Type} {o : Option α} {g : α -> Pm β} {K : Rs β -> Nat -> Prop} {c : Nat} (k : (Pm.of o).bind g K c) : ∃ a,o = some a /\ g a K c := by
 cases o with
 | none => exact k.elim
 | some a => exact ⟨a,rfl,k⟩
theorem cC {α : Type} {o : Option α} {K : Rs α -> Nat -> Prop} {c : Nat} (k : (Pm.of o) K c) : ∃ a,o = some a /\ K (.ok a) c := by
 cases o with
 | none => exact k.elim
 | some a => exact ⟨a,rfl,k⟩
theorem sC (r : ∀ F sa h,Rep F sa h q w) : SEs Γ (mC w) (.ret q) := ⟨fun iv en k => .ret iv k (r _ _ _)⟩
theorem aED : SEs Γ (mC .non) (.ret .non) := sC fun _ _ _ => aBm
theorem bJ {i : Int} : SEs Γ (mC (.int i)) (.ret (.int i)) := sC fun _ _ _ => dH
theorem lU {i : Bool} : SEs Γ (mC (.bl i)) (.ret (.bl i)) := sC fun _ _ _ => cR
theorem bW {i : Str} : SEs Γ (mC (.str i)) (.ret (.str i)) := sC fun _ _ _ => fY
theorem vU {n : String} : SEs Γ (mC (.ty n)) (.ret (.ty n)) := sC fun _ _ _ => by simp only [Rep]
theorem aEC {l : List Str} : SEs Γ (mC (.kt (l.map D.str))) (.ret (.kt (l.map Q.str))) := sC fun _ _ _ => by
 simp only [Rep]; exact ⟨_,rfl,kZ fun _ _ => ⟨rfl,fY⟩⟩
theorem aE (i : Nat) (e : Γ[i]? = some (.fz q)) : SEs Γ (mV i) (.ret q) := ⟨fun iv en k => by
 obtain ⟨w,e1,_,r⟩ := en.fz i q e
 rw [sP,e1]
 exact .ret iv k r⟩
theorem jX (i : Nat) (e : Γ[i]? = some (.ow q)) : SEw Γ (mV i) (.ret q) := ⟨fun iv en k => by
 obtain ⟨w,e1,e2,r⟩ := en.ow i q e
 rw [sP,e2]
 exact .ret iv k (.inr ⟨i,w,e1,rfl,r⟩)⟩
theorem bE (s : gY f g) (x : SEw Γ a pa) (y : SEw Γ b pb) : SEs Γ (mOp f a b) (pa.bind fun x => pb.bind fun y => .of (g x y)) := ⟨fun iv en k =>
 (x.run iv en k).bind fun i1 g1 r1 k1 => (y.run i1 (en.ge iv g1) k1).bind fun i2 g2 r2 k2 => by
  obtain ⟨q,e,k3⟩ := cC k2
  obtain ⟨w,e2,r3⟩ := s _ _ _ _ _ _ _ _ (lR.ge (en.ge iv g1) i1 g2 r1).vw r2.vw e
  rw [e2]
  exact .ret i2 k3 r3⟩
theorem dN (s : pS f1 g1) (x : SEw Γ a pa) : SEs Γ (mF1 f1 a) (pa.bind fun x => .of (g1 x)) := ⟨fun iv en k =>
 (x.run iv en k).bind fun i1 g1 r1 k1 => by
  obtain ⟨q,e,k3⟩ := cC k1
  obtain ⟨w,e2,r3⟩ := s _ _ _ _ _ _ r1.vw e
  rw [e2]
  exact .ret i1 k3 r3⟩
theorem sE (s : aEy f1 g1) (x : SEw Γ a pa) : SEf Γ (mF1 f1 a) (pa.bind fun x => .of (g1 x)) := ⟨fun iv en k =>
 (x.run iv en k).bind fun i1 g1 r1 k1 => by
  obtain ⟨q,e,k3⟩ := cC k1
  obtain ⟨qs,ws,rfl,e2,r3⟩ := s _ _ _ _ _ _ r1.vw e
  rw [e2]
  exact .ret i1 k3 (.inl ⟨qs,ws,rfl,rfl,r3⟩)⟩
def aKL : Q -> Option Q
 | .bl b => some (.bl (!b))
 | _ => none
def fV (x : Q) (p : Pm Q) : Pm Q := match x with
 | .bl true => p
 | .bl false => .ret (.bl false)
 | _ => .bad
def pOr (x : Q) (p : Pm Q) : Pm Q := match x with
 | .bl true => .ret (.bl true)
 | .bl false => p
 | _ => .bad
@[simp] theorem aMa {p : Pm Q} : fV (.bl true) p = p := id rfl
@[simp] theorem aL9 {p : Pm Q} : fV (.bl false) p = .ret (.bl false) := id rfl
@[simp] theorem aML {p : Pm Q} : pOr (.bl true) p = .ret (.bl true) := id rfl
@[simp] theorem aMK {p : Pm Q} : pOr (.bl false) p = p := id rfl
theorem aEB (x : SEw Γ a pa) (y : SEs Γ b pb) : SEs Γ (sO a b) (pa.bind fun x => fV x pb) := ⟨fun iv en k =>
 (x.run iv en k).bind fun i1 g1 r1 k1 => by
  unfold fV at k1
  split at k1
  ·cases iG r1.vw; exact y.run i1 (en.ge iv g1) k1
  ·cases iG r1.vw; exact .ret i1 k1 cR
  ·exact k1.elim⟩
theorem aJV {t : M Bool} {pt : Pm Bool} (x : STb Γ t pt) (y : SEs Γ a pa) (z : SEs Γ b pb) : SEs Γ (mIf t a b) (pt.bind fun x => if x = true then pa else pb) := ⟨fun iv en k =>
 (x.run iv en k).bind fun i1 g1 r1 k1 => by
  subst r1
  split
  ·rename_i hx; rw [if_pos hx] at k1; exact y.run i1 (en.ge iv g1) k1
  ·rename_i hx; rw [if_neg hx] at k1; exact z.run i1 (en.ge iv g1) k1⟩
theorem vT {f' : D -> D -> Hh -> R D} {g' : Q -> Q -> Option Q} (s : gY f g) (s' : gY f' g') (x : SEw Γ a pa) (y : SEw Γ b pb) (z : SEw Γ d pd) :
  SEs Γ (kC f f' a b d) (pa.bind fun x => pb.bind fun y => (Pm.of (g x y)).bind fun t => fV t (pd.bind fun z => .of (g' y z))) := ⟨fun iv en k =>
 (x.run iv en k).bind fun i1 g1 r1 k1 => (y.run i1 (en.ge iv g1) k1).bind fun i2 g2 r2 k2 => by
  obtain ⟨q,e,k3⟩ := mQ k2
  have e1 := en.ge iv g1
  have e2 := e1.ge i1 g2
  obtain ⟨w,e3,r3⟩ := s _ _ _ _ _ _ _ _ (lR.ge e1 i1 g2 r1).vw r2.vw e
  rw [e3]
  simp only [R.bind_ok]
  unfold fV at k3
  split at k3
  ·cases iG r3.vw
   exact (z.run i2 e2 k3).bind fun i4 g4 r4 k4 => by
    obtain ⟨q,e,k5⟩ := cC k4
    obtain ⟨w,e5,r5⟩ := s' _ _ _ _ _ _ _ _ (lR.ge e2 i2 g4 r2).vw r4.vw e
    rw [e5]
    exact .ret i4 k5 r5
  ·cases iG r3.vw; exact .ret i2 k3 cR
  ·exact k3.elim⟩
theorem t_b (x : SEw Γ a pa) : STb Γ (mB a) (pa.bind fun x => .of (bT x)) := ⟨fun iv en k =>
 (x.run iv en k).bind fun i1 g1 r1 k1 => by
  obtain ⟨q,e,k3⟩ := cC k1
  unfold bT at e
  split at e
  ·cases e; cases iG r1.vw; exact .ret i1 k3 rfl
  ·cases e⟩
theorem iW {t : M Bool} {pt : Pm Bool} (x : STb Γ t pt) : STb Γ (fL t) (pt.bind fun x => .ret (!x)) := ⟨fun iv en k =>
 (x.run iv en k).bind fun i1 g1 r1 k1 => by subst r1; exact .ret i1 k1 rfl⟩
theorem lC {t s : M Bool} {pt ps : Pm Bool} (x : STb Γ t pt) (y : STb Γ s ps) : STb Γ (hE t s) (pt.bind fun x => if x = true then .ret true else ps) := ⟨fun iv en k =>
 (x.run iv en k).bind fun i1 g1 r1 k1 => by
  subst r1
  split
  ·rename_i hx; rw [if_pos hx] at k1; exact .ret i1 k1 rfl
  ·rename_i hx; rw [if_neg hx] at k1; exact y.run i1 (en.ge iv g1) k1⟩
theorem iX : STb Γ (fun _ h => .ok true h) (.ret true) := ⟨fun iv en k => .ret iv k rfl⟩
theorem aP : SAs 0 Γ (aB []) (.ret []) := ⟨fun iv en k => .ret iv k ⟨by simp [Reps],rfl⟩⟩
theorem aD {n : Nat} {ms : List (M D)} {ps : Pm (List Q)} (x : SEs Γ a pa) (y : SAs n Γ (aB ms) ps) : SAs (n + 1) Γ (aB (a :: ms)) (pa.bind fun x => ps.bind fun xs => .ret (x :: xs)) := ⟨fun iv en k =>
 (x.run iv en k).bind fun i1 g1 r1 k1 => by
  obtain ⟨F2,i2,g2,r2,ht⟩ := nP i1 r1
  refine Out.ge g2 ((y.run i2 ((en.ge iv g1).ge i1 g2) k1).bind fun i3 g3 r3 k3 => .ret i3 k3 ⟨?_,by simp [r3.2]⟩)
  simp only [Reps]
  exact ⟨_,_,rfl,ht,r2.mono g3.toGw,r3.1⟩⟩
theorem bL {n : Nat} {ma : M (List D)} {ps : Pm (List Q)} (hn : n <= 1000) (x : SAs n Γ ma ps) : SEs Γ (bF ma) (ps.bind fun xs => .ret (.tup xs)) := ⟨fun iv en k =>
 (x.run iv en k).bind fun i1 g1 r1 k1 => by
  rw [if_pos (by rw [r1.1.len,r1.2]; exact sz (by omega))]
  exact .ret i1 k1 (jQ r1.1)⟩
theorem pY {n : Nat} {ma : M (List D)} {ps : Pm (List Q)} (hn : n <= 1000) (x : SAs n Γ ma ps) : SEf Γ (fU ma) (ps.bind fun xs => .ret (.lst xs)) := ⟨fun iv en k =>
 (x.run iv en k).bind fun i1 g1 r1 k1 => by
  rw [if_pos (by rw [r1.1.len,r1.2]; exact sz (by omega))]
  exact .ret i1 k1 (.inl ⟨_,_,rfl,rfl,r1.1⟩)⟩
theorem aIf : SEf Γ (mD0 (.dK [])) (.ret (.dK [])) := ⟨fun iv en k => by
 refine .ok k (iv.app _) iv.geApp (.inr ⟨_,rfl,Nat.le_refl _,fun z => Nat.lt_irrefl _ (iv.lt z),[],by simp,by simp [aT]⟩)⟩
theorem pD : SPo Γ none (.ret none) := ⟨fun iv en k => .ret iv k rfl⟩
theorem lI (x : SEw Γ a pa) : SPo Γ (some a) (pa.bind fun x => (Pm.of (jJ x)).bind fun i => .ret (some i)) := ⟨fun iv en k =>
 (x.run iv en k).bind fun i1 g1 r1 k1 => by
  obtain ⟨i,e,k3⟩ := mQ k1
  unfold jJ at e
  split at e
  ·cases e; cases bO r1.vw; exact .ret i1 k3 rfl
  ·cases e⟩
theorem tQ {lo hi : Option (M D)} {pl ph : Pm (Option Int)} (x : SEw Γ a pa) (y : SPo Γ lo pl) (z : SPo Γ hi ph) : SEs Γ (mSl a lo hi) (pa.bind fun x => pl.bind fun l => ph.bind fun u => .of (qSl x l u)) := ⟨fun iv en k =>
 (x.run iv en k).bind fun i1 g1 r1 k1 => (y.run i1 (en.ge iv g1) k1).bind fun i2 g2 r2 k2 => (z.run i2 ((en.ge iv g1).ge i1 g2) k2).bind fun i3 g3 r3 k3 => by
  subst r2; subst r3
  obtain ⟨q,e,k4⟩ := cC k3
  obtain ⟨w,e2,r4⟩ := aKX (lR.ge ((en.ge iv g1).ge i1 g2) i2 g3 (lR.ge (en.ge iv g1) i1 g2 r1)).vw e
  rw [e2]
  exact .ret i3 k4 r4⟩
theorem aCo {fr : Bool} {cl : List D -> Hh -> R D} {pc : List Q -> Pm Q} {B : Bs} {F : Nat -> Prop} {h : Hh} {c : Nat} {K : Rs Q -> Nat -> Prop} {qs : List Q} {ws : List D} (s : FnS fr cl pc) (iv : Iv B F h c) (r : Reps F B.sa h qs ws) (k : pc qs K c) :
  Out B F h (fun F' h' q w => if fr = true then pR h.length F' B.sa h' q w else Rep F' B.sa h' q w) K (cl ws h) := by
 have o := s.run iv.base r k
 revert o
 generalize cl ws h = r0
 intro o
 cases o with
 | ok k i2 g r => exact .ok k (iv.rebase g i2) g r
 | exc k i2 g r => exact .exc k (iv.rebase g i2) g r
theorem cB {n : Nat} {cl : Cll} {f : Nat} {ma : M (List D)} {ps : Pm (List Q)} {pc : List Q -> Pm Q} (s : FnS false (cl f) pc) (x : SAs n Γ ma ps) : SEs Γ (bA cl f ma) (ps.bind pc) := ⟨fun iv en k =>
 Out.gcS iv ((x.run iv en k).bind fun i1 g1 r1 k1 => (aCo s i1 r1.1 k1).imp fun _ _ r => by simpa using r)⟩
theorem FnS.weak {cl : List D -> Hh -> R D} {pc : List Q -> Pm Q} (s : FnS true cl pc) : FnS false cl pc := ⟨fun iv r k => (Out.fs (B := ⟨_,_,_⟩) iv ((s.run iv r k).imp fun _ _ r => by simpa using r)).imp fun _ _ r => by simpa using r⟩
theorem xK {F : Nat -> Prop} {sa : Nat} {h : Hh} {qs : List Q} {ws : List D} (r : Reps F sa h qs ws) : ∀ {perm : List Nat} {ys : List Q},dR perm qs = some ys -> ∃ us,dR perm ws = some us /\ Reps F sa h ys us
 | [],ys,e => by simp [dR,aJ] at e; subst e; exact ⟨[],rfl,by simp [Reps]⟩
 | i :: perm,ys,e => by
  simp only [dR,aJ] at e ⊢
  cases e1 : qs[i]? with
  | none => rw [e1] at e; cases e
  | some q =>
   cases e2 : aJ (fun i => qs[i]?) perm with
   | none => rw [e1,e2] at e; cases e
   | some ys' =>
    rw [e1,e2] at e; cases e
    obtain ⟨w,e3,ht,r3⟩ := r.get e1
    obtain ⟨us,e4,r4⟩ := xK r (perm := perm) e2
    refine ⟨w :: us, ?_,by simp only [Reps]; exact ⟨w,us,rfl,ht,r3,r4⟩⟩
    unfold dR at e4
    rw [e3,e4]
theorem aE9 {n : Nat} {cl : Cll} {f : Nat} {ma : M (List D)} {ps : Pm (List Q)} {perm : List Nat} {pc : List Q -> Pm Q} (s : FnS false (cl f) pc) (x : SAs n Γ ma ps) : SEs Γ (nF cl f ma perm) (ps.bind fun xs => (Pm.of (dR perm xs)).bind pc) := ⟨fun iv en k =>
 Out.gcS iv ((x.run iv en k).bind fun i1 g1 r1 k1 => by
  obtain ⟨ys,e,k2⟩ := mQ k1
  obtain ⟨us,e2,r2⟩ := xK r1.1 e
  simp only [e2]
  exact (aCo s i1 r2 k2).imp fun _ _ r => by simpa using r)⟩
def nR : Q -> Option String
 | .str _ => some "str"
 | .lst _ => some "list"
 | .dK _ => some "dict"
 | .dT _ => some "dict"
 | _ => none
theorem xE {F : Nat -> Prop} {sa : Nat} {h : Hh} {t : String} (r : Vw F sa h q w) (e : nR q = some t) : tyM h w = some t := by
 cases q with
 | str b => cases bZ r; exact e
 | lst b =>
  obtain ⟨_,rfl | ⟨_,rfl,ea⟩,_⟩ := r
  ·exact e
  ·simp only [tyM,ea]; exact e
 | dK b => obtain ⟨_,_,rfl,ea,_⟩ := r; simp only [tyM,ea]; exact e
 | dT b => obtain ⟨_,_,rfl,ea,_⟩ := r; simp only [tyM,ea]; exact e
 | _ => simp [nR] at e
def pTy (T : String) (x : Q) (p : Pm Q) : Pm Q := if nR x = some T then p else .bad
@[simp] theorem aLA {p : Pm Q} {x : Str} : pTy "str" (.str x) p = p := by simp [pTy,nR]
@[simp] theorem aFy {p : Pm Q} {x : List Q} : pTy "list" (.lst x) p = p := by simp [pTy,nR]
@[simp] theorem aMb {p : Pm Q} {x : List (Key × Q)} : pTy "dict" (.dK x) p = p := by simp [pTy,nR]
@[simp] theorem aMc {p : Pm Q} {x : List (List Key × Q)} : pTy "dict" (.dT x) p = p := by simp [pTy,nR]
theorem aJW {T : String} {op : Op1} (s : gY op g) (x : SEw Γ a pa) (y : SEw Γ b pb) : SEs Γ (mM1 (on1 T op) a b) (pa.bind fun x => pTy T x (pb.bind fun y => .of (g x y))) := ⟨fun iv en k =>
 (x.run iv en k).bind fun i1 g1 r1 k1 => by
  unfold pTy at k1
  split at k1
  ·rename_i ht
   simp only [xE r1.vw ht,uB]
   exact (y.run i1 (en.ge iv g1) k1).bind fun i2 g2 r2 k2 => by
    obtain ⟨q,e,k3⟩ := cC k2
    obtain ⟨w,e2,r3⟩ := s _ _ _ _ _ _ _ _ (lR.ge (en.ge iv g1) i1 g2 r1).vw r2.vw e
    rw [e2]
    exact .ret i2 k3 r3
  ·exact k1.elim⟩
end
end PV
end
section
namespace PV
open PySem PySem.Spec PyProof.Rows L2
def aJR (B : Bs) (F : Nat -> Prop) (h : Hh) (qs : List Q) (src : Src) : Prop := ∃ ws,Reps F B.sa h qs ws /\ ∀ h' : Hh,(∀ a,F a -> h'[a]? = h[a]?) -> ∀ i,src i h' = some ws[i]?
def aJS (B : Bs) (F : Nat -> Prop) (h : Hh) (qs : List Q) (src : Src) : Prop := ∃ ws,Reps F B.sa h qs ws /\ ∀ h' : Hh,(∀ a,a < h.length -> a ≠ B.sa -> h'[a]? = h[a]?) -> ∀ i,src i h' = some ws[i]?
structure SIs (Γ : List Sl) (m : M Src) (p : Pm (List Q)) : Prop where
 run : ∀ {B : Bs} {F : Nat -> Prop} {O : Nat -> Option Nat} {σ : Sg} {h : Hh} {c : Nat} {K : Rs (List Q) -> Nat -> Prop},Iv B F h c -> En B F O h Γ σ -> p K c -> Out B F h (fun F' h' q w => aJR B F' h' q w) K (m σ h)
structure SIw (Γ : List Sl) (m : M Src) (p : Pm (List Q)) : Prop where
 run : ∀ {B : Bs} {F : Nat -> Prop} {O : Nat -> Option Nat} {σ : Sg} {h : Hh} {c : Nat} {K : Rs (List Q) -> Nat -> Prop},Iv B F h c -> En B F O h Γ σ -> p K c -> Out B F h (fun F' h' q w => aJS B F' h' q w) K (m σ h)
def dD : Q -> Option (List Q)
 | .lst qs => some qs
 | .tup qs => some qs
 | .kt qs => some qs
 | .str z => some (z.cps.toList.map fun c => .str ⟨#[c]⟩)
 | _ => none
def sU : Q -> Option (List Q)
 | .int j => if -(2 ^ 62) <= j /\ j < 2 ^ 62 then some ((List.range j.toNat).map fun i => .int (i : Nat)) else none
 | _ => none
def uO (qs : List Q) : List Q := qs.mapIdx fun i q => .tup [.int (i : Nat),q]
def aES : Q -> Option (List Q)
 | .lst qs => some (uO qs)
 | .tup qs => some (uO qs)
 | .kt qs => some (uO qs)
 | _ => none
def aCf (xs ys : List Q) : List Q := (xs.zip ys).map fun q => .tup [q.1,q.2]
def aG0 : Q -> Q -> Option (List Q)
 | .tup xs, .tup ys => some (aCf xs ys)
 | .lst xs, .lst ys => some (aCf xs ys)
 | _,_ => none
section
variable {Γ : List Sl} {a b : M D} {p pa pb : Pm Q} {q : Q} {w : D} {F : Nat -> Prop} {sa : Nat} {h : Hh} {qs : List Q} {ws : List D} {B : Bs} {c : Nat} {O : Nat -> Option Nat} {σ : Sg}
theorem SIs.toW {m : M Src} {p : Pm (List Q)} (s : SIs Γ m p) : SIw Γ m p := ⟨fun iv en k => (s.run iv en k).imp fun i1 _ r => by
 obtain ⟨ws,r,hs⟩ := r
 exact ⟨ws,r,fun h' e => hs h' fun a f => e a (i1.lt f) fun z => i1.ns (z ▸ f)⟩⟩
theorem aEl {z : Str} {i : Nat} {h' : Hh} : aAp z i h' = some (z.cps.toList.map fun c => D.str ⟨#[c]⟩)[i]? := by simp only [aAp,List.getElem?_map]
theorem i_e (x : SEs Γ a pa) : SIs Γ (miE a) (pa.bind fun x => .of (dD x)) := ⟨fun iv en k =>
 (x.run iv en k).bind fun i1 g1 r1 k1 => by
  obtain ⟨l,e,k3⟩ := cC k1
  unfold dD at e
  split at e
  ·cases e
   simp only [RlS,Rep] at r1
   obtain ⟨ws,rfl | ⟨a,rfl,fa,ea⟩,r⟩ := r1
   ·simp only [qO,asT,asL]
    exact .ret i1 k3 ⟨ws,r,fun h' e i => by simp only [aAo,asL]⟩
   ·simp only [qO,asT,asL,ea]
    exact .ret i1 k3 ⟨ws,r,fun h' e i => by simp only [aAo,asL,e a fa,ea]⟩
  ·cases e
   obtain ⟨ws,rfl,r⟩ := cX r1.vw
   simp only [qO,asT]
   exact .ret i1 k3 ⟨ws,r,fun h' e i => rfl⟩
  ·cases e
   obtain ⟨ws,rfl,r⟩ := mN r1.vw
   simp only [qO,asT]
   exact .ret i1 k3 ⟨ws,r,fun h' e i => rfl⟩
  ·cases e
   cases bZ r1.vw
   simp only [qO,asT,asL]
   exact .ret i1 k3 ⟨_,kZ fun c _ => ⟨rfl,fY⟩,fun h' e i => aEl⟩
  ·cases e⟩
theorem aJ6 (x : SEw Γ a pa) : SIs Γ (kP a) (pa.bind fun x => .of (sU x)) := ⟨fun iv en k =>
 (x.run iv en k).bind fun i1 g1 r1 k1 => by
  obtain ⟨l,e,k3⟩ := cC k1
  unfold sU at e
  split at e
  ·cases bO r1.vw
   split at e
   ·rename_i hl
    cases e
    simp only
    rw [if_pos hl]
    refine .ret i1 k3 ⟨_,kZ fun c _ => ⟨rfl,dH⟩,fun h' e i => ?_⟩
    rw [sY]; simp
   ·cases e
  ·cases e⟩
structure TgS (t : Tg) {α : Type} (un : Q -> Option α) (ΓT : List Sl -> α -> List Sl) : Prop where
 run : ∀ {B : Bs} {F : Nat -> Prop} {O : Nat -> Option Nat} {h : Hh} {Γ : List Sl} {σ : Sg} {q : Q} {w : D} {a : α},En B F O h Γ σ -> Rep F B.sa h q w -> w.isTl = false -> un q = some a -> ∃ σ',t.set w σ h = some σ' /\ En B F O h (ΓT Γ a) σ'
theorem En.set {i : Nat} (en : En B F O h Γ σ) (r : Rep F B.sa h q w) (ht : w.isTl = false) : En B F O h (Γ.set i (.fz q)) (σ.set i (some w)) := by
 refine ⟨by simp [en.len],fun j q' e => ?_,fun j q' e => ?_,en.oh,en.inj,fun j w' e => by
  by_cases hj : i = j
  ·subst hj
   have hl : i < Γ.length := by simpa using aH e
   rw [List.getElem?_set_self hl] at e; cases e
  ·rw [List.getElem?_set_ne hj] at e ⊢
   exact en.eqd j w' e⟩
 ·by_cases hj : i = j
  ·subst hj
   have hl : i < Γ.length := by simpa using aH e
   rw [List.getElem?_set_self hl] at e; cases e
   exact ⟨w,List.getElem?_set_self (by rw [en.len]; exact hl),ht,r⟩
  ·rw [List.getElem?_set_ne hj] at e ⊢
   exact en.fz j q' e
 ·by_cases hj : i = j
  ·subst hj
   have hl : i < Γ.length := by simpa using aH e
   rw [List.getElem?_set_self hl] at e; cases e
  ·rw [List.getElem?_set_ne hj] at e ⊢
   exact en.ow j q' e
theorem En.no {i : Nat} {o : Option D} (en : En B F O h Γ σ) : En B F O h (Γ.set i .no) (σ.set i o) := by
 refine ⟨by simp [en.len],fun j q' e => ?_,fun j q' e => ?_,en.oh,en.inj,fun j w' e => by
  by_cases hj : i = j
  ·subst hj
   have hl : i < Γ.length := by simpa using aH e
   rw [List.getElem?_set_self hl] at e; cases e
  ·rw [List.getElem?_set_ne hj] at e ⊢
   exact en.eqd j w' e⟩
 ·by_cases hj : i = j
  ·subst hj
   have hl : i < Γ.length := by simpa using aH e
   rw [List.getElem?_set_self hl] at e; cases e
  ·rw [List.getElem?_set_ne hj] at e ⊢
   exact en.fz j q' e
 ·by_cases hj : i = j
  ·subst hj
   have hl : i < Γ.length := by simpa using aH e
   rw [List.getElem?_set_self hl] at e; cases e
  ·rw [List.getElem?_set_ne hj] at e ⊢
   exact en.ow j q' e
theorem tg1 (i : Nat) : TgS (.nm i) some (fun Γ q => Γ.set i (.fz q)) := ⟨fun en r ht e => by
 cases e; exact ⟨_,by simp only [Tg.set],en.set r ht⟩⟩
/-- the parts of a tuple or list -/
def rO : Q -> Option (List Q)
 | .tup qs => some qs
 | .kt qs => some qs
 | .lst qs => some qs
 | _ => none
theorem aCL (r : Rep F sa h q w) (e : rO q = some qs) : ∃ ws,(∀ ts σ,Tg.set (.tu ts) w σ h = Tg.sets ts ws σ h) /\ Reps F sa h qs ws := by
 cases q with
 | tup qs => cases e; obtain ⟨ws,rfl,r'⟩ := cX r.vw; exact ⟨ws,fun ts σ => by simp only [Tg.set,asT],r'⟩
 | kt qs => cases e; obtain ⟨ws,rfl,r'⟩ := mN r.vw; exact ⟨ws,fun ts σ => by simp only [Tg.set,asT],r'⟩
 | lst qs => cases e; obtain ⟨ws,a1,a2,a3,a4,r'⟩ := gB r.vw; exact ⟨ws,fun ts σ => by simp only [Tg.set,a3,a1],r'⟩
 | _ => simp [rO] at e
def un2 (q : Q) : Option (Q × Q) := match rO q with
 | some [a,b] => some (a,b)
 | _ => none
def un3 (q : Q) : Option (Q × Q × Q) := match rO q with
 | some [a,b,c] => some (a,b,c)
 | _ => none
def un4 (q : Q) : Option (Q × Q × Q × Q) := match rO q with
 | some [a,b,c,d] => some (a,b,c,d)
 | _ => none
@[simp] theorem sZ {a b : Q} : un2 (.tup [a,b]) = some (a,b) := id rfl
@[simp] theorem aLK {a b c : Q} : un3 (.tup [a,b,c]) = some (a,b,c) := id rfl
@[simp] theorem aLL {a b c d : Q} : un4 (.tup [a,b,c,d]) = some (a,b,c,d) := id rfl
@[simp] theorem aLJ {a b : Q} : un2 (.lst [a,b]) = some (a,b) := id rfl
theorem tg2 (i j : Nat) : TgS (.tu [.nm i, .nm j]) un2 (fun Γ q => (Γ.set i (.fz q.1)).set j (.fz q.2)) := ⟨fun en r ht e => by
 unfold un2 at e
 split at e
 ·rename_i a b ep
  cases e
  obtain ⟨ws,e1,rs⟩ := aCL r ep
  simp only [Reps] at rs
  obtain ⟨w1,_,rfl,t1,r1,w2,_,rfl,t2,r2,rfl⟩ := rs
  exact ⟨_,by rw [e1]; simp only [Tg.sets,Tg.set],(en.set r1 t1).set r2 t2⟩
 ·cases e⟩
def noK {α : Type} (K : Rs α -> Nat -> Prop) : Rs α -> Nat -> Prop := fun r c' => match r with
 | .ok a => K (.ok a) c'
 | .exc _ _ => False
def Pm.noX {α : Type} (p : Pm α) : Pm α := fun K c => p (noK K) c
@[simp] theorem pC {α : Type} {a : α} : (Pm.ret a).noX = .ret a := id rfl
@[simp] theorem aLw {α : Type} : (Pm.bad : Pm α).noX = .bad := id rfl
theorem Out.noX {α β : Type} {Rl : (Nat -> Prop) -> Hh -> β -> α -> Prop} {K : Rs β -> Nat -> Prop} {r : R α} (o : Out B F h Rl (noK K) r) : Out B F h Rl K (noX r) := by
 cases o with
 | ok k iv g r => exact .ok k iv g r
 | exc k iv g r => exact k.elim
theorem kS {α β β' : Type} {Rl : (Nat -> Prop) -> Hh -> β -> α -> Prop} {p : Pm β} {g : β -> Pm β'} {K2 : Rs β' -> Nat -> Prop} {r : R α} (run : ∀ {K : Rs β -> Nat -> Prop},p K c -> Out B F h Rl K r) (k : (p.noX.bind g) K2 c) : Out B F h Rl (bK g K2) (PV.noX r) := Out.noX (run k)
def jC {α A : Type} (un : Q -> Option α) (pb : α -> A -> Pm A) : List Q -> A -> Pm A
 | [],acc => .ret acc
 | q :: qs,acc => (Pm.of (un q)).bind fun a => (pb a acc).bind fun acc' => jC un pb qs acc'
def fN (Γ : List Sl) : List Nat -> List Sl
 | [] => Γ
 | v :: vs => (fN Γ vs).set v .no
theorem En.wipe : ∀ {vs : List Nat},En B F O h Γ σ -> En B F O h (fN Γ vs) (dM σ vs)
 | [],en => en
 | v :: vs,en => (en.wipe (vs := vs)).no
theorem rG {α A A' : Type} {un : Q -> Option α} {pb : α -> A -> Pm A} {t : Tg} {ΓT : List Sl -> α -> List Sl} {body : A' -> Sg -> Hh -> R A'} {src : Src} {σ0 : Sg} {RA : (Nat -> Prop) -> Hh -> A -> A' -> Prop} {K : Rs A -> Nat -> Prop}
  (tg : TgS t un ΓT) (mono : ∀ {F h F' h' a a'},Ge B.sa F h F' h' -> RA F h a a' -> RA F' h' a a')
  (hb : ∀ {F1 : Nat -> Prop} {h1 : Hh} {c1 : Nat} {x : α} {acc : A} {acc' : A'} {σ1 : Sg} {K : Rs A -> Nat -> Prop},Iv B F1 h1 c1 -> En B F1 O h1 (ΓT Γ x) σ1 -> RA F1 h1 acc acc' -> pb x acc K c1 -> Out B F1 h1 RA K (body acc' σ1 h1)) :
  ∀ (n i : Nat) {qs : List Q} {ws : List D} {acc : A} {acc' : A'} {F : Nat -> Prop} {h : Hh} {c : Nat},Iv B F h c -> En B F O h Γ σ0 -> (∀ {F' h'},Ge B.sa F h F' h' -> ∀ j,src (i + j) h' = some ws[j]?) -> Reps F B.sa h qs ws -> ws.length < n -> RA F h acc acc' -> jC un pb qs acc K c ->
   Out B F h RA K (lcL src t body σ0 n i acc' h)
 | 0,i,qs,ws,acc,acc',F,h,c,iv,en,hs,r,hl,ra,k => by omega
 | n + 1,i,qs,ws,acc,acc',F,h,c,iv,en,hs,r,hl,ra,k => by
  have s0 := hs .rfl' 0
  simp only [Nat.add_zero] at s0
  cases qs with
  | nil =>
   simp only [Reps] at r; subst r
   simp only [lcL,s0]
   exact .ret iv k ra
  | cons q qs =>
   simp only [Reps] at r
   obtain ⟨w,ws,rfl,ht,r1,rs⟩ := r
   simp only [jC] at k
   obtain ⟨a,e,k1⟩ := mQ k
   obtain ⟨σ',e2,en2⟩ := tg.run en r1 ht e
   simp only [lcL,s0,List.getElem?_cons_zero,e2]
   refine (hb iv en2 ra k1).bind fun i3 g3 r3 k3 => ?_
   refine rG (pb := pb) (body := body) (RA := RA) (K := K) tg (fun g r => mono g r) (fun x1 x2 x3 x4 => hb x1 x2 x3 x4) n (i + 1) i3 (en.ge iv g3) (fun {F' h'} g j => ?_) (rs.mono g3.toGw) (by simp at hl; omega) r3 k3
   have := hs (g3.trans g) (j + 1)
   rw [Nat.add_assoc,Nat.add_comm 1 j]
   simpa using this
def lcB {α : Type} (pt : α -> Pm Bool) (pe : α -> Pm Q) (a : α) (acc : List Q) : Pm (List Q) := (pt a).noX.bind fun b => if b = true then (pe a).noX.bind fun y => if acc.length < sizeLine then .ret (acc ++ [y]) else .bad else .ret acc
/-- [e for t in l if c] -/
def lcP {α : Type} (un : Q -> Option α) (pt : α -> Pm Bool) (pe : α -> Pm Q) (l : List Q) : Pm Q := if l.length <= sizeLine then (jC un (lcB pt pe) l []).bind fun xs => .ret (.lst xs) else .bad
theorem aA8 {α : Type} {mt : M Bool} {me : M D} {Γ' : α -> List Sl} {pt : α -> Pm Bool} {pe : α -> Pm Q} (ht : ∀ a,STb (Γ' a) mt (pt a)) (he : ∀ a,SEs (Γ' a) me (pe a)) {F1 : Nat -> Prop} {h1 : Hh} {c1 : Nat} {x : α} {acc : List Q} {acc' : List D} {σ1 : Sg} {K : Rs (List Q) -> Nat -> Prop}
  (iv : Iv B F1 h1 c1) (en : En B F1 O h1 (Γ' x) σ1) (ra : RlA B F1 h1 acc acc') (k : lcB pt pe x acc K c1) : Out B F1 h1 (RlA B) K (hV mt me acc' σ1 h1) := by
 unfold hV
 unfold lcB at k
 refine (kS (fun k => (ht x).run iv en k) k).bind fun i2 g2 r2 k2 => ?_
 subst r2
 split
 ·rename_i hx
  rw [if_pos hx] at k2
  refine (kS (fun k => (he x).run i2 (en.ge iv g2) k) k2).bind fun i3 g3 r3 k3 => ?_
  split at k3
  ·rename_i hl
   rw [if_pos (by rw [ra.len]; exact hl)]
   obtain ⟨F4,i4,g4,r4,t4⟩ := nP i3 r3
   exact .ok k3 i4 g4 ((((ra.mono g2.toGw).mono g3.toGw).mono g4.toGw).app (.one r4 t4))
  ·exact k3.elim
 ·rename_i hx
  rw [if_neg hx] at k2
  exact .ret i2 k2 (ra.mono g2.toGw)
theorem mY {α : Type} {mi : M Src} {t : Tg} {mt : M Bool} {me : M D} {vs : List Nat} {pi : Pm (List Q)} {un : Q -> Option α} {ΓT : List Sl -> α -> List Sl} {pt : α -> Pm Bool} {pe : α -> Pm Q} (hi : SIw Γ mi pi) (tg : TgS t un ΓT) (ht : ∀ a,STb (ΓT (fN Γ vs) a) mt (pt a)) (he : ∀ a,SEs (ΓT (fN Γ vs) a) me (pe a)) :
  SEf Γ (mLc mi t mt me vs) (pi.bind fun l => lcP un pt pe l) := ⟨fun {B F O σ h c K} iv en k => by
 refine (hi.run iv en k).bind fun {F1 h1 l src c1} i1 g1 r1 k1 => ?_
 unfold lcP at k1
 split at k1
 ·rename_i hl
  obtain ⟨ws,rs,hs⟩ := r1
  refine Out.bind (Rl := RlA B) (g := fun xs => Pm.ret (Q.lst xs)) ?_ fun i2 g2 r2 k2 => .ret i2 k2 (.inl ⟨_,_,rfl,rfl,r2⟩)
  exact rG tg (fun g r => r.mono g.toGw) (fun iv en ra k => aA8 ht he iv en ra k) fK 0 i1 ((en.ge iv g1).wipe) (fun g j => by rw [Nat.zero_add]; exact hs _ g.old j) rs (by rw [rs.len]; exact Nat.lt_of_le_of_lt hl (by decide)) (by simp [RlA,Reps]) k1
 ·exact k1.elim⟩
/-- two clauses -/
def aBN {α β : Type} (pt : α -> Pm Bool) (pi1 : α -> Pm (List Q)) (un1 : Q -> Option β) (pt1 : α -> β -> Pm Bool) (pe : α -> β -> Pm Q) (a : α) (acc : List Q) : Pm (List Q) := (pt a).noX.bind fun b => if b = true then (pi1 a).noX.bind fun l1 => if l1.length <= sizeLine then jC un1 (lcB (pt1 a) (pe a)) l1 acc else .bad else .ret acc
def zH {α β : Type} (un : Q -> Option α) (pt : α -> Pm Bool) (pi1 : α -> Pm (List Q)) (un1 : Q -> Option β) (pt1 : α -> β -> Pm Bool) (pe : α -> β -> Pm Q) (l : List Q) : Pm Q := if l.length <= sizeLine then (jC un (aBN pt pi1 un1 pt1 pe) l []).bind fun xs => .ret (.lst xs) else .bad
theorem aIi {α β : Type} {mi mi1 : M Src} {t t1 : Tg} {mt mt1 : M Bool} {me : M D} {vs vs1 : List Nat} {pi : Pm (List Q)} {un : Q -> Option α} {ΓT : List Sl -> α -> List Sl} {pt : α -> Pm Bool} {pi1 : α -> Pm (List Q)} {un1 : Q -> Option β} {ΓT1 : List Sl -> β -> List Sl} {pt1 : α -> β -> Pm Bool} {pe : α -> β -> Pm Q}
  (hi : SIw Γ mi pi) (tg : TgS t un ΓT) (ht : ∀ a,STb (ΓT (fN Γ vs) a) mt (pt a)) (hi1 : ∀ a,SIw (ΓT (fN Γ vs) a) mi1 (pi1 a)) (tg1 : TgS t1 un1 ΓT1) (ht1 : ∀ a b,STb (ΓT1 (fN (ΓT (fN Γ vs) a) vs1) b) mt1 (pt1 a b)) (he : ∀ a b,SEs (ΓT1 (fN (ΓT (fN Γ vs) a) vs1) b) me (pe a b)) :
  SEf Γ (wC mi t mt mi1 t1 mt1 me vs vs1) (pi.bind fun l => zH un pt pi1 un1 pt1 pe l) := ⟨fun {B F O σ h c K} iv en k => by
 refine (hi.run iv en k).bind fun {F1 h1 l src c1} i1 g1 r1 k1 => ?_
 unfold zH at k1
 split at k1
 ·rename_i hl
  obtain ⟨ws,rs,hs⟩ := r1
  refine Out.bind (Rl := RlA B) (g := fun xs => Pm.ret (Q.lst xs)) ?_ fun i2 g2 r2 k2 => .ret i2 k2 (.inl ⟨_,_,rfl,rfl,r2⟩)
  refine rG tg (fun g r => r.mono g.toGw) (fun {F2 h2 c2 x acc acc' σ2 K2} i2 en2 ra k2 => ?_) fK 0 i1 ((en.ge iv g1).wipe) (fun g j => by rw [Nat.zero_add]; exact hs _ g.old j) rs (by rw [rs.len]; exact Nat.lt_of_le_of_lt hl (by decide)) (by simp [RlA,Reps]) k1
  unfold aBN at k2
  refine (kS (fun k => (ht x).run i2 en2 k) k2).bind fun i3 g3 r3 k3 => ?_
  subst r3
  split
  ·rename_i hx
   rw [if_pos hx] at k3
   refine (kS (fun k => (hi1 x).run i3 (en2.ge i2 g3) k) k3).bind fun i4 g4 r4 k4 => ?_
   split at k4
   ·rename_i hl2
    obtain ⟨ws1,rs1,hs1⟩ := r4
    exact rG tg1 (fun g r => r.mono g.toGw) (fun iv en ra k => aA8 (ht1 x) (he x) iv en ra k) fK 0 i4 ((en2.ge i2 g3).ge i3 g4).wipe (fun g j => by rw [Nat.zero_add]; exact hs1 _ g.old j) rs1 (by rw [rs1.len]; exact Nat.lt_of_le_of_lt hl2 (by decide)) ((ra.mono g3.toGw).mono g4.toGw) k4
   ·exact k4.elim
  ·rename_i hx
   rw [if_neg hx] at k3
   exact .ret i3 k3 (ra.mono g3.toGw)
 ·exact k1.elim⟩
end
end PV
end
section
namespace PV
open PySem PySem.Spec PyProof.Rows L2
def gM {κ : Type} [DecidableEq κ] (kvs : List (κ × Q)) (k : κ) (w : Q) : List (κ × Q) :=
 if kvs.any (fun kv => decide (kv.1 = k)) then kvs.map (fun kv => if kv.1 = k then (kv.1,w) else kv) else kvs ++ [(k,w)]
section
variable {Γ : List Sl} {a b : M D} {p pa pb : Pm Q} {q : Q} {w : D} {F : Nat -> Prop} {sa : Nat} {h : Hh} {qs : List Q} {ws : List D} {B : Bs} {c : Nat} {O : Nat -> Option Nat} {σ : Sg} {κ : Type} [DecidableEq κ]
theorem aAc {k : κ} : ∀ {kvs : List (κ × Q)} {ws : List (κ × D)},aT F sa h kvs ws -> ws.any (fun kv => decide (kv.1 = k)) = kvs.any (fun kv => decide (kv.1 = k))
 | [],_,r => by simp only [aT] at r; subst r; rfl
 | (k',q) :: kvs,_,r => by
  simp only [aT] at r
  obtain ⟨w,r,rfl,_,_,z⟩ := r
  simp only [List.any_cons,aAc z]
theorem uE {k : κ} {kvs : List (κ × Q)} {ws : List (κ × D)} (r : aT F sa h kvs ws) (rq : Rep F sa h q w) (ht : w.isTl = false) : aT F sa h (gM kvs k q) (qI ws k w) := by
 unfold gM qI
 rw [aAc r]
 split
 ·rename_i hk
  clear hk
  induction kvs generalizing ws with
  | nil => simp only [aT] at r; subst r; simp [aT]
  | cons p kvs ih =>
   obtain ⟨k',q'⟩ := p
   simp only [aT] at r
   obtain ⟨w',r,rfl,h1,h2,z⟩ := r
   simp only [List.map_cons]
   by_cases hk : k' = k
   ·simp only [hk,if_true,aT]; exact ⟨w,_,rfl,ht,rq,ih z⟩
   ·simp only [hk,if_false,aT]; exact ⟨w',_,rfl,h1,h2,ih z⟩
 ·rename_i hk
  clear hk
  induction kvs generalizing ws with
  | nil => simp only [aT] at r; subst r; simp only [List.nil_append,aT]; exact ⟨w,[],rfl,ht,rq,rfl⟩
  | cons p kvs ih =>
   obtain ⟨k',q'⟩ := p
   simp only [aT] at r
   obtain ⟨w',r,rfl,h1,h2,z⟩ := r
   simp only [List.cons_append,aT]
   exact ⟨w',_,rfl,h1,h2,ih z⟩
theorem aDU {kvs : List (κ × Q)} {k : κ} {q : Q} : (gM kvs k q).length <= kvs.length + 1 := by
 unfold gM; split <;> simp
def dcB {α : Type} (kq : Q -> Option κ) (pt : α -> Pm Bool) (pk pv : α -> Pm Q) (a : α) (acc : List (κ × Q)) : Pm (List (κ × Q)) := (pt a).noX.bind fun b => if b = true then (pk a).noX.bind fun y => (pv a).noX.bind fun z => (Pm.of (kq y)).bind fun k => if acc.length < sizeLine then .ret (gM acc k z) else .bad else .ret acc
theorem aE3 {α : Type} {K0 : KKind κ} {kq : Q -> Option κ} (hk : ∀ {F : Nat -> Prop} {sa : Nat} {h : Hh} {q : Q} {w : D} {k : κ},Vw F sa h q w -> kq q = some k -> K0.key w = some k) {mt : M Bool} {mk mv : M D} {Γ' : α -> List Sl} {pt : α -> Pm Bool} {pk pv : α -> Pm Q} (ht : ∀ a,STb (Γ' a) mt (pt a)) (hmk : ∀ a,SEs (Γ' a) mk (pk a)) (hmv : ∀ a,SEs (Γ' a) mv (pv a)) {F1 : Nat -> Prop} {h1 : Hh} {c1 : Nat} {x : α} {acc : List (κ × Q)} {acc' : List (κ × D)} {σ1 : Sg} {K : Rs (List (κ × Q)) -> Nat -> Prop}
  (iv : Iv B F1 h1 c1) (en : En B F1 O h1 (Γ' x) σ1) (ra : aT F1 B.sa h1 acc acc') (k : dcB kq pt pk pv x acc K c1) : Out B F1 h1 (fun F h q w => aT F B.sa h q w) K (sB K0 mt mk mv acc' σ1 h1) := by
 unfold sB
 unfold dcB at k
 refine (kS (fun k => (ht x).run iv en k) k).bind fun i2 g2 r2 k2 => ?_
 subst r2
 split
 ·rename_i hx
  rw [if_pos hx] at k2
  have e2 := en.ge iv g2
  refine (kS (fun k => (hmk x).run i2 e2 k) k2).bind fun i3 g3 r3 k3 => ?_
  have e3 := e2.ge i2 g3
  refine (kS (fun k => (hmv x).run i3 e3 k) k3).bind fun i4 g4 r4 k4 => ?_
  obtain ⟨kk,ek,k5⟩ := mQ k4
  split at k5
  ·rename_i hl
   simp only [hk (r3.mono g4.toGw).vw ek]
   rw [if_pos (by rw [ra.len]; exact hl)]
   obtain ⟨F5,i5,g5,r5,t5⟩ := nP i4 r4
   exact .ok k5 i5 g5 (uE ((((ra.mono g2.toGw).mono g3.toGw).mono g4.toGw).mono g5.toGw) r5 t5)
  ·exact k5.elim
 ·rename_i hx
  rw [if_neg hx] at k2
  exact .ret i2 k2 (ra.mono g2.toGw)
def dcP {α : Type} (kq : Q -> Option κ) (mk : List (κ × Q) -> Q) (un : Q -> Option α) (pt : α -> Pm Bool) (pk pv : α -> Pm Q) (l : List Q) : Pm Q := if l.length <= sizeLine then (jC un (dcB kq pt pk pv) l []).bind fun xs => .ret (mk xs) else .bad
theorem aIg {α : Type} {K0 : KKind κ} {kq : Q -> Option κ} {mkq : List (κ × Q) -> Q} (hk : ∀ {F : Nat -> Prop} {sa : Nat} {h : Hh} {q : Q} {w : D} {k : κ},Vw F sa h q w -> kq q = some k -> K0.key w = some k)
  (hc : ∀ {F : Nat -> Prop} {sa : Nat} {h : Hh} {acc : List (κ × Q)} {acc' : List (κ × D)} {a : Nat},aT F sa h acc acc' -> h[a]? = some (K0.cell acc') -> Top F sa h a (mkq acc))
  {mi : M Src} {t : Tg} {mt : M Bool} {mk mv : M D} {vs : List Nat} {pi : Pm (List Q)} {un : Q -> Option α} {ΓT : List Sl -> α -> List Sl} {pt : α -> Pm Bool} {pk pv : α -> Pm Q} (hi : SIw Γ mi pi) (tg : TgS t un ΓT) (ht : ∀ a,STb (ΓT (fN Γ vs) a) mt (pt a)) (hmk : ∀ a,SEs (ΓT (fN Γ vs) a) mk (pk a)) (hmv : ∀ a,SEs (ΓT (fN Γ vs) a) mv (pv a)) :
  SEf Γ (mDc K0 mi t mt mk mv vs) (pi.bind fun l => dcP kq mkq un pt pk pv l) := ⟨fun {B F O σ h c K} iv en k => by
 refine (hi.run iv en k).bind fun {F1 h1 l src c1} i1 g1 r1 k1 => ?_
 unfold dcP at k1
 split at k1
 ·rename_i hl
  obtain ⟨ws,rs,hs⟩ := r1
  refine Out.bind (Rl := fun F h q w => aT F B.sa h q w) (g := fun xs => Pm.ret (mkq xs)) ?_ fun i2 g2 r2 k2 => .ok k2 (i2.app _) i2.geApp (.inr ⟨_,rfl,Nat.le_trans g1.len g2.len,fun z => Nat.lt_irrefl _ (i2.lt z),hc (r2.mono (i2.geApp).toGw) (by simp)⟩)
  exact rG tg (fun g r => r.mono g.toGw) (fun iv en ra k => aE3 hk ht hmk hmv iv en ra k) fK 0 i1 ((en.ge iv g1).wipe) (fun g j => by rw [Nat.zero_add]; exact hs _ g.old j) rs (by rw [rs.len]; exact Nat.lt_of_le_of_lt hl (by decide)) (by simp [aT]) k1
 ·exact k1.elim⟩
def kTQ : Q -> Option (List Key)
 | .tup ks => aJ rV ks
 | _ => none
theorem aGB {F : Nat -> Prop} {sa : Nat} {h : Hh} {q : Q} {w : D} {k : List Key} (v : Vw F sa h q w) (e : kTQ q = some k) : kT.key w = some k := by
 cases q with
 | tup ks =>
  obtain ⟨us,rfl,r2⟩ := cX v
  exact cZ (fun q w b r e => pN r.vw e) r2 e
 | _ => simp [kTQ] at e
theorem aIh {α : Type} {mi : M Src} {t : Tg} {mt : M Bool} {mk mv : M D} {vs : List Nat} {pi : Pm (List Q)} {un : Q -> Option α} {ΓT : List Sl -> α -> List Sl} {pt : α -> Pm Bool} {pk pv : α -> Pm Q} (hi : SIw Γ mi pi) (tg : TgS t un ΓT) (ht : ∀ a,STb (ΓT (fN Γ vs) a) mt (pt a)) (hmk : ∀ a,SEs (ΓT (fN Γ vs) a) mk (pk a)) (hmv : ∀ a,SEs (ΓT (fN Γ vs) a) mv (pv a)) :
  SEf Γ (mDc kK mi t mt mk mv vs) (pi.bind fun l => dcP rV Q.dK un pt pk pv l) := aIg (K0 := kK) (mkq := Q.dK) (fun v e => pN v e) (fun r e => ⟨_,e,r⟩) hi tg ht hmk hmv
end
end PV
end
section
namespace PV
open PySem PySem.Spec PyProof.Rows L2
inductive Fl (L β : Type) where
 | nx (b : β) | brk (l : L) | cont (l : L) | ret (q : Q)
/-- the second environment tells no more than the first -/
inductive LeL : List Sl -> List Sl -> Prop
 | nil : LeL [] []
 | no {s : Sl} {Γ Γ' : List Sl} (r : LeL Γ Γ') : LeL (s :: Γ) (.no :: Γ')
 | eq {s : Sl} {Γ Γ' : List Sl} (r : LeL Γ Γ') : LeL (s :: Γ) (s :: Γ')
theorem LeL.refl : ∀ {Γ : List Sl},LeL Γ Γ
 | [] => .nil
 | _ :: _ => .eq LeL.refl
def LeX (Γ : List Sl) : Option (List Sl) -> Prop
 | none => True
 | some Γ' => LeL Γ Γ'
theorem LeL.len : ∀ {Γ Γ' : List Sl},LeL Γ Γ' -> Γ'.length = Γ.length
 | _,_, .nil => rfl
 | _,_, .no r => by simp [r.len]
 | _,_, .eq r => by simp [r.len]
theorem LeL.get : ∀ {Γ Γ' : List Sl} {i : Nat} {s : Sl},LeL Γ Γ' -> Γ'[i]? = some s -> s ≠ .no -> Γ[i]? = some s
 | _,_,i,s, .nil,e,_ => by simp at e
 | _,_,0,s, .no r,e,hn => by simp at e; exact absurd e.symm hn
 | _,_,0,s, .eq r,e,hn => by simpa using e
 | _,_,i + 1,s, .no r,e,hn => by simpa using r.get (by simpa using e) hn
 | _,_,i + 1,s, .eq r,e,hn => by simpa using r.get (by simpa using e) hn
section
variable {Γ Γ' : List Sl} {a b : M D} {p pa pb : Pm Q} {q : Q} {w : D} {F F' : Nat -> Prop} {sa : Nat} {h h' : Hh} {qs : List Q} {ws : List D} {B : Bs} {c : Nat} {O : Nat -> Option Nat} {σ : Sg}
theorem En.le (en : En B F O h Γ σ) (l : LeL Γ Γ') : En B F O h Γ' σ :=
 ⟨en.len.trans l.len.symm,fun i q e => en.fz i q (l.get e (by simp)),fun i q e => en.ow i q (l.get e (by simp)),en.oh,en.inj,fun i w e => en.eqd i w (l.get e (by simp))⟩
def EnX (B : Bs) (F : Nat -> Prop) (h : Hh) (ΓX : Option (List Sl)) (σ : Sg) : Prop := match ΓX with
 | none => True
 | some Γ => ∃ O,En B F O h Γ σ
theorem En.lex {ΓX : Option (List Sl)} (en : En B F O h Γ σ) (l : LeX Γ ΓX) : EnX B F h ΓX σ := by
 cases ΓX with
 | none => trivial
 | some Γ' => exact ⟨O,en.le l⟩
end
/-- a simple statement's outcome -/
inductive Out1 (B : Bs) (F : Nat -> Prop) (h : Hh) {β : Type} (Γ' : β -> List Sl) (ΓX : Option (List Sl)) (K : Rs β -> Nat -> Prop) : RT -> Prop
 | nx {b : β} {c' : Nat} {σ' : Sg} {h' : Hh} {F' : Nat -> Prop} {O' : Nat -> Option Nat} (k : K (.ok b) c') (iv : Iv B F' h' c') (g : Gw F h F' h') (en : En B F' O' h' (Γ' b) σ') : Out1 B F h Γ' ΓX K (.nx σ' h')
 | exc {n c' : Nat} {fs : List (Str × Q)} {fs' : List (Str × D)} {σ' : Sg} {h' : Hh} {F' : Nat -> Prop} (k : K (.exc n fs) c') (iv : Iv B F' h' c') (g : Gw F h F' h') (r : aT F' B.sa h' fs fs') (ex : EnX B F' h' ΓX σ') : Out1 B F h Γ' ΓX K (.exc n fs' σ' h')
inductive OutS (B : Bs) (F : Nat -> Prop) (h : Hh) (fr : Bool) {L β : Type} (ΓL : L -> List Sl) (ΓN : β -> List Sl) (ΓX : Option (List Sl)) (K : Rs (Fl L β) -> Nat -> Prop) : RT -> Prop
 | nx {b : β} {c' : Nat} {σ' : Sg} {h' : Hh} {F' : Nat -> Prop} {O' : Nat -> Option Nat} (k : K (.ok (.nx b)) c') (iv : Iv B F' h' c') (g : Gw F h F' h') (en : En B F' O' h' (ΓN b) σ') : OutS B F h fr ΓL ΓN ΓX K (.nx σ' h')
 | brk {b : L} {c' : Nat} {σ' : Sg} {h' : Hh} {F' : Nat -> Prop} {O' : Nat -> Option Nat} (k : K (.ok (.brk b)) c') (iv : Iv B F' h' c') (g : Gw F h F' h') (en : En B F' O' h' (ΓL b) σ') : OutS B F h fr ΓL ΓN ΓX K (.brk σ' h')
 | cont {b : L} {c' : Nat} {σ' : Sg} {h' : Hh} {F' : Nat -> Prop} {O' : Nat -> Option Nat} (k : K (.ok (.cont b)) c') (iv : Iv B F' h' c') (g : Gw F h F' h') (en : En B F' O' h' (ΓL b) σ') : OutS B F h fr ΓL ΓN ΓX K (.cont σ' h')
 | ret {q : Q} {c' : Nat} {w : D} {h' : Hh} {F' : Nat -> Prop} (k : K (.ok (.ret q)) c') (iv : Iv B F' h' c') (g : Gw F h F' h') (r : if fr = true then pR B.h0.length F' B.sa h' q w else Rep F' B.sa h' q w) : OutS B F h fr ΓL ΓN ΓX K (.ret w h')
 | exc {n c' : Nat} {fs : List (Str × Q)} {fs' : List (Str × D)} {σ' : Sg} {h' : Hh} {F' : Nat -> Prop} (k : K (.exc n fs) c') (iv : Iv B F' h' c') (g : Gw F h F' h') (r : aT F' B.sa h' fs fs') (ex : EnX B F' h' ΓX σ') : OutS B F h fr ΓL ΓN ΓX K (.exc n fs' σ' h')
structure S1 {β : Type} (ΓX : Option (List Sl)) (Γ : List Sl) (m : MS) (p : Pm β) (Γ' : β -> List Sl) : Prop where
 run : ∀ {B : Bs} {F : Nat -> Prop} {O : Nat -> Option Nat} {σ : Sg} {h : Hh} {c : Nat} {K : Rs β -> Nat -> Prop},Iv B F h c -> En B F O h Γ σ -> p K c -> Out1 B F h Γ' ΓX K (m σ h)
structure SS' {L β : Type} (fr : Bool) (ΓL : L -> List Sl) (ΓX : Option (List Sl)) (Γ : List Sl) (m : MS) (p : Pm (Fl L β)) (ΓN : β -> List Sl) : Prop where
 run : ∀ {B : Bs} {F : Nat -> Prop} {O : Nat -> Option Nat} {σ : Sg} {h : Hh} {c : Nat} {K : Rs (Fl L β) -> Nat -> Prop},Iv B F h c -> En B F O h Γ σ -> p K c -> OutS B F h fr ΓL ΓN ΓX K (m σ h)
section
variable {L β γ : Type} {fr : Bool} {ΓL : L -> List Sl} {ΓX : Option (List Sl)} {Γ Γ' : List Sl} {ΓN : β -> List Sl} {ΓM : γ -> List Sl} {m a b : M D} {p pa pb : Pm Q} {q : Q} {w : D} {F F' : Nat -> Prop} {sa : Nat} {h h' : Hh} {qs : List Q} {ws : List D} {B : Bs} {c : Nat} {O : Nat -> Option Nat} {σ : Sg}
theorem OutS.gw {r : RT} {K : Rs (Fl L β) -> Nat -> Prop} (g : Gw F h F' h') (o : OutS B F' h' fr ΓL ΓN ΓX K r) : OutS B F h fr ΓL ΓN ΓX K r := by
 cases o with
 | nx k iv g' en => exact .nx k iv (g.trans g') en
 | brk k iv g' en => exact .brk k iv (g.trans g') en
 | cont k iv g' en => exact .cont k iv (g.trans g') en
 | ret k iv g' r => exact .ret k iv (g.trans g') r
 | exc k iv g' r ex => exact .exc k iv (g.trans g') r ex
theorem Out1.gw {r : RT} {K : Rs β -> Nat -> Prop} (g : Gw F h F' h') (o : Out1 B F' h' ΓN ΓX K r) : Out1 B F h ΓN ΓX K r := by
 cases o with
 | nx k iv g' en => exact .nx k iv (g.trans g') en
 | exc k iv g' r ex => exact .exc k iv (g.trans g') r ex
theorem Out.then1 {α β' : Type} {Rl : (Nat -> Prop) -> Hh -> β' -> α -> Prop} {r : R α} {f : α -> Hh -> RT} {g : β' -> Pm β} {K : Rs β -> Nat -> Prop} (iv : Iv B F h c) (en : En B F O h Γ σ) (lx : LeX Γ ΓX) (o : Out B F h Rl (bK g K) r)
  (hf : ∀ {F1 : Nat -> Prop} {h1 : Hh} {q : β'} {w : α} {c1 : Nat},Iv B F1 h1 c1 -> Ge B.sa F h F1 h1 -> En B F1 O h1 Γ σ -> Rl F1 h1 q w -> g q K c1 -> Out1 B F1 h1 ΓN ΓX K (f w h1)) : Out1 B F h ΓN ΓX K (r.then σ f) := by
 cases o with
 | ok k i1 g1 r1 => exact (hf i1 g1 (en.ge iv g1) r1 k).gw g1.toGw
 | exc k i1 g1 r1 => exact .exc k i1 g1.toGw r1 ((en.ge iv g1).lex lx)
theorem Out.thenS {α β' : Type} {Rl : (Nat -> Prop) -> Hh -> β' -> α -> Prop} {r : R α} {f : α -> Hh -> RT} {g : β' -> Pm (Fl L β)} {K : Rs (Fl L β) -> Nat -> Prop} (iv : Iv B F h c) (en : En B F O h Γ σ) (lx : LeX Γ ΓX) (o : Out B F h Rl (bK g K) r)
  (hf : ∀ {F1 : Nat -> Prop} {h1 : Hh} {q : β'} {w : α} {c1 : Nat},Iv B F1 h1 c1 -> Ge B.sa F h F1 h1 -> En B F1 O h1 Γ σ -> Rl F1 h1 q w -> g q K c1 -> OutS B F1 h1 fr ΓL ΓN ΓX K (f w h1)) : OutS B F h fr ΓL ΓN ΓX K (r.then σ f) := by
 cases o with
 | ok k i1 g1 r1 => exact (hf i1 g1 (en.ge iv g1) r1 k).gw g1.toGw
 | exc k i1 g1 r1 => exact .exc k i1 g1.toGw r1 ((en.ge iv g1).lex lx)
theorem aCi {α : Type} {K : Rs α -> Nat -> Prop} : bK (fun q => Pm.ret q) K = K := by
 funext r c; cases r <;> rfl
theorem oD (i : Nat) (lx : LeX Γ ΓX) (x : SEs Γ a pa) : S1 ΓX Γ (aR (.nm i) a) pa (fun q => Γ.set i (.fz q)) := ⟨fun iv en k =>
 Out.then1 (g := fun q => .ret q) iv en lx (x.run iv en (by rw [aCi]; exact k)) fun i1 g1 e1 r1 k1 => by
  obtain ⟨F2,i2,g2,r2,t2⟩ := nP i1 r1
  simp only [Tg.set]
  exact .nx k1 i2 g2.toGw ((e1.ge i1 g2).set r2 t2)⟩
theorem En.setOw {i a : Nat} (en : En B F O h Γ σ) (hb : B.h0.length <= a) (hf : ¬ F a) (ho : ∀ j,O j ≠ some a) (t : Top F B.sa h a q) : En B F (fun j => if j = i then some a else O j) h (Γ.set i (.ow q)) (σ.set i (some (.ref a))) := by
 refine ⟨by simp [en.len],fun j q' e => ?_,fun j q' e => ?_,fun j b e => ?_,fun j j' b e1 e2 => ?_,fun j w' e => by
  by_cases hj : i = j
  ·subst hj
   have hl : i < Γ.length := by simpa using aH e
   rw [List.getElem?_set_self hl] at e; cases e
  ·rw [List.getElem?_set_ne hj] at e ⊢
   exact en.eqd j w' e⟩
 ·by_cases hj : i = j
  ·subst hj
   have hl : i < Γ.length := by simpa using aH e
   rw [List.getElem?_set_self hl] at e; cases e
  ·rw [List.getElem?_set_ne hj] at e ⊢
   exact en.fz j q' e
 ·by_cases hj : i = j
  ·subst hj
   have hl : i < Γ.length := by simpa using aH e
   rw [List.getElem?_set_self hl] at e; cases e
   exact ⟨a,by simp,List.getElem?_set_self (by rw [en.len]; exact hl),t⟩
  ·rw [List.getElem?_set_ne hj] at e ⊢
   have : j ≠ i := fun z => hj z.symm
   simp only [this,if_false]
   exact en.ow j q' e
 ·split at e
  ·cases e; exact ⟨hb,hf,t.lt⟩
  ·exact en.oh j b e
 ·split at e1
  ·rename_i h1
   cases e1
   split at e2
   ·rename_i h2; rw [h1,h2]
   ·exact absurd e2 (ho j')
  ·split at e2
   ·cases e2; exact absurd e1 (ho j)
   ·exact en.inj j j' b e1 e2
theorem aAg (i : Nat) (lx : LeX Γ ΓX) (x : SEf Γ a pa) : S1 ΓX Γ (aR (.nm i) a) pa (fun q => Γ.set i (.ow q)) := ⟨fun {B F O σ h c K} iv en k =>
 Out.then1 (g := fun q => .ret q) iv en lx (x.run iv en (by rw [aCi]; exact k)) fun {F1 h1 q w c1} i1 g1 e1 r1 k1 => by
  obtain ⟨a,ea,ha,hf,i2,g2,t⟩ := aDd i1 g1.len r1
  simp only [Tg.set,ea]
  have e2 := e1.ge i1 g2
  refine .nx k1 i2 g2.toGw (e2.setOw (Nat.le_trans iv.len ha) hf (fun j z => ?_) t)
  have := (en.oh j a z).2.2
  omega⟩
theorem vA {α : Type} {t : Tg} {un : Q -> Option α} {ΓT : List Sl -> α -> List Sl} (tg : TgS t un ΓT) (lx : LeX Γ ΓX) (x : SEs Γ a pa) : S1 ΓX Γ (aR t a) (pa.bind fun q => .of (un q)) (fun y => ΓT Γ y) := ⟨fun iv en k =>
 Out.then1 iv en lx (x.run iv en k) fun i1 g1 e1 r1 k1 => by
  obtain ⟨y,e,k2⟩ := cC k1
  obtain ⟨F2,i2,g2,r2,t2⟩ := nP i1 r1
  obtain ⟨σ',e3,en3⟩ := tg.run (e1.ge i1 g2) r2 t2 e
  simp only [e3]
  exact .nx k2 i2 g2.toGw en3⟩
theorem Iv.setO {x : Cl} {a : Nat} (iv : Iv B F h c) (ha : B.h0.length <= a) (hf : ¬ F a) : Iv B F (h.set a x) c := by
 have hs := iv.sl
 refine ⟨iv.sr.up (Up.set (is := [a]) (by simp)) (by simp; omega),iv.ns,fun b f => ?_,by simp; exact iv.len,iv.sl,iv.up0,iv.dn0,fun b l z => ?_⟩
 ·obtain ⟨y,e,l⟩ := iv.fl b f
  have : a ≠ b := fun z => hf (z ▸ f)
  exact ⟨y,by rw [List.getElem?_set_ne this]; exact e,by simpa using l⟩
 ·rw [List.getElem?_set_ne (by omega)]; exact iv.same0 b l z
theorem gT {x : Cl} {a : Nat} (hf : ¬ F a) : Gw F h F (h.set a x) := ⟨by simp,fun _ z => z,fun b f => List.getElem?_set_ne fun z : a = b => hf (by rw [z]; exact f)⟩
theorem En.chg {i a : Nat} {x : Cl} {q' : Q} (en : En B F O h Γ σ) (e : Γ[i]? = some (.ow q)) (ho : O i = some a) (t : Top F B.sa (h.set a x) a q') : En B F O (h.set a x) (Γ.set i (.ow q')) σ := by
 have hf := (en.oh i a ho).2.1
 have g : Gw F h F (h.set a x) := gT hf
 have hl : i < Γ.length := aH e
 refine ⟨by simp [en.len],fun j q0 ej => ?_,fun j q0 ej => ?_,fun j b eb => ?_,en.inj,fun j w' ej => by
  by_cases hj : i = j
  ·subst hj; rw [List.getElem?_set_self hl] at ej; cases ej
  ·rw [List.getElem?_set_ne hj] at ej; exact en.eqd j w' ej⟩
 ·by_cases hj : i = j
  ·subst hj; rw [List.getElem?_set_self hl] at ej; cases ej
  ·rw [List.getElem?_set_ne hj] at ej
   obtain ⟨w,e1,e2,r⟩ := en.fz j q0 ej
   exact ⟨w,e1,e2,r.mono g⟩
 ·by_cases hj : i = j
  ·subst hj
   rw [List.getElem?_set_self hl] at ej; cases ej
   obtain ⟨a',e1,e2,_⟩ := en.ow i q e
   rw [ho] at e1; cases e1
   exact ⟨a,ho,e2,t⟩
  ·rw [List.getElem?_set_ne hj] at ej
   obtain ⟨b,e1,e2,r⟩ := en.ow j q0 ej
   have : a ≠ b := fun z => hj (en.inj i j a ho (z ▸ e1))
   exact ⟨b,e1,e2,r.mono g (List.getElem?_set_ne this)⟩
 ·obtain ⟨o1,o2,o3⟩ := en.oh j b eb
  exact ⟨o1,o2,by simpa using o3⟩
def dS (q x : Q) : Option Q := match q,x with
 | _, .lst _ => none
 | .lst qs,x => if qs.length < sizeLine then some (.lst (qs ++ [x])) else none
 | _,_ => none
theorem aEJ (r : Rep F sa h q w) (hq : ∀ qs,q ≠ .lst qs) : w.isTl = false := by
 cases w with
 | tl ws =>
  exfalso
  cases q with
  | lst qs => exact hq qs rfl
  | tup qs => simp only [Rep] at r; obtain ⟨_,e,_⟩ := r; cases e
  | kt qs => simp only [Rep] at r; obtain ⟨_,e,_⟩ := r; cases e
  | xc _ _ qs => simp only [Rep] at r; obtain ⟨_,e,_⟩ := r; cases e
  | dK qs => rw [lM] at r; obtain ⟨_,_,e,_⟩ := r; cases e
  | dT qs => rw [lN] at r; obtain ⟨_,_,e,_⟩ := r; cases e
  | ins _ qs => rw [jP] at r; obtain ⟨_,_,e,_⟩ := r; cases e
  | _ => simp only [Rep] at r; cases r
 | _ => rfl
def fI {β : Type} (T : String) (x : Q) (p : Pm β) : Pm β := if nR x = some T then p else .bad
@[simp] theorem hJ {p : Pm β} {x : List Q} : fI "list" (.lst x) p = p := by simp [fI,nR]
@[simp] theorem aLy {p : Pm β} {x : List (Key × Q)} : fI "dict" (.dK x) p = p := by simp [fI,nR]
@[simp] theorem aLz {p : Pm β} {x : List (List Key × Q)} : fI "dict" (.dT x) p = p := by simp [fI,nR]
/-- a method of one argument that changes a list or dict of one's own and returns None -/
theorem aG7 {T : String} {op : Op1} {g : Q -> Q -> Option Q} (i : Nat) (e : Γ[i]? = some (.ow q)) (lx : LeX Γ ΓX) (x : SEs Γ a pa)
  (hop : ∀ {F : Nat -> Prop} {sa : Nat} {h : Hh} {a : Nat} {y : Q} {w : D} {q' : Q},¬ F a -> Top F sa h a q -> Rep F sa h y w -> g q y = some q' -> ∃ x,op (.ref a) w h = .ok .non (h.set a x) /\ Top F sa (h.set a x) a q') :
  S1 ΓX Γ (cQ (mM1 (on1 T op) (mV i) a)) (fI T q (pa.bind fun y => .of (g q y))) (fun q' => Γ.set i (.ow q')) := ⟨fun {B F O σ h c K} iv en k => by
 obtain ⟨ad,o1,o2,t⟩ := en.ow i q e
 unfold fI at k
 split at k
 ·rename_i ht
  have hm : (mM1 (on1 T op) (mV i) a) σ h = (a σ h).bind fun y h2 => op (.ref ad) y h2 := by
   simp only [mM1,sP,o2,R.bind_ok,xE t.vw ht,uB]
  show Out1 B F h _ ΓX K (((mM1 (on1 T op) (mV i) a) σ h).then σ fun _ h1 => .nx σ h1)
  rw [hm]
  have o := x.run iv en k
  revert o
  generalize a σ h = r0
  intro o
  cases o with
  | @ok y c' w h' F' k1 i1 g1 r1 =>
   obtain ⟨q',e1,k2⟩ := cC k1
   have e2 := en.ge iv g1
   obtain ⟨oh1,oh2,oh3⟩ := e2.oh i ad o1
   have t2 : Top F' B.sa h' ad q := by
    obtain ⟨ad',z1,z2,z3⟩ := e2.ow i q e
    rw [o1] at z1; cases z1; exact z3
   obtain ⟨xc,e3,t3⟩ := hop oh2 t2 r1 e1
   simp only [R.bind_ok,e3,R.then]
   exact .nx k2 (i1.setO oh1 oh2) (g1.toGw.trans (gT oh2)) (e2.chg e o1 t3)
  | exc k1 i1 g1 r1 => exact .exc k1 i1 g1.toGw r1 ((en.ge iv g1).lex lx)
 ·exact k.elim⟩
theorem jH (i : Nat) (e : Γ[i]? = some (.ow q)) (lx : LeX Γ ΓX) (x : SEs Γ a pa) : S1 ΓX Γ (cQ (mM1 (on1 "list" cL) (mV i) a)) (fI "list" q (pa.bind fun y => .of (dS q y))) (fun q' => Γ.set i (.ow q')) :=
 aG7 i e lx x fun {F sa h a y w q'} hf t r e => by
  unfold dS at e
  split at e
  ·cases e
  ·rename_i hy
   split at e
   ·rename_i hl
    cases e
    obtain ⟨ws,ea,rs⟩ := t
    have nt := aEJ r fun qs z => hy qs z
    refine ⟨.lst (ws ++ [w]), ?_,_,List.getElem?_set_self (aH ea),((rs.app (.one r nt)).mono (gT hf))⟩
    have : ws.length < sizeLine := by rw [rs.len]; exact hl
    simp only [cL,dE,ea,this,nt,and_self,if_true]
   ·cases e
  ·cases e
def mS (q x : Q) : Option Q := match q,x with
 | .lst qs, .lst rs => if qs.length + rs.length <= sizeLine then some (.lst (qs ++ rs)) else none
 | _,_ => none
theorem aD9 (i : Nat) (e : Γ[i]? = some (.ow q)) (lx : LeX Γ ΓX) (x : SEs Γ a pa) : S1 ΓX Γ (cQ (mM1 (on1 "list" mO) (mV i) a)) (fI "list" q (pa.bind fun y => .of (mS q y))) (fun q' => Γ.set i (.ow q')) :=
 aG7 i e lx x fun {F sa h a y w q'} hf t r e => by
  unfold mS at e
  split at e
  ·split at e
   ·rename_i hl
    cases e
    obtain ⟨ws,ea,rs⟩ := t
    obtain ⟨us,a1,a2,a3,a4,rs2⟩ := gB r.vw
    refine ⟨.lst (ws ++ us), ?_,_,List.getElem?_set_self (aH ea),((rs.app rs2).mono (gT hf))⟩
    have : ws.length + us.length <= sizeLine := by rw [rs.len,rs2.len]; exact hl
    simp only [mO,dE,ea,a2,this,if_true]
   ·cases e
  ·cases e
end
end PV
end
section
namespace PV
open PySem PySem.Spec PyProof.Rows L2
section
variable {L β γ : Type} {fr : Bool} {ΓL : L -> List Sl} {ΓX : Option (List Sl)} {Γ Γ' : List Sl} {ΓN : β -> List Sl} {ΓM : γ -> List Sl} {m a b d : M D} {p pa pb pd : Pm Q} {q : Q} {w : D} {F F' : Nat -> Prop} {sa : Nat} {h h' : Hh} {qs : List Q} {ws : List D} {B : Bs} {c : Nat} {O : Nat -> Option Nat} {σ : Sg}
def rP (q n : Q) : Option (Q × Q) := match q,n with
 | .lst qs, .int n => if -(2 ^ 63) <= n /\ n < 2 ^ 63 then match seqIndex? n qs.length with
   | some k => match qs[k]? with
    | some z => some (z, .lst (qs.eraseIdx k))
    | none => none
   | none => none
  else none
 | _,_ => none
theorem aB0 {k : Nat} (r : Reps F sa h qs ws) : Reps F sa h (qs.eraseIdx k) (ws.eraseIdx k) := by
 rw [List.eraseIdx_eq_take_drop_succ,List.eraseIdx_eq_take_drop_succ]
 exact (r.take _).app (r.drop _)
def qK (q k v : Q) : Option Q := match v with
 | .lst _ => none
 | v => match q with
  | .lst qs => match k with
   | .int k => match ixN qs.length k with
    | some j => some (.lst (qs.set j v))
    | none => none
   | _ => none
  | .dK kvs => match rV k with
   | some k => if kvs.length < sizeLine then some (.dK (gM kvs k v)) else none
   | none => none
  | .dT kvs => match kTQ k with
   | some k => if kvs.length < sizeLine then some (.dT (gM kvs k v)) else none
   | none => none
  | _ => none
theorem aAe {k : Nat} (r : Reps F sa h qs ws) (rq : Rep F sa h q w) (nt : w.isTl = false) : Reps F sa h (qs.set k q) (ws.set k w) := by
 rw [jG] at r ⊢
 refine ⟨by simp [r.1],fun i q' w' e1 e2 => ?_⟩
 by_cases hi : k = i
 ·subst hi
  have h1 : k < qs.length := by simpa using aH e1
  have h2 : k < ws.length := by rw [r.1]; exact h1
  rw [List.getElem?_set_self h1] at e1; rw [List.getElem?_set_self h2] at e2
  cases e1; cases e2; exact ⟨nt,rq⟩
 ·rw [List.getElem?_set_ne hi] at e1 e2
  exact r.2 i q' w' e1 e2
theorem aBn {ad : Nat} {k v q' : Q} {wk wv : D} (hf : ¬ F ad) (t : Top F sa h ad q) (rk : Rep F sa h k wk) (rv : Rep F sa h v wv) (e : qK q k v = some q') : ∃ x,kG (.ref ad) wk wv h = some (h.set ad x) /\ Top F sa (h.set ad x) ad q' := by
 have nt : wv.isTl = false := aEJ rv fun qs z => by subst z; simp [qK] at e
 unfold qK at e
 split at e
 ·cases e
 ·split at e
  ·rename_i qs
   obtain ⟨ws,ea,rs⟩ := t
   split at e
   ·rename_i n
    cases bO rk.vw
    split at e
    ·rename_i j ej
     cases e
     rw [<- rs.len] at ej
     exact ⟨.lst (ws.set j wv),by simp only [kG,dE,ea,ej,nt,if_true],_,List.getElem?_set_self (aH ea),(aAe rs rv nt).mono (gT hf)⟩
    ·cases e
   ·cases e
  ·rename_i kvs
   obtain ⟨ws,ea,rs⟩ := t
   split at e
   ·rename_i kk ek
    split at e
    ·rename_i hl
     cases e
     have e2 := pN rk.vw ek
     refine ⟨.dK (qI ws kk wv), ?_,_,List.getElem?_set_self (aH ea),(uE rs rv nt).mono (gT hf)⟩
     have : ws.length < sizeLine := by rw [rs.len]; exact hl
     simp only [kG,dE,ea,e2,this,nt,and_self,if_true]
    ·cases e
   ·cases e
  ·rename_i kvs
   obtain ⟨ws,ea,rs⟩ := t
   split at e
   ·rename_i kk ek
    split at e
    ·rename_i hl
     cases e
     have e2 := aGB rk.vw ek
     refine ⟨.dT (qI ws kk wv), ?_,_,List.getElem?_set_self (aH ea),(uE rs rv nt).mono (gT hf)⟩
     have : ws.length < sizeLine := by rw [rs.len]; exact hl
     cases wk with
     | tup ks =>
      have e3 : aJ toK ks = some kk := e2
      simp only [kG,dE,ea,e3,this,nt,and_self,if_true]
     | _ => cases e2
    ·cases e
   ·cases e
  ·cases e
def PVs (B : Bs) (F : Nat -> Prop) (h : Hh) : Nat -> List Bool -> List Q -> List D -> Prop
 | _,[],[],[] => True
 | n,md :: mds,q :: qs,w :: ws => if md = true then ∃ a,w = .ref a /\ n <= a /\ ¬ F a /\ Top F B.sa h a q /\ PVs B F h (a + 1) mds qs ws else w.isTl = false /\ Rep F B.sa h q w /\ PVs B F h n mds qs ws
 | _,_,_,_ => False
theorem PVs.low : ∀ {n n' : Nat} {mds : List Bool} {qs : List Q} {ws : List D},n' <= n -> PVs B F h n mds qs ws -> PVs B F h n' mds qs ws
 | n,n',[],[],[],_,_ => trivial
 | n,n',md :: mds,q :: qs,w :: ws,hn,r => by
  simp only [PVs] at r ⊢
  split at r
  ·rename_i hm
   rw [if_pos hm]
   obtain ⟨a,e,l,f,t,r⟩ := r
   exact ⟨a,e,Nat.le_trans hn l,f,t,r⟩
  ·rename_i hm
   rw [if_neg hm]
   exact ⟨r.1,r.2.1,r.2.2.low hn⟩
 | n,n',[],q :: qs,ws,_,r => r.elim
 | n,n',[],[],w :: ws,_,r => r.elim
 | n,n',md :: mds,[],ws,_,r => r.elim
 | n,n',md :: mds,q :: qs,[],_,r => r.elim
structure SAm (mds : List Bool) (Γ : List Sl) (m : M (List D)) (p : Pm (List Q)) : Prop where
 run : ∀ {B : Bs} {F : Nat -> Prop} {O : Nat -> Option Nat} {σ : Sg} {h : Hh} {c : Nat} {K : Rs (List Q) -> Nat -> Prop},Iv B F h c -> En B F O h Γ σ -> p K c -> Out B F h (fun F' h' q w => PVs B F' h' h.length mds q w) K (m σ h)
theorem aGa : SAm [] Γ (aB []) (.ret []) := ⟨fun iv en k => .ret iv k trivial⟩
theorem aJU {mds : List Bool} {ms : List (M D)} {ps : Pm (List Q)} (x : SEs Γ a pa) (y : SAm mds Γ (aB ms) ps) : SAm (false :: mds) Γ (aB (a :: ms)) (pa.bind fun x => ps.bind fun xs => .ret (x :: xs)) := ⟨fun iv en k =>
 (x.run iv en k).bind fun i1 g1 r1 k1 => by
  obtain ⟨F2,i2,g2,r2,ht⟩ := nP i1 r1
  refine Out.ge g2 ((y.run i2 ((en.ge iv g1).ge i1 g2) k1).bind fun i3 g3 r3 k3 => .ret i3 k3 ?_)
  simp only [PVs]
  exact ⟨ht,r2.mono g3.toGw,r3.low (Nat.le_trans g1.len g2.len)⟩⟩
theorem aJT {mds : List Bool} {ms : List (M D)} {ps : Pm (List Q)} (x : SEf Γ a pa) (y : SAm mds Γ (aB ms) ps) : SAm (true :: mds) Γ (aB (a :: ms)) (pa.bind fun x => ps.bind fun xs => .ret (x :: xs)) := ⟨fun {B F O σ h c K} iv en k =>
 (x.run iv en k).bind fun {F1 h1 q w c1} i1 g1 r1 k1 => by
  obtain ⟨a,ea,ha,hf,i2,g2,t⟩ := aDd i1 g1.len r1
  rw [ea]
  refine Out.ge g2 ((y.run i2 ((en.ge iv g1).ge i1 g2) k1).bind fun {F3 h3 q3 w3 c3} i3 g3 r3 k3 => .ret i3 k3 ?_)
  simp only [PVs,if_true]
  have hs := i3.sl
  have hb := iv.len
  exact ⟨a,rfl,ha,fun z => hf (g3.dn a t.lt z),t.mono g3.toGw (g3.old a t.lt (by omega)),r3.low (by have := t.lt; omega)⟩⟩
def slM (md : Bool) (q : Q) : Sl := if md = true then .ow q else .fz q
def vE (Γ : List Sl) : List Nat -> List Bool -> List Q -> List Sl
 | i :: is,md :: mds,q :: qs => vE (Γ.set i (slM md q)) is mds qs
 | _,_,_ => Γ
theorem qM : ∀ {is : List Nat} {mds : List Bool} {qs : List Q} {ws : List D} {n : Nat} {Γ : List Sl} {σ : Sg} {O : Nat -> Option Nat},is.length = mds.length -> B.h0.length <= n -> En B F O h Γ σ -> (∀ j b,O j = some b -> b < n) -> PVs B F h n mds qs ws -> ∃ σ' O',Tg.sets (is.map Tg.nm) ws σ h = some σ' /\ En B F O' h (vE Γ is mds qs) σ'
 | [],[],[],[],n,Γ,σ,O,hl,hn,en,ho,r => ⟨σ,O,by simp only [List.map_nil,Tg.sets],en⟩
 | i :: is,md :: mds,q :: qs,w :: ws,n,Γ,σ,O,hl,hn,en,ho,r => by
  simp only [PVs] at r
  simp only [List.map_cons,Tg.sets,Tg.set,vE]
  split at r
  ·rename_i hm
   obtain ⟨a,rfl,ha,hf,t,r⟩ := r
   subst hm
   have e2 := en.setOw (i := i) (Nat.le_trans hn ha) hf (fun j z => by have := ho j a z; omega) t
   simp only [slM,if_true]
   refine qM (by simpa using hl) (by omega) e2 (fun j b z => ?_) r
   split at z
   ·cases z; omega
   ·have := ho j b z; omega
  ·rename_i hm
   have : slM md q = .fz q := by simp [slM,hm]
   rw [this]
   exact qM (by simpa using hl) hn (en.set r.2.1 r.1) ho r.2.2
 | [],[],q :: qs,ws,n,Γ,σ,O,_,_,_,_,r => r.elim
 | [],[],[],w :: ws,n,Γ,σ,O,_,_,_,_,r => r.elim
 | i :: is,md :: mds,[],ws,n,Γ,σ,O,_,_,_,_,r => r.elim
 | i :: is,md :: mds,q :: qs,[],n,Γ,σ,O,_,_,_,_,r => r.elim
 | [],md :: mds,_,_,n,Γ,σ,O,hl,_,_,_,_ => by simp at hl
 | i :: is,[],_,_,n,Γ,σ,O,hl,_,_,_,_ => by simp at hl
theorem PVs.len : ∀ {n : Nat} {mds : List Bool} {qs : List Q} {ws : List D},PVs B F h n mds qs ws -> ws.length = mds.length
 | n,[],[],[],_ => rfl
 | n,md :: mds,q :: qs,w :: ws,r => by
  simp only [PVs] at r
  split at r
  ·obtain ⟨a,_,_,_,_,r⟩ := r; simp [r.len]
  ·simp [r.2.2.len]
 | n,[],q :: qs,ws,r => r.elim
 | n,[],[],w :: ws,r => r.elim
 | n,md :: mds,[],ws,r => r.elim
 | n,md :: mds,q :: qs,[],r => r.elim
theorem aIT {is : List Nat} {mds : List Bool} {ma : M (List D)} {ps : Pm (List Q)} {dec : List Q -> Option β} {ΓB : β -> List Sl} (hl : is.length = mds.length) (hz : mds.length <= 1000) (lx : LeX Γ ΓX) (x : SAm mds Γ ma ps) (hd : ∀ l b,dec l = some b -> ΓB b = vE Γ is mds l) :
  S1 ΓX Γ (aR (.tu (is.map Tg.nm)) (bF ma)) (ps.bind fun l => .of (dec l)) ΓB := ⟨fun {B F O σ h c K} iv en k => by
 unfold aR bF
 have o := x.run iv en k
 revert o
 generalize ma σ h = r0
 intro o
 cases o with
 | exc k1 i1 g1 r1 => exact .exc k1 i1 g1.toGw r1 ((en.ge iv g1).lex lx)
 | @ok l c' ws h1 F1 k1 i1 g1 r1 =>
  obtain ⟨b,e1,k2⟩ := cC k1
  have hw : ws.length <= sizeLine := by rw [r1.len]; exact sz (by omega)
  obtain ⟨σ',O',e2,en2⟩ := qM hl iv.len (en.ge iv g1) (fun j b z => (en.oh j b z).2.2) r1
  simp only [R.bind_ok,hw,if_true,R.then,aQ,Tg.set,asT,e2]
  exact .nx k2 i1 g1.toGw (by rw [hd l b e1]; exact en2)⟩
def l2 : List Q -> Option (Q × Q)
 | [a,b] => some (a,b)
 | _ => none
def l3 : List Q -> Option (Q × Q × Q)
 | [a,b,c] => some (a,b,c)
 | _ => none
def l4 : List Q -> Option (Q × Q × Q × Q)
 | [a,b,c,d] => some (a,b,c,d)
 | _ => none
@[simp] theorem aMA {a b : Q} : l2 [a,b] = some (a,b) := id rfl
@[simp] theorem aMB {a b c : Q} : l3 [a,b,c] = some (a,b,c) := id rfl
@[simp] theorem aMC {a b c d : Q} : l4 [a,b,c,d] = some (a,b,c,d) := id rfl
theorem aG9 {i j : Nat} {m1 m2 : Bool} {ma : M (List D)} {ps : Pm (List Q)} (lx : LeX Γ ΓX) (x : SAm [m1,m2] Γ ma ps) : S1 ΓX Γ (aR (.tu [.nm i, .nm j]) (bF ma)) (ps.bind fun l => .of (l2 l)) (fun r => (Γ.set i (slM m1 r.1)).set j (slM m2 r.2)) :=
 aIT (is := [i,j]) rfl (by simp) lx x fun l b e => by
  match l,e with
  | [a,b'],e => cases e; rfl
end
end PV
end
section
namespace PV
open PySem PySem.Spec PyProof.Rows L2
def wU {L β γ : Type} (f : γ -> Pm (Fl L β)) : Fl L γ -> Pm (Fl L β) := fun r => match r with
 | .nx b => f b
 | .brk l => .ret (.brk l)
 | .cont l => .ret (.cont l)
 | .ret q => .ret (.ret q)
def Pm.seq {L β γ : Type} (p : Pm (Fl L γ)) (f : γ -> Pm (Fl L β)) : Pm (Fl L β) := p.bind (wU f)
theorem pL {L β γ : Type} {p : Pm (Fl L γ)} {f : γ -> Pm (Fl L β)} {K : Rs (Fl L β) -> Nat -> Prop} {c : Nat} : p.seq f K c = p (bK (wU f) K) c := rfl
@[simp] theorem pJ {L β γ : Type} {f : γ -> Pm (Fl L β)} {b : γ} : wU f (.nx b) = f b := id rfl
@[simp] theorem aKY {L β γ : Type} {f : γ -> Pm (Fl L β)} {b : L} : wU f (.brk b) = .ret (.brk b) := id rfl
@[simp] theorem aJE {L β γ : Type} {f : γ -> Pm (Fl L β)} {b : L} : wU f (.cont b) = .ret (.cont b) := id rfl
@[simp] theorem aKZ {L β γ : Type} {f : γ -> Pm (Fl L β)} {q : Q} : wU f (.ret q) = .ret (.ret q) := id rfl
section
variable {L β γ : Type} {fr : Bool} {ΓL : L -> List Sl} {ΓX : Option (List Sl)} {Γ Γ' : List Sl} {ΓN : β -> List Sl} {ΓM : γ -> List Sl} {m a b d : M D} {p pa pb pd : Pm Q} {q : Q} {w : D} {F F' : Nat -> Prop} {sa : Nat} {h h' : Hh} {qs : List Q} {ws : List D} {B : Bs} {c : Nat} {O : Nat -> Option Nat} {σ : Sg} {s t : MS}
@[simp] theorem seq_nx {x : γ} {f : γ -> Pm (Fl L β)} : Pm.seq (.ret (.nx x)) f = f x := id rfl
@[simp] theorem seq_ret {f : γ -> Pm (Fl L β)} : Pm.seq (.ret (.ret q)) f = .ret (.ret q) := id rfl
@[simp] theorem seq_brk {l : L} {f : γ -> Pm (Fl L β)} : Pm.seq (.ret (.brk l)) f = .ret (.brk l) := id rfl
@[simp] theorem seq_cont {l : L} {f : γ -> Pm (Fl L β)} : Pm.seq (.ret (.cont l)) f = .ret (.cont l) := id rfl
@[simp] theorem seq_bad {f : γ -> Pm (Fl L β)} : Pm.seq .bad f = .bad := id rfl
@[simp] theorem seq_exc {n : Nat} {fs : List (Str × Q)} {f : γ -> Pm (Fl L β)} : Pm.seq (.exc n fs) f = .exc n fs := id rfl
@[simp] theorem aK0 {α : Type} {p : Pm α} {g : α -> Pm (Fl L γ)} {f : γ -> Pm (Fl L β)} : Pm.seq (p.bind g) f = p.bind fun x => (g x).seq f := by simp only [Pm.seq,aI]
theorem cN {p : Pm γ} {pr : γ -> Pm (Fl L β)} (x : S1 ΓX Γ s p ΓM) (y : ∀ z,SS' fr ΓL ΓX (ΓM z) t (pr z) ΓN) : SS' fr ΓL ΓX Γ (aS s t) (p.bind pr) ΓN := ⟨fun iv en k => by
 have o := x.run iv en k
 revert o
 simp only [aS]
 generalize s _ _ = r0
 intro o
 cases o with
 | nx k i1 g1 e1 => exact ((y _).run i1 e1 k).gw g1
 | exc k i1 g1 r1 ex => exact .exc k i1 g1 r1 ex⟩
theorem lE {p : Pm γ} {f : γ -> β} (x : S1 ΓX Γ s p ΓM) (y : ∀ z,LeL (ΓM z) (ΓN (f z))) : SS' fr ΓL ΓX Γ s (p.bind fun z => .ret (.nx (f z))) ΓN := ⟨fun iv en k => by
 have o := x.run iv en k
 revert o
 generalize s _ _ = r0
 intro o
 cases o with
 | nx k i1 g1 e1 => exact .nx k i1 g1 (e1.le (y _))
 | exc k i1 g1 r1 ex => exact .exc k i1 g1 r1 ex⟩
theorem iO {p : Pm (Fl L γ)} {pr : γ -> Pm (Fl L β)} (x : SS' fr ΓL ΓX Γ s p ΓM) (y : ∀ z,SS' fr ΓL ΓX (ΓM z) t (pr z) ΓN) : SS' fr ΓL ΓX Γ (aS s t) (p.seq pr) ΓN := ⟨fun iv en k => by
 have o := x.run iv en k
 revert o
 simp only [aS]
 generalize s _ _ = r0
 intro o
 cases o with
 | nx k i1 g1 e1 => exact ((y _).run i1 e1 k).gw g1
 | brk k i1 g1 e1 => exact .brk k i1 g1 e1
 | cont k i1 g1 e1 => exact .cont k i1 g1 e1
 | ret k i1 g1 r1 => exact .ret k i1 g1 r1
 | exc k i1 g1 r1 ex => exact .exc k i1 g1 r1 ex⟩
/-- what is one's own becomes frozen -/
theorem aBA {p : Pm (Fl L β)} (i : Nat) (e : Γ[i]? = some (.ow q)) (x : SS' fr ΓL ΓX (Γ.set i (.fz q)) s p ΓN) : SS' fr ΓL ΓX Γ s p ΓN := ⟨fun {B F O σ h c K} iv en k => by
 obtain ⟨a,o1,o2,t⟩ := en.ow i q e
 obtain ⟨oh1,oh2,oh3⟩ := en.oh i a o1
 have iv2 := iv.freeze oh1 t
 have en2 : En B (Fx F a) (fun j => if j = i then none else O j) h (Γ.set i (.fz q)) σ := by
  refine ⟨by simp [en.len],fun j q' ej => ?_,fun j q' ej => ?_,fun j b ej => ?_,fun j j' b e1 e2 => ?_,fun j w' ej => by
   by_cases hj : i = j
   ·subst hj; rw [List.getElem?_set_self (aH e)] at ej; cases ej
   ·rw [List.getElem?_set_ne hj] at ej; exact en.eqd j w' ej⟩
  ·by_cases hj : i = j
   ·subst hj
    rw [List.getElem?_set_self (aH e)] at ej; cases ej
    exact ⟨_,o2,rfl,(t.mono nB rfl).rep (.inr rfl)⟩
   ·rw [List.getElem?_set_ne hj] at ej
    obtain ⟨w,e1,e2,r⟩ := en.fz j q' ej
    exact ⟨w,e1,e2,r.mono nB⟩
  ·by_cases hj : i = j
   ·subst hj
    rw [List.getElem?_set_self (aH e)] at ej; cases ej
   ·rw [List.getElem?_set_ne hj] at ej
    obtain ⟨b,e1,e2,r⟩ := en.ow j q' ej
    have : j ≠ i := fun z => hj z.symm
    exact ⟨b,by simp only [this,if_false]; exact e1,e2,r.mono nB rfl⟩
  ·split at ej
   ·cases ej
   ·rename_i hj
    obtain ⟨z1,z2,z3⟩ := en.oh j b ej
    refine ⟨z1,fun z => ?_,z3⟩
    rcases z with z | rfl
    ·exact z2 z
    ·exact hj (en.inj j i b ej o1)
  ·split at e1
   ·cases e1
   ·split at e2
    ·cases e2
    ·exact en.inj j j' b e1 e2
 exact (x.run iv2 en2 k).gw nB⟩
theorem nS {z : β} (l : LeL Γ (ΓN z)) : SS' fr ΓL ΓX Γ hZ (.ret (.nx z)) ΓN := ⟨fun iv en k => .nx k iv .rfl' (en.le l)⟩
theorem eI (lx : LeX Γ ΓX) (x : SEs Γ a pa) : SS' false ΓL ΓX Γ (bX a) (pa.bind fun q => .ret (.ret q)) ΓN := ⟨fun iv en k =>
 Out.thenS iv en lx (x.run iv en k) fun i1 g1 e1 r1 k1 => .ret k1 i1 .rfl' (by simpa using r1)⟩
theorem jU {tm : M Bool} {pt : Pm Bool} {p1 p2 : Pm (Fl L β)} (lx : LeX Γ ΓX) (x : STb Γ tm pt) (y : SS' fr ΓL ΓX Γ s p1 ΓN) (z : SS' fr ΓL ΓX Γ t p2 ΓN) : SS' fr ΓL ΓX Γ (fH tm s t) (pt.bind fun x => if x = true then p1 else p2) ΓN := ⟨fun iv en k =>
 Out.thenS iv en lx (x.run iv en k) fun i1 g1 e1 r1 k1 => by
  subst r1
  split
  ·rename_i hx; rw [if_pos hx] at k1; exact y.run i1 e1 k1
  ·rename_i hx; rw [if_neg hx] at k1; exact z.run i1 e1 k1⟩
def rT {S β : Type} (r : Fl S S) (k : S -> Pm (Fl L S)) : Pm (Fl L S) := match r with
 | .nx s => k s
 | .cont s => k s
 | .brk s => .ret (.nx s)
 | .ret q => .ret (.ret q)
def eK {α S : Type} (un : Q -> Option α) (pb : α -> S -> Pm (Fl S S)) : List Q -> S -> Pm (Fl L S)
 | [],s => .ret (.nx s)
 | q :: qs,s => (Pm.of (un q)).bind fun a => (pb a s).bind fun r => rT (β := β) r fun s' => eK un pb qs s'
def nA {α S : Type} (un : Q -> Option α) (pb : α -> S -> Pm (Fl S S)) (l : List Q) (s : S) : Pm (Fl L S) := if l.length <= sizeLine then eK (β := Unit) un pb l s else .bad
theorem aA1 {α S : Type} {un : Q -> Option α} {pb : α -> S -> Pm (Fl S S)} {t : Tg} {ΓT : List Sl -> α -> List Sl} {b : MS} {src : Src} {Γ0 : S -> List Sl} {K : Rs (Fl L S) -> Nat -> Prop} (tg : TgS t un ΓT) (hb : ∀ a z,SS' fr Γ0 ΓX (ΓT (Γ0 z) a) b (pb a z) Γ0) :
  ∀ (n i : Nat) {qs : List Q} {ws : List D} {z : S} {F : Nat -> Prop} {h : Hh} {c : Nat} {O : Nat -> Option Nat} {σ : Sg},Iv B F h c -> En B F O h (Γ0 z) σ -> (∀ {F' h'},Gw F h F' h' -> ∀ j,src (i + j) h' = some ws[j]?) -> Reps F B.sa h qs ws -> ws.length < n -> eK (β := Unit) un pb qs z K c ->
   OutS B F h fr ΓL Γ0 ΓX K (lW src t b n i σ h)
 | 0,i,qs,ws,z,F,h,c,O,σ,iv,en,hs,r,hl,k => by omega
 | n + 1,i,qs,ws,z,F,h,c,O,σ,iv,en,hs,r,hl,k => by
  have s0 := hs .rfl' 0
  simp only [Nat.add_zero] at s0
  cases qs with
  | nil =>
   simp only [Reps] at r; subst r
   simp only [lW,s0]
   exact .nx k iv .rfl' en
  | cons q qs =>
   simp only [Reps] at r
   obtain ⟨w,ws,rfl,ht,r1,rs⟩ := r
   simp only [eK] at k
   obtain ⟨a,e,k1⟩ := mQ k
   obtain ⟨σ',e2,en2⟩ := tg.run en r1 ht e
   simp only [lW,s0,List.getElem?_cons_zero,e2]
   have o := (hb a z).run iv en2 k1
   revert o
   generalize b σ' h = r0
   intro o
   have nxt : ∀ {z' : S} {c' : Nat} {σ2 : Sg} {h2 : Hh} {F2 : Nat -> Prop} {O2 : Nat -> Option Nat},eK (β := Unit) un pb qs z' K c' -> Iv B F2 h2 c' -> Gw F h F2 h2 -> En B F2 O2 h2 (Γ0 z') σ2 -> OutS B F h fr ΓL Γ0 ΓX K (lW src t b n (i + 1) σ2 h2) := fun k i2 g2 e3 => by
    refine (aA1 tg hb n (i + 1) i2 e3 (fun {F' h'} g j => ?_) (rs.mono g2) (by simp at hl; omega) k).gw g2
    have := hs (g2.trans g) (j + 1)
    rw [Nat.add_assoc,Nat.add_comm 1 j]
    simpa using this
   cases o with
   | nx k i2 g2 e3 => exact nxt k i2 g2 e3
   | cont k i2 g2 e3 => exact nxt k i2 g2 e3
   | brk k i2 g2 e3 => exact .nx k i2 g2 e3
   | ret k i2 g2 r2 => exact .ret k i2 g2 r2
   | exc k i2 g2 r2 ex => exact .exc k i2 g2 r2 ex
theorem xY {α S : Type} {un : Q -> Option α} {pb : α -> S -> Pm (Fl S S)} {tt : Tg} {ΓT : List Sl -> α -> List Sl} {b : MS} {mi : M Src} {pi : Pm (List Q)} {Γ0 : S -> List Sl} {z : S} (lx : LeX Γ ΓX) (hi : SIs Γ mi pi) (l : LeL Γ (Γ0 z)) (tg : TgS tt un ΓT) (hb : ∀ a z,SS' fr Γ0 ΓX (ΓT (Γ0 z) a) b (pb a z) Γ0) :
  SS' fr ΓL ΓX Γ (nZ mi tt b) (pi.bind fun l => nA un pb l z) Γ0 := ⟨fun iv en k =>
 Out.thenS iv en lx (hi.run iv en k) fun {F1 h1 ll src c1} i1 g1 e1 r1 k1 => by
  unfold nA at k1
  split at k1
  ·rename_i hl
   obtain ⟨ws,rs,hs⟩ := r1
   exact aA1 tg hb fK 0 i1 (e1.le l) (fun {F' h'} g j => by rw [Nat.zero_add]; exact hs _ g.same j) rs (by rw [rs.len]; exact Nat.lt_of_le_of_lt hl (by decide)) k1
  ·exact k1.elim⟩
abbrev HdP (L β : Type) := List Nat × (Q -> Pm (Fl L β))
def aGu {L β : Type} : List (HdP L β) -> Nat -> List (Str × Q) -> Pm (Fl L β)
 | [],n,fs => .exc n fs
 | (l,ph) :: r,n,fs => if l.contains n = true then (ph (.xc n (fs.map (·.1)) (fs.map (·.2)))).noX else aGu r n fs
def aHS {L β : Type} (p : Pm (Fl L β)) (hs : List (HdP L β)) : Pm (Fl L β) := fun K c => p (fun r c' => match r with
 | .ok f => K (.ok f) c'
 | .exc n fs => 100 <= n /\ aGu hs n fs K c') c
@[simp] theorem aLe {f : Fl L β} {hs : List (HdP L β)} : aHS (.ret f) hs = .ret f := id rfl
@[simp] theorem aLd {hs : List (HdP L β)} : aHS .bad hs = (.bad : Pm (Fl L β)) := id rfl
def cH {L β : Type} (r : Fl L β) : Pm Q := match r with
 | .nx _ => .ret .non
 | .ret q => .ret q
 | _ => .bad
@[simp] theorem aLh {z : β} : cH (L := L) (.nx z) = .ret .non := id rfl
@[simp] theorem dF : cH (L := L) (β := β) (.ret q) = .ret q := id rfl
theorem aDr {n : Nat} (iv : Iv B F h c) (r : Reps F B.sa h qs ws) : En B F (fun _ => none) h (qs.map Sl.fz ++ List.replicate (n - ws.length) Sl.no) (bH n ws) := by
 unfold bH
 refine ⟨by simp [r.len],fun i q e => ?_,fun i q e => ?_,fun i a e => (nomatch e),fun i j a e => (nomatch e),fun i w e => by
  rcases Nat.lt_or_ge i qs.length with hi | hi
  ·rw [List.getElem?_append_left (by simpa using hi),List.getElem?_map] at e
   obtain ⟨q',e1,e2⟩ := Option.map_eq_some_iff.mp e
   cases e2
  ·rw [List.getElem?_append_right (by simpa using hi),List.getElem?_replicate] at e
   split at e <;> cases e⟩
 ·rcases Nat.lt_or_ge i qs.length with hi | hi
  ·rw [List.getElem?_append_left (by simpa using hi),List.getElem?_map] at e
   obtain ⟨q',e1,e2⟩ := Option.map_eq_some_iff.mp e
   cases e2
   obtain ⟨w,e3,nt,rw'⟩ := r.get e1
   refine ⟨w, ?_,nt,rw'⟩
   rw [List.getElem?_append_left (by simpa [r.len] using hi),List.getElem?_map,e3]; rfl
  ·rw [List.getElem?_append_right (by simpa using hi),List.getElem?_replicate] at e
   split at e <;> cases e
 ·rcases Nat.lt_or_ge i qs.length with hi | hi
  ·rw [List.getElem?_append_left (by simpa using hi),List.getElem?_map] at e
   obtain ⟨q',e1,e2⟩ := Option.map_eq_some_iff.mp e
   cases e2
  ·rw [List.getElem?_append_right (by simpa using hi),List.getElem?_replicate] at e
   split at e <;> cases e
/-- a def whose result is whole -/
theorem iM {n np : Nat} {body : MS} {P : List Q -> Pm (Fl L β)} (hb : ∀ qs : List Q,qs.length = np -> SS' false ΓL none (qs.map Sl.fz ++ List.replicate (n - np) Sl.no) body (P qs) ΓN) :
  FnS false (fun ws h => if ws.length = np then gK (body (bH n ws) h) else .bad) (fun qs => if qs.length = np then (P qs).bind cH else .bad) := ⟨fun {F sa h c K qs ws} iv r k => by
 split at k
 ·rename_i hq
  rw [if_pos (by rw [r.len]; exact hq)]
  have e0 := aDr (n := n) iv r
  rw [r.len,hq] at e0
  have o := (hb qs hq).run iv e0 k
  revert o
  generalize body _ _ = r0
  intro o
  have ge : ∀ {F' : Nat -> Prop} {h' : Hh} {c' : Nat},Iv ⟨h,F,sa⟩ F' h' c' -> Gw F h F' h' -> Ge sa F h F' h' := fun i2 g2 => ⟨g2,fun a l z => i2.dn0 a l z,fun a l z => i2.same0 a l z⟩
  cases o with
  | nx k i1 g1 e1 => exact .ok k i1 (ge i1 g1) (by simpa using aBm)
  | brk k i1 g1 e1 => exact k.elim
  | cont k i1 g1 e1 => exact k.elim
  | ret k i1 g1 r1 => exact .ok k i1 (ge i1 g1) r1
  | exc k i1 g1 r1 ex => exact .exc k i1 (ge i1 g1) r1
 ·exact k.elim⟩
def aJZ {L β : Type} (r : Fl L β) : Pm Q := match r with
 | .ret q => .ret q
 | _ => .bad
@[simp] theorem aJ0 : aJZ (L := L) (β := β) (.ret q) = .ret q := id rfl
end
abbrev tK := Nat -> Option ((Nat -> List Q -> Pm Q) -> Nat -> List Q -> Pm Q)
def aK (PT : tK) : Nat -> Nat -> List Q -> Pm Q
 | 0 => fun _ _ => .bad
 | k + 1 => fun f qs => match PT f with
  | some d => d (aK PT k) k qs
  | none => .bad
theorem aDw {fr : Bool} {PT : tK} {f : Nat} {cl : List D -> Hh -> R D} : FnS fr cl (aK PT 0 f) := ⟨fun _ _ k => k.elim⟩
theorem mZ {fr : Bool} {PT : tK} {k f : Nat} {cl : List D -> Hh -> R D} (e : PT f = none) : FnS fr cl (aK PT (k + 1) f) := ⟨fun _ _ k => by simp only [aK,e] at k; exact k.elim⟩
theorem yW {fr : Bool} {T : Tab} {PT : tK} {k f : Nat} {d : Fd} {pd : (Nat -> List Q -> Pm Q) -> Nat -> List Q -> Pm Q} (e : T f = some d) (ep : PT f = some pd) (s : FnS fr (fun ws h => if ws.length = d.np then gK (d.body (aW T k) (bH d.nN ws) h) else .bad) (pd (aK PT k) k)) : FnS fr (aW T (k + 1) f) (aK PT (k + 1) f) := ⟨fun iv r k => by
 simp only [aK,ep] at k
 simp only [aW,e,aAf]
 exact s.run iv r k⟩
end PV
end
section
namespace PV
open PySem PySem.Spec PyProof.Rows L2
section
variable {L β γ : Type} {fr : Bool} {ΓL : L -> List Sl} {ΓX : Option (List Sl)} {Γ Γ' : List Sl} {ΓN : β -> List Sl} {ΓM : γ -> List Sl} {m a b d : M D} {p pa pb pd : Pm Q} {q : Q} {w : D} {F F' : Nat -> Prop} {sa : Nat} {h h' : Hh} {qs : List Q} {ws : List D} {B : Bs} {c : Nat} {O : Nat -> Option Nat} {σ : Sg} {s t : MS}
/-- a def treated by hand -/
theorem yV {fr : Bool} {T : Tab} {PT : tK} {k f : Nat} {g : Nat -> List Q -> Pm Q} (ep : PT f = some (fun _ => g)) (s : FnS fr (aW T (k + 1) f) (g k)) : FnS fr (aW T (k + 1) f) (aK PT (k + 1) f) := ⟨fun iv r k => by
 simp only [aK,ep] at k
 exact s.run iv r k⟩
end
end PV
end
section
namespace PV
open PySem PySem.Spec PyProof.Rows L2
section
variable {i j : Int} {a b : Str} {q x y z : Q} {qs : List Q}
@[simp] theorem aMd : iJ (.int i) (.int j) = some (.int (i + j)) := id rfl
@[simp] theorem aMu : aKN (.int i) (.int j) = some (.int (i - j)) := id rfl
@[simp] theorem aMR : qLt (.int i) (.int j) = some (.bl (decide (i < j))) := id rfl
@[simp] theorem aMQ : qLe (.int i) (.int j) = some (.bl (decide (i <= j))) := id rfl
@[simp] theorem aMN : qGt (.int i) (.int j) = some (.bl (decide (j < i))) := id rfl
@[simp] theorem aMM : qGe (.int i) (.int j) = some (.bl (decide (j <= i))) := id rfl
@[simp] theorem aMo : aKH (.int i) (.int j) = some (.int (if j > i then j else i)) := id rfl
@[simp] theorem aMp : aKI (.int i) (.int j) = some (.int (if j < i then j else i)) := id rfl
@[simp] theorem aMt : aKK (.int i) = some (.int (-i)) := id rfl
@[simp] theorem aMg {k : Bool} : wJ (.bl k) = some (.int (if k then 1 else 0)) := id rfl
@[simp] theorem aMh : wJ (.int i) = some (.int i) := id rfl
@[simp] theorem aDY : cJ (.lst qs) = some (.int qs.length) := id rfl
@[simp] theorem aKG : cJ (.tup qs) = some (.int qs.length) := id rfl
@[simp] theorem aLB : cJ (.kt qs) = some (.int qs.length) := id rfl
@[simp] theorem eA : nK (.lst qs) = some (.tup qs) := id rfl
@[simp] theorem aIP : nK (.tup qs) = some (.tup qs) := id rfl
@[simp] theorem aJD : gV (.tup qs) = some (.lst qs) := id rfl
@[simp] theorem aJC : gV (.lst qs) = some (.lst qs) := id rfl
@[simp] theorem bI {k : Bool} : bT (.bl k) = some k := id rfl
@[simp] theorem nQ : jJ (.int i) = some i := id rfl
@[simp] theorem aLC {k : Bool} : aKL (.bl k) = some (.bl (!k)) := id rfl
@[simp] theorem uC : dD (.lst qs) = some qs := id rfl
@[simp] theorem nJ : dD (.tup qs) = some qs := id rfl
@[simp] theorem aLD : dD (.kt qs) = some qs := id rfl
@[simp] theorem aKM {s : Str} : dD (.str s) = some (s.cps.toList.map fun c => .str ⟨#[c]⟩) := id rfl
@[simp] theorem aJA : aES (.lst qs) = some (uO qs) := id rfl
@[simp] theorem aJB : aES (.tup qs) = some (uO qs) := id rfl
@[simp] theorem aKO {us : List Q} : aG0 (.lst qs) (.lst us) = some (aCf qs us) := id rfl
@[simp] theorem aKP {us : List Q} : aG0 (.tup qs) (.tup us) = some (aCf qs us) := id rfl
@[simp] theorem aFE : qEq (.str a) (.str b) = some (.bl (decide (a = b))) := id rfl
@[simp] theorem aFG : qNe (.str a) (.str b) = some (.bl (!decide (a = b))) := id rfl
theorem zX : oR (.int i) (.int j) = some (decide (i = j)) := by
 have e1 : aO bD (.int i) = some (.int i) := rfl
 have e2 : aO bD (.int j) = some (.int j) := rfl
 have e3 : PyData.eqv (.int i) (.int j) = decide (i = j) := by
  rw [Bool.eq_iff_iff]; simp [PyData.eqv]
 simp only [oR,e1,e2,vF,Bool.and_self,if_true,e3]
@[simp] theorem aBg : qEq (.int i) (.int j) = some (.bl (decide (i = j))) := by simp [qEq,zX]
@[simp] theorem aBh : qNe (.int i) (.int j) = some (.bl (!decide (i = j))) := by simp [qNe,zX]
@[simp] theorem aMP : qIs .non .non = some (.bl true) := id rfl
@[simp] theorem aMO {k l : Bool} : qIs (.bl k) (.bl l) = some (.bl (decide (k = l))) := id rfl
@[simp] theorem aMi {k l : Bool} : aGY (.bl k) (.bl l) = some (.bl (!decide (k = l))) := id rfl
@[simp] theorem aMj : aGY .non .non = some (.bl false) := id rfl
@[simp] theorem aKF {c : Nat} {fs : List (Str × Q)} {f : Str} : aKE f (.ins c fs) = if c < 100 then fs.lookup f else none := id rfl
@[simp] theorem aMl : qIx (.tup (x :: qs)) (.int 0) = some x := by simp [qIx,atI,ixN]
@[simp] theorem aMm : qIx (.tup (x :: y :: qs)) (.int 1) = some y := by
 have : (1 : Int) < (qs.length : Int) + 1 + 1 := by omega
 simp [qIx,atI,ixN,this]
@[simp] theorem aMn : qIx (.tup (x :: y :: z :: qs)) (.int 2) = some z := by
 have : (2 : Int) < (qs.length : Int) + 1 + 1 + 1 := by omega
 simp [qIx,atI,ixN,this]
@[simp] theorem aMk : qIx (.lst (x :: qs)) (.int 0) = some x := by simp [qIx,atI,ixN]
theorem zZ {n : Nat} (e : qs[n]? = some x) : qIx (.lst qs) (.int (n : Int)) = some x := by simp [qIx,vQ,e]
@[simp] theorem aHZ : bU (.int i) (.ty "int") = some (.bl true) := id rfl
@[simp] theorem aGx : bU (.int i) (.ty "bool") = some (.bl false) := id rfl
@[simp] theorem aH0 : bU (.int i) (.ty "str") = some (.bl false) := id rfl
@[simp] theorem aH1 : bU (.int i) (.ty "tuple") = some (.bl false) := id rfl
@[simp] theorem aH5 : bU (.str a) (.ty "str") = some (.bl true) := id rfl
@[simp] theorem aH6 : bU (.str a) (.ty "tuple") = some (.bl false) := id rfl
@[simp] theorem aH4 : bU (.str a) (.ty "int") = some (.bl false) := id rfl
@[simp] theorem aH9 : bU (.tup qs) (.ty "tuple") = some (.bl true) := id rfl
@[simp] theorem aH8 : bU (.tup qs) (.ty "str") = some (.bl false) := id rfl
@[simp] theorem aH7 : bU (.tup qs) (.ty "int") = some (.bl false) := id rfl
@[simp] theorem aH3 : bU (.lst qs) (.ty "tuple") = some (.bl false) := id rfl
@[simp] theorem aH2 : bU (.lst qs) (.ty "str") = some (.bl false) := id rfl
theorem aGZ : qSl (.tup (x :: qs)) (some 1) none = some (.tup qs) := by
 have e1 : HT.sIx (x :: qs).length 0 (some 1) = 1 := by simp [HT.sIx]
 have e2 : HT.sIx (x :: qs).length (x :: qs).length none = (x :: qs).length := rfl
 simp only [qSl,oK,e1,e2]
 simp
theorem aAa : qSl (.tup qs) (some 1) none = some (.tup qs.tail) := by
 cases qs with
 | nil => rfl
 | cons x qs => exact aGZ
theorem aCV {n : Nat} (h : n <= qs.length) : qSl (.tup qs) none (some (n : Int)) = some (.tup (qs.take n)) := by
 have e1 : HT.sIx qs.length 0 none = 0 := rfl
 have e2 : HT.sIx qs.length qs.length (some (n : Int)) = n := by
  have : ¬ ((n : Int) < 0) := by omega
  simp [HT.sIx,this]; omega
 simp only [qSl,oK,e1,e2]
 simp
theorem uW {us : List Q} (h : qs.length + us.length <= 16777216) : iJ (.tup qs) (.tup us) = some (.tup (qs ++ us)) := by
 have h' : qs.length + us.length <= sizeLine := h
 simp [iJ,h']
theorem oB (hx : ∀ us,x ≠ .lst us) (h : qs.length < 16777216) : dS (.lst qs) x = some (.lst (qs ++ [x])) := by
 have h' : qs.length < sizeLine := h
 cases x <;> first | exact absurd rfl (hx _) | simp [dS,h']
theorem aCS {us : List Q} (h : qs.length + us.length <= 16777216) : mS (.lst qs) (.lst us) = some (.lst (qs ++ us)) := by
 have h' : qs.length + us.length <= sizeLine := h
 simp [mS,h']
theorem tV {α : Type} {f : α -> Bool} : ∀ {l : List α},aJ bT (l.map fun x => Q.bl (f x)) = some (l.map f)
 | [] => rfl
 | x :: l => by simp only [List.map_cons,aJ,bT,tV (l := l)]
@[simp] theorem kX {α : Type} {f : α -> Bool} {l : List α} : rM (.lst (l.map fun x => Q.bl (f x))) = some (.bl (l.all f)) := by
 simp only [rM,tV,Option.map_some,List.all_map]; rfl
@[simp] theorem zW {α : Type} {f : α -> Bool} {l : List α} : wI (.lst (l.map fun x => Q.bl (f x))) = some (.bl (l.any f)) := by
 simp only [wI,tV,Option.map_some,List.any_map]; rfl
end
section
variable {α β : Type} {un : Q -> Option α} {pt : α -> Pm Bool} {pe : α -> Pm Q}
theorem yE (f : β -> Q) (t : β -> Bool) (g : β -> Q) : ∀ {xs : List β} {acc : List Q},acc.length + xs.length <= 16777216 -> (∀ x ∈ xs,∃ a,un (f x) = some a /\ pt a = .ret (t x) /\ (t x = true -> pe a = .ret (g x))) -> jC un (lcB pt pe) (xs.map f) acc = .ret (acc ++ (xs.filter t).map g)
 | [],acc,_,_ => by simp [jC]
 | x :: xs,acc,hl,h => by
  obtain ⟨a,e1,e2,e3⟩ := h x (by simp)
  simp only [List.length_cons] at hl
  have hz : acc.length < sizeLine := szl (by omega)
  simp only [List.map_cons,jC,e1,aC,aA,lcB,e2,pC]
  cases ht : t x with
  | true =>
   simp only [if_true,e3 ht,pC,aA,hz]
   rw [yE f t g (by simp; omega) fun y hy => h y (by simp [hy])]
   simp [ht]
  | false =>
   simp only [Bool.false_eq_true,if_false,aA]
   rw [yE f t g (by omega) fun y hy => h y (by simp [hy])]
   simp [ht]
/-- [g x for x in xs if t x] -/
theorem qB {xs : List β} (f : β -> Q) (t : β -> Bool) (g : β -> Q) (hl : xs.length <= 16777216) (h : ∀ x ∈ xs,∃ a,un (f x) = some a /\ pt a = .ret (t x) /\ (t x = true -> pe a = .ret (g x))) : lcP un pt pe (xs.map f) = .ret (.lst ((xs.filter t).map g)) := by
 have hz : (xs.map f).length <= sizeLine := by rw [List.length_map]; exact sz hl
 simp only [lcP,hz,if_true]
 rw [yE f t g (by simpa using hl) h]
 simp
theorem hX {xs : List β} (f : β -> Q) (g : β -> Q) (hl : xs.length <= 16777216) (h : ∀ x ∈ xs,∃ a,un (f x) = some a /\ pt a = .ret true /\ pe a = .ret (g x)) : lcP un pt pe (xs.map f) = .ret (.lst (xs.map g)) := by
 have := qB (un := un) (pt := pt) (pe := pe) f (fun _ => true) g hl fun x hx => by
  obtain ⟨a,e1,e2,e3⟩ := h x hx
  exact ⟨a,e1,e2,fun _ => e3⟩
 rw [List.filter_eq_self.mpr (by simp)] at this
 exact this
theorem aCx {l : List Q} (g : Q -> Q) (hl : l.length <= 16777216) (h : ∀ x ∈ l,∃ a,un x = some a /\ pt a = .ret true /\ pe a = .ret (g x)) : lcP un pt pe l = .ret (.lst (l.map g)) := by
 have := hX (un := un) (pt := pt) (pe := pe) (xs := l) id g hl h
 simpa using this
end
section
variable {α β S L : Type} {un : Q -> Option α} {pb : α -> S -> Pm (Fl S S)}
@[simp] theorem xA {β : Type} {s : S} {k : S -> Pm (Fl L S)} : rT (β := β) (.nx s) k = k s := id rfl
@[simp] theorem aJM {β : Type} {s : S} {k : S -> Pm (Fl L S)} : rT (β := β) (.cont s) k = k s := id rfl
@[simp] theorem aK9 {β : Type} {s : S} {k : S -> Pm (Fl L S)} : rT (β := β) (.brk s) k = .ret (.nx s) := id rfl
@[simp] theorem aLa {β : Type} {q : Q} {k : S -> Pm (Fl L S)} : rT (β := β) (.ret q) k = .ret (.ret q) := id rfl
theorem sJ {l : List Q} {s : S} (h : l.length <= 16777216) : nA (L := L) un pb l s = eK (β := Unit) un pb l s := by
 have : l.length <= sizeLine := sz h
 simp [nA,this]
theorem xI (f : β -> Q) (t : β -> Bool) (v : Q) {s : S} : ∀ {xs : List β},(∀ x ∈ xs,∃ a,un (f x) = some a /\ pb a s = if t x = true then .ret (.nx s) else .ret (.ret v)) -> eK (L := L) (β := Unit) un pb (xs.map f) s = if xs.all t = true then .ret (.nx s) else .ret (.ret v)
 | [],_ => by simp [eK]
 | x :: xs,h => by
  obtain ⟨a,e1,e2⟩ := h x (by simp)
  simp only [List.map_cons,eK,e1,aC,aA,e2]
  cases ht : t x with
  | true => simp only [if_true,aA,xA,List.all_cons,ht,Bool.true_and]; exact xI f t v fun y hy => h y (by simp [hy])
  | false => simp [ht]
/-- for x in xs: if not t x: return v -/
theorem aDy {xs : List β} {s : S} (f : β -> Q) (t : β -> Bool) (v : Q) (hl : xs.length <= 16777216) (h : ∀ x ∈ xs,∃ a,un (f x) = some a /\ pb a s = if t x = true then .ret (.nx s) else .ret (.ret v)) : nA (L := L) un pb (xs.map f) s = if xs.all t = true then .ret (.nx s) else .ret (.ret v) := by
 rw [sJ (by simpa using hl)]
 exact xI f t v h
/-- where a loop goes on behind one turn -/
def aEH (K : Rs (Fl L S) -> Nat -> Prop) (I : S -> Nat -> Prop) : Rs (Fl S S) -> Nat -> Prop := fun r c => match r with
 | .ok (.nx s) => I s c
 | .ok (.cont s) => I s c
 | .ok (.brk s) => K (.ok (.nx s)) c
 | .ok (.ret q) => K (.ok (.ret q)) c
 | .exc n fs => K (.exc n fs) c
theorem yY {K : Rs (Fl L S) -> Nat -> Prop} (f : β -> Q) (I : Nat -> S -> Nat -> Prop) : ∀ {xs : List β} {n : Nat} {s : S} {c : Nat},I n s c -> (∀ (i : Nat) (x : β) (s : S) (c : Nat),xs[i]? = some x -> I (n + i) s c -> ∃ a,un (f x) = some a /\ (∀ K',(∀ r c',aEH K (I (n + i + 1)) r c' -> K' r c') -> pb a s K' c)) -> (∀ s c,I (n + xs.length) s c -> K (.ok (.nx s)) c) -> eK (L := L) (β := Unit) un pb (xs.map f) s K c
 | [],n,s,c,p,_,hk => hk s c p
 | x :: xs,n,s,c,p,h,hk => by
  obtain ⟨a,e1,e2⟩ := h 0 x s c rfl p
  simp only [List.map_cons,eK,e1,aC,aA]
  refine e2 _ fun r c' kr => ?_
  have nxt : ∀ {s' : S},I (n + 0 + 1) s' c' -> eK (L := L) (β := Unit) un pb (xs.map f) s' K c' := fun {s'} p' => yY f I (n := n + 1) (by simpa using p') (fun i x s c ex p => by
   have := h (i + 1) x s c (by simpa using ex) (by rw [show n + (i + 1) = n + 1 + i by omega]; exact p)
   rwa [show n + (i + 1) + 1 = n + 1 + i + 1 by omega] at this) (fun s c p => hk s c (by simp only [List.length_cons]; rw [show n + (xs.length + 1) = n + 1 + xs.length by omega]; exact p))
  match r,kr with
  | .ok (.nx s'),kr => exact nxt kr
  | .ok (.cont s'),kr => exact nxt kr
  | .ok (.brk s'),kr => exact kr
  | .ok (.ret q),kr => exact kr
  | .exc n fs,kr => exact kr
theorem aFc {K : Rs (Fl L S) -> Nat -> Prop} {xs : List β} {s : S} {c : Nat} (f : β -> Q) (I : Nat -> S -> Nat -> Prop) (hl : xs.length <= 16777216) (p : I 0 s c) (h : ∀ (i : Nat) (x : β) (s : S) (c : Nat),xs[i]? = some x -> I i s c -> ∃ a,un (f x) = some a /\ (∀ K',(∀ r c',aEH K (I (i + 1)) r c' -> K' r c') -> pb a s K' c)) (hk : ∀ s c,I xs.length s c -> K (.ok (.nx s)) c) : nA (L := L) un pb (xs.map f) s K c := by
 rw [sJ (by simpa using hl)]
 exact yY f I p (fun i x s c ex p => by simpa using h i x s c ex (by simpa using p)) (fun s c p => hk s c (by simpa using p))
end
def Opr.q (o : Opr) : Q := .tup [.str o.kind, .tup (o.words.map .str)]
def bP (ops : List Opr) : Q := .tup (ops.map Opr.q)
mutual
def Tr.q : Tr -> Q
 | .leaf s => .str s
 | .grp t => .tup [.str "(",t.q]
 | .nd n ts => .tup (.int n :: Tr.qs ts)
def Tr.qs : List Tr -> List Q
 | [] => []
 | t :: ts => t.q :: Tr.qs ts
end
def Ent.q (x : Ent) : Q := .tup [.int x.s, .int x.o, .str x.e]
section
variable {F : Nat -> Prop} {sa : Nat} {h : Hh}
theorem aD6 {l : List Str} : Reps F sa h (l.map Q.str) (l.map D.str) := kZ fun _ _ => ⟨rfl,fY⟩
theorem aFI {o : Opr} : Rep F sa h o.q o.enc := jQ (by simp only [Reps]; exact ⟨_,_,rfl,rfl,fY,_,_,rfl,rfl,jQ aD6,rfl⟩)
theorem aFJ {ops : List Opr} : Rep F sa h (bP ops) (.tup (ops.map Opr.enc)) := jQ (kZ fun _ _ => ⟨rfl,aFI⟩)
theorem Iv.ux {B : Bs} {F : Nat -> Prop} {h h' : Hh} {c c' : Nat} (iv : Iv B F h c) (u : Ux [B.sa] h h') (s : Sr h' B.sa c') : Iv B F h' c' /\ Ge B.sa F h F h' := by
 have hF : ∀ a,F a -> a < h.length /\ a ≠ B.sa := fun a f => ⟨iv.lt f,fun z => iv.ns (z ▸ f)⟩
 have hs : ∀ a,a < h.length -> a ≠ B.sa -> h'[a]? = h[a]? := fun a l z => u.same a l (by simpa using z)
 refine ⟨⟨s,iv.ns,fun a f => ?_,Nat.le_trans iv.len u.len,iv.sl,iv.up0,iv.dn0,fun a l z => ?_⟩,⟨⟨u.len,fun _ z => z,fun a f => hs a (hF a f).1 (hF a f).2⟩,fun _ _ z => z,hs⟩⟩
 ·obtain ⟨x,e,l⟩ := iv.fl a f
  exact ⟨x,by rw [hs a (hF a f).1 (hF a f).2]; exact e,aAX u.len l⟩
 ·rw [hs a (Nat.lt_of_lt_of_le l iv.len) z]; exact iv.same0 a l z
end
end PV
end
section
namespace PV
open PySem PySem.Spec PyProof.Rows L2
/-- right(source) -/
theorem aCO {cl : List D -> Hh -> R D} {p : List Q -> Pm Q} (s : FnS false cl p) (hp : p [.src] (fun r _ => r = .ok (.bl true)) 0) {h : Hh} {i : Nat} (e : Sr h i 0) : ∃ h',Ux [i] h h' /\ cl [.ref i] h = .ok (.bl true) h' := by
 have iv : Iv ⟨h,fun _ => False,i⟩ (fun _ => False) h 0 := ⟨e,id,fun _ z => z.elim,Nat.le_refl _,e.lt,fun _ z => z,fun _ _ z => z,fun _ _ _ => rfl⟩
 have r : Reps (fun _ => False) i h [.src] [.ref i] := by simp only [Reps]; exact ⟨_,_,rfl,rfl,by simp only [Rep],rfl⟩
 have o := s.run iv r hp
 revert o
 generalize cl [.ref i] h = r0
 intro o
 cases o with
 | ok k i1 g r =>
  cases k
  have := cR (F := fun _ => False) (sa := i) (h := h) (i := true)
  simp only [Bool.false_eq_true,if_false,Rep] at r
  subst r
  exact ⟨_,⟨g.len,fun j hj hn => g.old j hj (by simpa using hn)⟩,rfl⟩
 | exc k i1 g r => cases k
end PV
end
section
namespace PV
open PySem PySem.Spec PyProof.Rows L2
theorem aDe {n : Nat} {l : List Str} : aJ (aO (n + 1)) (l.map .str) = some (l.map .str) := dW (f := aO (n + 1)) (g := Q.str) (k := PyData.str) fun x _ => rfl
theorem xO {n : Nat} {l : List Str} : aO (n + 2) (.tup (l.map .str)) = some (.tuple (l.map .str)) := by
 show (aJ (aO (n + 1)) (l.map .str)).map PyData.tuple = _
 rw [aDe]; rfl
theorem yL {x : Str} : ∀ {l : List Str},(l.map PyData.str).any (fun z => PyData.eqv z (.str x)) = decide (x ∈ l)
 | [] => by simp
 | y :: l => by
  have e : PyData.eqv (.str y) (.str x) = decide (y = x) := by
   rw [Bool.eq_iff_iff]; simp [PyData.eqv]
  simp only [List.map_cons,List.any_cons,e,yL (l := l),List.mem_cons]
  rw [Bool.eq_iff_iff]
  simp only [Bool.or_eq_true,decide_eq_true_eq]
  constructor
  ·rintro (z | z)
   ·exact .inl z.symm
   ·exact .inr z
  ·rintro (z | z)
   ·exact .inl z.symm
   ·exact .inr z
theorem aAP {l : List Str} (hs : ∀ s ∈ l,PyData.strOk s = true) : SeqAt.shaped (.tuple (l.map .str)) = true := by
 have h1 := eQ (ds := l.map PyData.str) fun d hd => by
  obtain ⟨s,hs',rfl⟩ := List.mem_map.mp hd
  simp [PyData.canLay0,hs s hs']
 have h2 := gC (ds := l.map PyData.str) (n := 0) fun d hd => by
  obtain ⟨s,hs',rfl⟩ := List.mem_map.mp hd
  simp [PyData.depth]
 simp [SeqAt.shaped,PyData.canLay0,h1,PyData.depth]
 omega
theorem aCT {x : Str} {ss : List Str} (hx : PyData.strOk x = true) (hs : ∀ s ∈ ss,PyData.strOk s = true) : hO (.str x) (.tup (ss.map .str)) = some (decide (x ∈ ss)) := by
 have e1 : aO bD (.str x) = some (.str x) := rfl
 have e2 : aO bD (.tup (ss.map .str)) = some (.tuple (ss.map .str)) := xO
 simp only [hO,e1,e2,vG hx,aAP hs,Bool.and_self,if_true,yL]
theorem zY {x : Str} {ss : List Str} (hx : PyData.strOk x = true) (hs : ∀ s ∈ ss,PyData.strOk s = true) : qIn (.str x) (.tup (ss.map .str)) = some (.bl (decide (x ∈ ss))) := by simp [qIn,aCT hx hs]
@[simp] theorem dZ {α : Type} {a : α} {K : Rs α -> Nat -> Prop} {c : Nat} : Pm.ret a K c = K (.ok a) c := id rfl
theorem gO {α β : Type} {p : Pm α} {f : α -> Pm β} {K : Rs β -> Nat -> Prop} {c : Nat} : p.bind f K c = p (bK f K) c := rfl
@[simp] theorem gS {α β : Type} {f : α -> Pm β} {K : Rs β -> Nat -> Prop} {a : α} {c : Nat} : bK f K (.ok a) c = f a K c := id rfl
@[simp] theorem aLO {α β : Type} {f : α -> Pm β} {K : Rs β -> Nat -> Prop} {n : Nat} {fs : List (Str × Q)} {c : Nat} : bK f K (.exc n fs) c = K (.exc n fs) c := id rfl
@[simp] theorem aIk {t : Tr} : bU t.q (.ty "str") = some (.bl t.isLeaf) := by cases t <;> simp only [Tr.q] <;> rfl
@[simp] theorem aIl {t : Tr} : bU t.q (.ty "tuple") = some (.bl (!t.isLeaf)) := by cases t <;> simp only [Tr.q] <;> rfl
@[simp] theorem Tr.q_isNon {t : Tr} : t.q.isNon = false := by cases t <;> simp only [Tr.q] <;> rfl
end PV
end
section
namespace PV
open PySem PySem.Spec PyProof.Rows L2
theorem aD0 {x : Q} {d : PyData} {n l : Nat} (e : aO bD x = some d) (p : PN n l d) (hn : n <= 64) (hl : l <= 16777216) : qJ x = some (.str d.shown) := by
 have h1 : d.shown.length <= sizeLine := sz (Nat.le_trans p.ln hl)
 simp [qJ,e,p.sh,h1,p.shaped hn]
end PV
end
section
namespace PV
open PySem PySem.Spec PyProof.Rows L2 PySem.Builtin PySem.Builtin.Str
def cs (d : PyData) : List Nat := d.shown.cps.toList
def Tm (s : List Nat) : Prop := s = [] \/ ∃ c r,s = c :: r /\ (c = 44 \/ c = 41 \/ c = 93)
def kd : PyData -> Nat
 | .none => 0
 | .bool true => 1
 | .bool false => 2
 | .str _ => 3
 | .tuple _ => 4
 | .list _ => 5
 | .int _ => 6
 | .dict _ => 7
theorem Tm.int {s : List Nat} (h : Tm s) : ∀ x r,s = x :: r -> ¬ (x = 45 \/ (48 <= x /\ x <= 57)) := fun x r e => by
 rcases h with rfl | ⟨c,r',rfl,hc⟩
 ·cases e
 ·cases e; omega
mutual
theorem Tr.py_inj : ∀ {a b : Tr},a.py = b.py -> a = b
 | .leaf s, .leaf s',h => by simp only [Tr.py,PyData.str.injEq] at h; rw [h]
 | .leaf s, .grp t,h => by simp [Tr.py] at h
 | .leaf s, .nd n ts,h => by simp [Tr.py] at h
 | .grp t, .leaf s,h => by simp [Tr.py] at h
 | .grp t, .grp t',h => by simp only [Tr.py,PyData.tuple.injEq,List.cons.injEq,and_true,true_and] at h; rw [Tr.py_inj h]
 | .grp t, .nd n ts,h => by simp [Tr.py] at h
 | .nd n ts, .leaf s,h => by simp [Tr.py] at h
 | .nd n ts, .grp t,h => by simp [Tr.py] at h
 | .nd n ts, .nd n' ts',h => by
  simp only [Tr.py,PyData.tuple.injEq,List.cons.injEq,PyData.int.injEq] at h
  rw [Tr.pys_inj h.2,Int.ofNat.inj h.1]
theorem Tr.pys_inj : ∀ {a b : List Tr},Tr.pys a = Tr.pys b -> a = b
 | [],[],_ => rfl
 | [],_ :: _,h => by simp [Tr.pys] at h
 | _ :: _,[],h => by simp [Tr.pys] at h
 | t :: ts,t' :: ts',h => by
  simp only [Tr.pys,List.cons.injEq] at h
  rw [Tr.py_inj h.1,Tr.pys_inj h.2]
end
end PV
end
section
namespace PV
open PySem PySem.Spec PyProof.Rows L2
end PV
end
section
namespace PV
open PySem PySem.Spec PyProof.Rows L2
section
variable {qs : List Q}
theorem aCk {n : Nat} : oK qs (some (n : Int)) none = qs.drop n := by
 simp only [oK,HT.sIx_none,HT.sIx_nat]
 rw [List.take_of_length_le (by rw [List.length_drop]; omega)]
 rcases Nat.lt_or_ge n qs.length with h | h
 ·rw [Nat.min_eq_left (by omega)]
 ·rw [Nat.min_eq_right h,List.drop_of_length_le (Nat.le_refl _),List.drop_of_length_le h]
theorem aDn {a b : Nat} (h : a <= b) : oK qs (some (a : Int)) (some (b : Int)) = (qs.drop a).take (b - a) := by
 simp only [oK,HT.sIx_nat]
 rcases Nat.lt_or_ge a qs.length with h1 | h1
 ·rw [Nat.min_eq_left (Nat.le_of_lt h1),List.take_eq_take_iff,List.length_drop]; omega
 ·rw [Nat.min_eq_right h1,List.drop_of_length_le (Nat.le_refl _),List.drop_of_length_le h1]
  simp
end
end PV
end
section
namespace PV
open PySem PySem.Spec PyProof.Rows L2
def RErr.le (N n : Nat) : RErr -> Prop
 | .missing p => p <= n
 | .unexp p => p <= n
 | .uncl p => p <= n
 | .entry p s o => p <= n /\ s <= N /\ o <= N
theorem RErr.le.mono {N n m : Nat} {e : RErr} (h : e.le N n) (hm : n <= m) : e.le N m := by
 cases e <;> simp only [RErr.le] at h ⊢ <;> omega
end PV
end
section
namespace PV
open PySem PySem.Spec PyProof.Rows L2
abbrev Pl := List Nat
mutual
/-- nodes,groups and identifiers -/
def Tr.size : Tr -> Nat
 | .leaf _ => 1
 | .grp t => t.size + 1
 | .nd _ ts => Tr.sizes ts + 1
def Tr.sizes : List Tr -> Nat
 | [] => 0
 | t :: ts => t.size + Tr.sizes ts
end
def spP (ops : List Opr) (side : Bool) : Nat -> Tr -> List (Pl × Nat)
 | 0,_ => []
 | d + 1,t => match nxt ops side t with
  | some (c,t') => ([],t.num) :: (spP ops side d t').map fun q => (c :: q.1,q.2)
  | none => []
section
variable {ops : List Opr} {side : Bool} {f : Pl -> Bool}
theorem aEi {d : Nat} {t : Tr} (h : nxt ops side t = none) : spP ops side d t = [] := by
 cases d with
 | zero => rfl
 | succ d => simp only [spP,h]
/-- no group on the way to a place,itself included -/
def free : (Pl -> Bool) -> Pl -> Bool
 | f,[] => !f []
 | f,c :: q => !f [] && free (fun p => f (c :: p)) q
end
section
variable (ops : List Opr) (bS bR : Nat -> Nat -> Bool)
/-- the conflicts of one node: bS,bR tell which entries are not as they must be -/
def aEI (n : Nat) (ts : List Tr) : List (Pl × Pl) :=
 (match nxt ops false (.nd n ts) with
  | some (c,r) => ((spP ops true r.depth r).filter fun q => bS n q.2).map fun q => ([c],c :: q.1)
  | none => []) ++
 (match nxt ops true (.nd n ts) with
  | some (c,l) => ((spP ops false l.depth l).filter fun q => bR q.2 n).map fun q => ([c],c :: q.1)
  | none => [])
mutual
def cfl : Tr -> List (Pl × Pl)
 | .leaf _ => []
 | .grp t => (cfl t).map fun q => (0 :: q.1,0 :: q.2)
 | .nd n ts => aEI ops bS bR n ts ++ cfls ts 0
def cfls : List Tr -> Nat -> List (Pl × Pl)
 | [],_ => []
 | t :: ts,i => (cfl t).map (fun q => (i :: q.1,i :: q.2)) ++ cfls ts (i + 1)
end
end
end PV
end
section
namespace PV
open PySem PySem.Spec PyProof.Rows L2
def plN (p : Pl) : Q := .tup (p.map fun n : Nat => .int (n : Int))
section
variable {κ α β : Type} [DecidableEq κ] {kq : Q -> Option κ} {mk : List (κ × Q) -> Q} {un : Q -> Option α} {pt : α -> Pm Bool} {pk pv : α -> Pm Q}
theorem aEA (f : β -> Q) (key : β -> κ) (val : β -> Q) : ∀ {xs : List β} {acc : List (κ × Q)},acc.length + xs.length <= 16777216 -> (∀ x ∈ xs,∃ a k,un (f x) = some a /\ pt a = .ret true /\ pk a = .ret k /\ kq k = some (key x) /\ pv a = .ret (val x)) -> jC un (dcB kq pt pk pv) (xs.map f) acc = .ret (xs.foldl (fun acc x => gM acc (key x) (val x)) acc)
 | [],acc,_,_ => rfl
 | x :: xs,acc,hl,h => by
  simp only [List.length_cons] at hl
  obtain ⟨a,k,e1,e2,e3,e4,e5⟩ := h x (by simp)
  have hz : acc.length < sizeLine := szl (by omega)
  have pl := aDU (kvs := acc) (k := key x) (q := val x)
  have ih := aEA f key val (xs := xs) (acc := gM acc (key x) (val x)) (by omega) fun y hy => h y (by simp [hy])
  simp only [List.map_cons,jC,e1,aC,aA,dcB,e2,pC,if_true,e3,e4,e5,aI,hz]
  rw [ih]; rfl
theorem aDo {xs : List β} (f : β -> Q) (key : β -> κ) (val : β -> Q) (hl : xs.length <= 16777216) (h : ∀ x ∈ xs,∃ a k,un (f x) = some a /\ pt a = .ret true /\ pk a = .ret k /\ kq k = some (key x) /\ pv a = .ret (val x)) : dcP kq mk un pt pk pv (xs.map f) = .ret (mk (xs.foldl (fun acc x => gM acc (key x) (val x)) [])) := by
 have hz : (xs.map f).length <= sizeLine := by rw [List.length_map]; exact sz hl
 simp only [dcP,hz,if_true]
 rw [aEA f key val (by simpa using hl) h]
 rfl
end
end PV
end
section
namespace PV
open PySem PySem.Spec PyProof.Rows L2
mutual
def nbD : PyData -> Bool
 | .none => true
 | .bool _ => false
 | .int _ => true
 | .str _ => true
 | .tuple xs => nbDs xs
 | .list xs => nbDs xs
 | .dict _ => false
def nbDs : List PyData -> Bool
 | [] => true
 | x :: xs => nbD x && nbDs xs
end
mutual
theorem oY : ∀ {d e : PyData},nbD d = true -> nbD e = true -> (PyData.eqv d e = true ↔ d = e)
 | .none,e,hd,he => by cases e <;> simp_all [PyData.eqv,nbD]
 | .int i,e,hd,he => by cases e <;> simp_all [PyData.eqv,nbD]
 | .str i,e,hd,he => by cases e <;> simp_all [PyData.eqv,nbD]
 | .tuple xs, .tuple ys,hd,he => by
  simp only [nbD] at hd he
  simp only [PyData.eqv,PyData.tuple.injEq]
  exact eqvs_iff hd he
 | .list xs, .list ys,hd,he => by
  simp only [nbD] at hd he
  simp only [PyData.eqv,PyData.list.injEq]
  exact eqvs_iff hd he
 | .tuple xs, .none,hd,he => by simp [PyData.eqv]
 | .tuple xs, .int _,hd,he => by simp [PyData.eqv]
 | .tuple xs, .str _,hd,he => by simp [PyData.eqv]
 | .tuple xs, .list _,hd,he => by simp [PyData.eqv]
 | .list xs, .none,hd,he => by simp [PyData.eqv]
 | .list xs, .int _,hd,he => by simp [PyData.eqv]
 | .list xs, .str _,hd,he => by simp [PyData.eqv]
 | .list xs, .tuple _,hd,he => by simp [PyData.eqv]
 | .bool _,_,hd,_ => by simp [nbD] at hd
 | .dict _,_,hd,_ => by simp [nbD] at hd
 | .tuple _, .bool _,_,he => by simp [nbD] at he
 | .tuple _, .dict _,_,he => by simp [nbD] at he
 | .list _, .bool _,_,he => by simp [nbD] at he
 | .list _, .dict _,_,he => by simp [nbD] at he
theorem eqvs_iff : ∀ {ds es : List PyData},nbDs ds = true -> nbDs es = true -> (PyData.eqvAll ds es = true ↔ ds = es)
 | [],[],_,_ => by simp [PyData.eqvAll]
 | [],_ :: _,_,_ => by simp [PyData.eqvAll]
 | _ :: _,[],_,_ => by simp [PyData.eqvAll]
 | d :: ds,e :: es,hd,he => by
  simp only [nbDs,Bool.and_eq_true] at hd he
  simp only [PyData.eqvAll,Bool.and_eq_true,List.cons.injEq,oY hd.1 he.1,eqvs_iff hd.2 he.2]
end
theorem aBe {x y : Q} {d e : PyData} (hx : aO bD x = some d) (hy : aO bD y = some e) (sd : SeqAt.shaped d = true) (se : SeqAt.shaped e = true) (nd : nbD d = true) (ne : nbD e = true) (P : Prop) [Decidable P] (hP : d = e ↔ P) : oR x y = some (decide P) := by
 have h := oY nd ne
 have hb : PyData.eqv d e = decide P := by
  rw [Bool.eq_iff_iff,decide_eq_true_eq,h,hP]
 unfold oR
 split
 ·rename_i a b
  have e1 : some (PyData.str a) = some d := hx
  have e2 : some (PyData.str b) = some e := hy
  cases e1; cases e2
  have : decide (a = b) = decide P := by
   rw [Bool.eq_iff_iff,decide_eq_true_eq,decide_eq_true_eq,<- hP]
   exact ⟨fun z => by rw [z],fun z => by cases z; rfl⟩
  rw [this]
 ·rw [hx,hy]
  simp only [sd,se,Bool.and_self,if_true,hb]
def nI (p : Pl) : PyData := .tuple (p.map fun n : Nat => .int (n : Int))
theorem aDR {p q : Pl} : nI p = nI q ↔ p = q := by
 simp only [nI,PyData.tuple.injEq]
 exact List.map_inj_right (f := fun n : Nat => PyData.int (n : Int)) (fun a b h => by simp only [PyData.int.injEq] at h; omega)
theorem aBu {p : Pl} : aO (n + 2) (plN p) = some (nI p) := by
 show (aJ (aO (n + 1)) (p.map fun n : Nat => Q.int (n : Int))).map PyData.tuple = _
 rw [dW (xs := p) (f := aO (n + 1)) (g := fun n : Nat => Q.int (n : Int)) (k := fun n : Nat => PyData.int (n : Int)) fun x _ => rfl]
 rfl
theorem aEM {p : Pl} : nbD (nI p) = true := by
 simp only [nI,nbD]
 induction p with
 | nil => rfl
 | cons c p ih => simp only [List.map_cons,nbDs,nbD,ih,Bool.and_self]
theorem aCN {p : Pl} : (nI p).canLay0 = true /\ (nI p).depth <= 1 := by
 have h1 := eQ (ds := p.map fun n : Nat => PyData.int (n : Int)) fun d hd => by
  obtain ⟨s,hs',rfl⟩ := List.mem_map.mp hd
  simp [PyData.canLay0]
 have h2 := gC (ds := p.map fun n : Nat => PyData.int (n : Int)) (n := 0) fun d hd => by
  obtain ⟨s,hs',rfl⟩ := List.mem_map.mp hd
  simp [PyData.depth]
 refine ⟨by simp only [nI,PyData.canLay0,h1],by simp only [nI,PyData.depth]; omega⟩
theorem xM {p : Pl} : SeqAt.shaped (nI p) = true := by
 have := aCN (p := p)
 simp [SeqAt.shaped,this.1]; omega
theorem aBf {p q : Pl} : oR (plN p) (plN q) = some (decide (p = q)) := aBe aBu aBu xM xM aEM aEM _ aDR
@[simp] theorem aMf {p q : Pl} : qEq (plN p) (plN q) = some (.bl (decide (p = q))) := by simp [qEq,aBf]
@[simp] theorem aMs {p q : Pl} : qNe (plN p) (plN q) = some (.bl (!decide (p = q))) := by simp [qNe,aBf]
mutual
theorem yJ : ∀ {t : Tr},nbD t.py = true
 | .leaf s => by simp only [Tr.py,nbD]
 | .grp t => by simp only [Tr.py,nbD,nbDs,yJ (t := t),Bool.and_self]
 | .nd n ts => by simp only [Tr.py,nbD,nbDs,trs_nb (ts := ts),Bool.and_self]
theorem trs_nb : ∀ {ts : List Tr},nbDs (Tr.pys ts) = true
 | [] => rfl
 | t :: ts => by simp only [Tr.pys,nbDs,yJ (t := t),trs_nb (ts := ts),Bool.and_self]
end
theorem Tr.py_iff {a b : Tr} : a.py = b.py ↔ a = b := ⟨Tr.py_inj,fun h => by rw [h]⟩
instance : DecidableEq Tr := fun a b => decidable_of_iff (PyData.eqv a.py b.py = true) ((oY yJ yJ).trans Tr.py_iff)
@[simp] theorem aMe {a b : Bool} : qEq (.bl a) (.bl b) = some (.bl (decide (a = b))) := by cases a <;> cases b <;> rfl
@[simp] theorem aMr {a b : Bool} : qNe (.bl a) (.bl b) = some (.bl (!decide (a = b))) := by cases a <;> cases b <;> rfl
end PV
end
section
namespace PV
open PySem PySem.Spec PyProof.Rows L2
end PV
end
section
namespace PV
open PySem PySem.Spec PyProof.Rows L2
end PV
end
section
namespace PV
open PySem PySem.Spec PyProof.Rows L2
mutual
/-- no list,dict,instance in it -/
def sT : Q -> Bool
 | .non => true
 | .bl _ => true
 | .int _ => true
 | .str _ => true
 | .tup qs => pureQs qs
 | _ => false
def pureQs : List Q -> Bool
 | [] => true
 | q :: qs => sT q && pureQs qs
end
/-- no exception,and a pure result -/
def uV (p : Pm Q) : Pm Q := p.noX.bind fun q => if sT q = true then .ret q else .bad
section
variable {B : Bs} {F : Nat -> Prop} {O : Nat -> Option Nat} {h : Hh} {Γ : List Sl} {σ : Sg} {q : Q} {i a : Nat} {c : Nat}
theorem En.frz (en : En B F O h Γ σ) (e : Γ[i]? = some (.ow q)) (o1 : O i = some a) (o2 : σ[i]? = some (some (.ref a))) (t : Top F B.sa h a q) : En B (Fx F a) (fun j => if j = i then none else O j) h (Γ.set i (.fz q)) σ := by
 refine ⟨by simp [en.len],fun j q' ej => ?_,fun j q' ej => ?_,fun j b ej => ?_,fun j j' b e1 e2 => ?_,fun j w' ej => by
  by_cases hj : i = j
  ·subst hj; rw [List.getElem?_set_self (aH e)] at ej; cases ej
  ·rw [List.getElem?_set_ne hj] at ej; exact en.eqd j w' ej⟩
 ·by_cases hj : i = j
  ·subst hj
   rw [List.getElem?_set_self (aH e)] at ej; cases ej
   exact ⟨_,o2,rfl,(t.mono nB rfl).rep (.inr rfl)⟩
  ·rw [List.getElem?_set_ne hj] at ej
   obtain ⟨w,e1,e2,r⟩ := en.fz j q' ej
   exact ⟨w,e1,e2,r.mono nB⟩
 ·by_cases hj : i = j
  ·subst hj
   rw [List.getElem?_set_self (aH e)] at ej; cases ej
  ·rw [List.getElem?_set_ne hj] at ej
   obtain ⟨b,e1,e2,r⟩ := en.ow j q' ej
   have : j ≠ i := fun z => hj z.symm
   exact ⟨b,by simp only [this,if_false]; exact e1,e2,r.mono nB rfl⟩
 ·split at ej
  ·cases ej
  ·rename_i hj
   obtain ⟨z1,z2,z3⟩ := en.oh j b ej
   refine ⟨z1,fun z => ?_,z3⟩
   rcases z with z | rfl
   ·exact z2 z
   ·exact hj (en.inj j i b ej o1)
 ·split at e1
  ·cases e1
  ·split at e2
   ·cases e2
   ·exact en.inj j j' b e1 e2
end
variable {Γ : List Sl} {m : M D} {p : Pm Q} {q : Q}
@[simp] theorem rL (hq : sT q = true) : uV (.ret q) = .ret q := by
 simp only [uV,pC,aA,hq,if_true]
mutual
theorem wG : ∀ {t : Tr},sT t.q = true
 | .leaf s => rfl
 | .grp t => by
  have := wG (t := t)
  simp only [Tr.q,sT,pureQs,this,Bool.and_self]
 | .nd n ts => by
  have := pure_trs (ts := ts)
  simp only [Tr.q,sT,pureQs,this,Bool.and_self]
theorem pure_trs : ∀ {ts : List Tr},pureQs (Tr.qs ts) = true
 | [] => rfl
 | t :: ts => by
  have h1 := wG (t := t)
  have h2 := pure_trs (ts := ts)
  simp only [Tr.qs,pureQs,h1,h2,Bool.and_self]
end
@[simp] theorem aKB {t : Tr} : uV (.ret t.q) = .ret t.q := rL wG
@[simp] theorem aKA {b : Bool} : uV (.ret (.bl b)) = .ret (.bl b) := rL (id rfl)
@[simp] theorem aJz {b : Str} : uV (.ret (.str b)) = .ret (.str b) := rL (id rfl)
end PV
end
section
namespace PV
open PySem PySem.Spec PyProof.Rows L2
end PV
end
section
namespace PV
open PySem PySem.Spec PyProof.Rows L2
end PV
end
section
namespace PV
open PySem PySem.Spec PyProof.Rows L2
def aKC : Q -> Q -> Option Q
 | .tup qs, .tup [] => some (.bl qs.isEmpty)
 | _,_ => none
@[simp] theorem aKD {qs : List Q} : aKC (.tup qs) (.tup []) = some (.bl qs.isEmpty) := id rfl
end PV
end
section
namespace PV
open PySem PySem.Spec PyProof.Rows L2
theorem uJ {n : Nat} {o : Opr} : aO (n + 3) o.q = some o.py := by
 have h : aO (n + 2) (.tup (o.words.map .str)) = some (.tuple (o.words.map .str)) := xO
 show (aJ (aO (n + 2)) [.str o.kind, .tup (o.words.map .str)]).map PyData.tuple = _
 simp only [aJ,h]; rfl
theorem uK {n : Nat} {ops : List Opr} : aO (n + 4) (bP ops) = some (.tuple (ops.map Opr.py)) := by
 show (aJ (aO (n + 3)) (ops.map Opr.q)).map PyData.tuple = _
 rw [dW (k := Opr.py) fun x _ => uJ]; rfl
theorem uA : ∀ {ds : List PyData},(∀ d ∈ ds,nbD d = true) -> nbDs ds = true
 | [],_ => rfl
 | d :: ds,h => by
  simp only [nbDs,Bool.and_eq_true]
  exact ⟨h d (by simp),uA fun e he => h e (by simp [he])⟩
theorem zN {o : Opr} : nbD o.py = true := by
 simp only [Opr.py,nbD,nbDs,Bool.true_and,Bool.and_true]
 exact uA fun d hd => by
  obtain ⟨x,_,rfl⟩ := List.mem_map.mp hd
  rfl
theorem aCK {ops : List Opr} : nbD (.tuple (ops.map Opr.py)) = true := by
 simp only [nbD]
 exact uA fun d hd => by
  obtain ⟨x,_,rfl⟩ := List.mem_map.mp hd
  exact zN
theorem Opr.py_inj {a b : Opr} (h : a.py = b.py) : a = b := by
 obtain ⟨k1,w1⟩ := a
 obtain ⟨k2,w2⟩ := b
 simp only [Opr.py,PyData.tuple.injEq,List.cons.injEq,PyData.str.injEq,and_true] at h
 obtain ⟨rfl,h⟩ := h
 rw [List.map_inj_right (f := PyData.str) (fun a b h => by cases h; rfl)] at h
 rw [h]
theorem aGO {a b : List Opr} : PyData.tuple (a.map Opr.py) = PyData.tuple (b.map Opr.py) ↔ a = b := by
 simp only [PyData.tuple.injEq]
 exact List.map_inj_right fun a b h => Opr.py_inj h
theorem tJ {ops : List Opr} (O : OpsOk ops) : SeqAt.shaped (.tuple (ops.map Opr.py)) = true := (aCR O).pn.shaped (by omega)
instance : DecidableEq Opr := fun a b => decidable_of_iff (PyData.eqv a.py b.py = true) ((oY zN zN).trans ⟨Opr.py_inj,fun h => by rw [h]⟩)
theorem aDV {a b : List Opr} (A : OpsOk a) (B : OpsOk b) : oR (bP a) (bP b) = some (decide (a = b)) :=
 aBe (uK (n := 62)) (uK (n := 62)) (tJ A) (tJ B) aCK aCK _ aGO
theorem aFF {a b : List Opr} (A : OpsOk a) (B : OpsOk b) : qNe (bP a) (bP b) = some (.bl (!decide (a = b))) := by simp [qNe,aDV A B]
def Ent.py (x : Ent) : PyData := .tuple [.int x.s, .int x.o, .str x.e]
theorem Ent.py_inj {a b : Ent} (h : a.py = b.py) : a = b := by
 obtain ⟨s1,o1,e1⟩ := a
 obtain ⟨s2,o2,e2⟩ := b
 simp only [Ent.py,PyData.tuple.injEq,List.cons.injEq,PyData.int.injEq,PyData.str.injEq,and_true] at h
 obtain ⟨h1,h2,h3⟩ := h
 rw [h1,h2,h3]
instance : DecidableEq Ent := fun a b => decidable_of_iff (PyData.eqv a.py b.py = true) ((oY rfl rfl).trans ⟨Ent.py_inj,fun h => by rw [h]⟩)
/-- places that are not long -/
def SmP (b : Nat) (p : Pl) : Prop := p.length <= b /\ ∀ c ∈ p,c < 1000000
end PV
end
section
namespace PV
open PySem PySem.Spec PyProof.Rows L2
def Lt4 (p : Pl) : Prop := ∀ c ∈ p,c < 4
theorem Lt4.sm {p : Pl} {b : Nat} (h : Lt4 p) (hl : p.length <= b) : SmP b p := ⟨hl,fun c hc => by have := h c hc; omega⟩
end PV
end
section
namespace PV
open PySem PySem.Spec PyProof.Rows L2
end PV
end
section
namespace PV
open PySem PySem.Spec PyProof.Rows L2
end PV
end
section
namespace PV
open PySem PySem.Spec PyProof.Rows L2
end PV
end
section
namespace PV
open PySem PySem.Spec PyProof.Rows L2
end PV
end
section
namespace PV
open PySem PySem.Spec PyProof.Rows L2
mutual
/-- nodes right below a node (b: the tree itself is so) -/
def Tr.fr : Bool -> Tr -> Nat
 | _, .leaf _ => 0
 | _, .grp t => Tr.fr false t
 | b, .nd _ ts => (if b = true then 1 else 0) + Tr.frs ts
def Tr.frs : List Tr -> Nat
 | [] => 0
 | t :: ts => Tr.fr true t + Tr.frs ts
end
end PV
end
section
namespace PV
open PySem PySem.Spec PyProof.Rows L2
end PV
end
section
namespace PV
open PySem PySem.Spec PyProof.Rows L2
end PV
end
section
namespace PV
open PySem PySem.Spec PyProof.Rows L2
end PV
end
section
namespace PV
open PySem PySem.Spec PyProof.Rows L2
end PV
end
section
namespace PV
open PySem PySem.Spec PyProof.Rows L2
end PV
end
section
namespace PV
open PySem PySem.Spec PyProof.Rows L2
end PV
end
section
namespace PV
open PySem PySem.Spec PyProof.Rows L2
end PV
end
section
namespace PV
open PySem PySem.Spec PyProof.Rows L2
def aJY (o : Opr) (m c : Nat) : Bool := (o.L && decide (c = 0)) || (o.Rr && decide (c = m - 1))
def aI5 (ops : List Opr) (n : Nat) : Bool := match ops[n]? with
 | some o => o.L || o.Rr
 | none => false
def aJX (ops : List Opr) (n m c : Nat) : Bool := match ops[n]? with
 | some o => aJY o m c
 | none => false
section
variable {ops : List Opr}
/-- the places on which a conflict's path may lie -/
def opP (ops : List Opr) : Pl -> Bool -> Tr -> Prop
 | [],h, .nd n _ => h = false /\ aI5 ops n = true
 | [],_,_ => False
 | c :: p,_, .nd n ts => ∃ u,ts[c]? = some u /\ opP ops p (!aJX ops n ts.length c) u
 | c :: p,_, .grp t => c = 0 /\ opP ops p false t
 | _ :: _,_, .leaf _ => False
variable {bS bR : Nat -> Nat -> Bool}
end
end PV
end
section
namespace PV
open PySem PySem.Spec PyProof.Rows L2
theorem aDC {w : Str} {x : List Str} : nV [w] [x] = w :: x := by simp [nV]
end PV
end
section
namespace PV
open PySem PySem.Spec PyProof.Rows L2
end PV
end
section
namespace PV
open PySem PySem.Spec PyProof.Rows L2
end PV
end
section
namespace PV
open PySem PySem.Spec PyProof.Rows L2
def gJ : List Opr := [⟨"infix",["+"]⟩,⟨"prefix",["-"]⟩,⟨"closed",["[","]"]⟩,⟨"infix",["?",":"]⟩]
theorem aID : ∃ o,gJ[1]? = some o /\ o.L = false /\ o.Rr = true /\ o.words = (["-"] : List Str) := ⟨_,rfl,by decide +kernel,by decide +kernel,rfl⟩
/-- a tree of n tokens,closed at both ends,without conflicts -/
structure Szd (t : Tr) (n d : Nat) : Prop where
 ok : t.ok gJ (fun s => s ∈ aCt)
 len : (t.toks gJ).length = n
 dep : t.depth <= 2 * d + 1
 nds : t.nds <= n
 grs : t.grs <= n
 lf : nxt gJ true t = none
 rt : nxt gJ false t = none
 cf : ∀ bS bR,cfl gJ bS bR t = []
 pl : 5 <= n -> ("+" : Str) ∈ t.toks gJ /\ ∃ u,t = .grp u
/-- a prefix operator ahead of it -/
structure Szd' (t : Tr) (n d : Nat) : Prop where
 ok : t.ok gJ (fun s => s ∈ aCt)
 len : (t.toks gJ).length = n
 dep : t.depth <= 2 * d + 2
 nds : t.nds <= n
 grs : t.grs <= n
 cf : ∀ bS bR,cfl gJ bS bR t = []
 pl : ("+" : Str) ∈ t.toks gJ
 ed : ∃ xs,t.toks gJ = xs ++ [(")" : Str)]
theorem Szd.up {t : Tr} {n d : Nat} (S : Szd t n d) (h : 5 <= n) : Szd' t n d := by
 obtain ⟨p,u,rfl⟩ := S.pl h
 have := S.dep
 exact ⟨S.ok,S.len,by omega,S.nds,S.grs,S.cf,p,("(" : Str) :: u.toks gJ,by simp [Tr.toks]⟩
theorem Szd.pre {t : Tr} {n d : Nat} (S : Szd t n d) (h : 5 <= n) : Szd' (.nd 1 [t]) (n + 1) d := by
 obtain ⟨o,e1,e2,e3,e4⟩ := aID
 have U := S.up h
 obtain ⟨xs,ex⟩ := U.ed
 have tk : (Tr.nd 1 [t]).toks gJ = ("-" : Str) :: t.toks gJ := by
  simp [Tr.toks,Tr.toksL,e1,aBR,e2,e4,aDC]
 have h1 := S.ok
 have h2 := S.len
 have h3 := S.dep
 have h4 := S.nds
 have h5 := S.grs
 have s2 := fun d => aEi (d := d) S.lf
 refine ⟨?_,by rw [tk]; simp [h2],by simp only [Tr.depth,Tr.depths]; omega,by simp only [Tr.nds,Tr.ndss]; omega,by simp only [Tr.grs,Tr.grss]; omega,fun bS bR => ?_,by rw [tk]; simp [U.pl],("-" : Str) :: xs,by rw [tk,ex]; rfl⟩
 ·simp [Tr.ok,Tr.oks,e1,Opr.holes,e2,e3,e4,h1]
 ·simp [cfl,cfls,aEI,nxt,e1,e2,e3,S.cf,s2]
end PV
end
section
namespace PV
open PySem PySem.Spec PyProof.Rows L2
end PV
end
section
namespace PV
open PySem PySem.Spec PyProof.Rows L2
end PV
end
section
namespace PV
open PySem PySem.Spec PyProof.Rows L2
def hA : Nat -> Q -> Bool
 | 0,_ => false
 | n + 1,q => match q with
  | .tup qs => qs.any (hA n)
  | .dK _ => true
  | _ => false
def aAt : Nat -> Q -> Option PyData
 | 0,_ => none
 | n + 1,q => match q with
  | .non => some .none
  | .bl b => some (.bool b)
  | .int i => some (.int i)
  | .str x => some (.str x)
  | .tup ws => (aJ (aAt n) ws).map .tuple
  | .dK [] => some (.dict [])
  | _ => none
def fX (x : Q) : Option Q := if hA bD x = true then (match aAt bD x with
 | some d => if d.showable = true /\ d.shown.length <= sizeLine /\ d.depth <= 64 then some (.str d.shown) else none
 | none => none) else qJ x
section
variable {F : Nat -> Prop} {sa : Nat} {h : Hh}
theorem yK {n : Nat} (ih : ∀ {q : Q} {w : D},hA n q = true -> Rep F sa h q w -> toP h n w = none) : ∀ {qs : List Q} {ws : List D},qs.any (hA n) = true -> Reps F sa h qs ws -> aJ (toP h n) ws = none
 | [],ws,e,r => by simp at e
 | q :: qs,ws,e,r => by
  simp only [Reps] at r
  obtain ⟨w,r',rfl,_,r1,r2⟩ := r
  simp only [List.any_cons,Bool.or_eq_true] at e
  rcases e with e | e
  ·simp only [aJ,ih e r1]
  ·cases hw : toP h n w with
   | none => simp only [aJ,hw]
   | some d => simp only [aJ,hw,yK ih e r2]
theorem zD : ∀ {n : Nat} {q : Q} {w : D},hA n q = true -> Vw F sa h q w -> toP h n w = none
 | 0,q,w,e,r => by simp [hA] at e
 | n + 1,q,w,e,r => by
  unfold hA at e
  split at e
  ·obtain ⟨ws,rfl,r1⟩ := cX r
   unfold toP
   simp only [yK (fun a b => zD a b.vw) e r1,Option.map_none]
  ·obtain ⟨a,ws,rfl,e0,r1⟩ := r
   unfold toP
   simp only [e0]
  ·cases e
theorem aAu : ∀ {n : Nat} {q : Q} {w : D} {d : PyData},aAt n q = some d -> Vw F sa h q w -> toQ h n w = some d
 | 0,q,w,d,e,r => by simp [aAt] at e
 | n + 1,q,w,d,e,r => by
  unfold aAt at e
  split at e
  ·cases e; cases rX r; rfl
  ·cases e; cases iG r; rfl
  ·cases e; cases bO r; rfl
  ·cases e; cases bZ r; rfl
  ·obtain ⟨ws,rfl,r1⟩ := cX r
   obtain ⟨ds,e1,rfl⟩ := Option.map_eq_some_iff.mp e
   unfold toQ
   simp only [cZ (fun q w b r e => aAu e r.vw) r1 e1,Option.map_some]
  ·cases e
   obtain ⟨a,ws,rfl,e0,r1⟩ := r
   have : ws = [] := by simpa only [aT,RepA] using r1
   subst this
   unfold toQ
   simp only [e0]
   rfl
  ·cases e
end
theorem pI : pS iF fX := by
 intro F sa h x u q rx e
 unfold fX at e
 split at e
 ·rename_i hd
  split at e
  ·rename_i d e1
   split at e
   ·rename_i hs
    cases e
    exact ⟨_,by simp only [iF,zD hd rx,aAu e1 rx,hs,and_self,if_true],fY⟩
   ·cases e
  ·cases e
 ·exact aFL F sa h x u q rx e
end PV
end
section
namespace PV
open PySem PySem.Spec PyProof.Rows L2
end PV
end
section
namespace PV
open PySem PySem.Spec PyProof.Rows L2
def mM (q k v : Q) : Option Q := match q,k with
 | .lst qs, .int k => match ixN qs.length k with
  | some j => some (.lst (qs.set j v))
  | none => none
 | _,_ => none
section
variable {L β γ : Type} {fr : Bool} {ΓL : L -> List Sl} {ΓX : Option (List Sl)} {Γ Γ' : List Sl} {ΓN : β -> List Sl} {ΓM : γ -> List Sl} {m a b d : M D} {p pa pb pd : Pm Q} {q : Q} {w : D} {F F' : Nat -> Prop} {sa : Nat} {h h' : Hh} {qs : List Q} {ws : List D} {B : Bs} {c : Nat} {O : Nat -> Option Nat} {σ : Sg}
theorem aEd {ad : Nat} {k v q' : Q} {wk wv : D} (hf : ¬ F ad) (t : Top F sa h ad q) (rk : Rep F sa h k wk) (rv : Rep F sa h v wv) (nt : wv.isTl = false) (e : mM q k v = some q') : ∃ x,kG (.ref ad) wk wv h = some (h.set ad x) /\ Top F sa (h.set ad x) ad q' := by
 unfold mM at e
 split at e
 ·rename_i qs n
  obtain ⟨ws,ea,rs⟩ := t
  cases bO rk.vw
  split at e
  ·rename_i j ej
   cases e
   rw [<- rs.len] at ej
   exact ⟨.lst (ws.set j wv),by simp only [kG,dE,ea,ej,nt,if_true],_,List.getElem?_set_self (aH ea),(aAe rs rv nt).mono (gT hf)⟩
  ·cases e
 ·cases e
theorem vB (i : Nat) (e : Γ[i]? = some (.ow q)) (lx : LeX Γ ΓX) (x : SEs Γ a pa) (y : SEs Γ b pb) : S1 ΓX Γ (iP a (mV i) b) (pa.bind fun v => pb.bind fun k => .of (mM q k v)) (fun q' => Γ.set i (.ow q')) := ⟨fun {B F O σ h c K} iv en k => by
 unfold iP mSt
 have o := x.run iv en k
 revert o
 generalize a σ h = r0
 intro o
 cases o with
 | exc k1 i1 g1 r1 => exact .exc k1 i1 g1.toGw r1 ((en.ge iv g1).lex lx)
 | @ok v c' w h1 F1 k1 i1 g1 r1 =>
  obtain ⟨F2,i2,g2,r2,t2⟩ := nP i1 r1
  have e2 := (en.ge iv g1).ge i1 g2
  obtain ⟨ad,o1,o2,t⟩ := e2.ow i q e
  simp only [R.bind_ok,R.then,sP,o2]
  have o := y.run i2 e2 k1
  revert o
  generalize b σ (aQ w h1).2 = r0
  intro o
  cases o with
  | exc k3 i3 g3 r3 => exact .exc k3 i3 ((g1.trans g2).trans g3).toGw r3 ((e2.ge i2 g3).lex lx)
  | @ok kq c3 wk h3 F3 k3 i3 g3 r3 =>
   obtain ⟨q',e4,k4⟩ := cC k3
   have e3 := e2.ge i2 g3
   obtain ⟨oh1,oh2,oh3⟩ := e3.oh i ad o1
   have t3 : Top F3 B.sa h3 ad q := by
    obtain ⟨ad',z1,z2,z3⟩ := e3.ow i q e
    rw [o1] at z1; cases z1; exact z3
   obtain ⟨xc,e5,t5⟩ := aEd oh2 t3 r3 (r2.mono g3.toGw) t2 e4
   simp only [e5]
   exact .nx k4 (i3.setO oh1 oh2) (((g1.trans g2).trans g3).toGw.trans (gT oh2)) (e3.chg e o1 t5)⟩
end
end PV
end
section
namespace PV
open PySem PySem.Spec PyProof.Rows L2
end PV
end
section
namespace PV
open PySem PySem.Spec PyProof.Rows L2
end PV
end
section
namespace PV
open PySem PySem.Spec PyProof.Rows L2
end PV
end
section
namespace PV
open PySem PySem.Spec PyProof.Rows L2
end PV
end
section
namespace PV
open PySem PySem.Spec PyProof.Rows L2
/-- as yW,by the parts of the def -/
theorem eC {fr : Bool} {T : Tab} {PT : tK} {k f n np : Nat} {m : Cll -> MS} {pd : (Nat -> List Q -> Pm Q) -> Nat -> List Q -> Pm Q} (e : T f = some ⟨n,np,m⟩) (ep : PT f = some pd) (s : FnS fr (fun ws h => if ws.length = np then gK (m (aW T k) (bH n ws) h) else .bad) (pd (aK PT k) k)) : FnS fr (aW T (k + 1) f) (aK PT (k + 1) f) := yW e ep s
end PV
end
section
namespace PV
open PySem PySem.Spec PyProof.Rows L2
def aKJ : Q -> Q -> Option Q
 | .dT kvs, .dK [] => some (.bl (!decide (kvs.length = 0)))
 | _,_ => none
@[simp] theorem aMq {kvs : List (List Key × Q)} : aKJ (.dT kvs) (.dK []) = some (.bl (!decide (kvs.length = 0))) := id rfl
end PV
end
section
namespace PV
open PySem PySem.Spec PyProof.Rows L2
end PV
end
section
namespace PV
open PySem PySem.Spec PyProof.Rows L2
end PV
end
section
namespace PV
open PySem PySem.Spec PyProof.Rows L2
def qPr (v : Q) : Option (Q × Q) := match v with
 | .tup [a,b] => some (a,b)
 | _ => none
@[simp] theorem aIO {a b : Q} : qPr (.tup [a,b]) = some (a,b) := id rfl
section
variable {Γ : List Sl} {ΓX : Option (List Sl)} {a b b2 : M D} {pa pb pb2 : Pm Q} {q : Q}
theorem aIU (i : Nat) (e : Γ[i]? = some (.ow q)) (lx : LeX Γ ΓX) (lx2 : ∀ q',LeX (Γ.set i (.ow q')) ΓX) (x : SEs Γ a pa) (y : SEs Γ b pb) (y2 : ∀ q',SEs (Γ.set i (.ow q')) b2 pb2) : S1 ΓX Γ (uS a (mV i) b (mV i) b2) (pa.bind fun v => (Pm.of (qPr v)).bind fun p => pb.bind fun k => (Pm.of (qK q k p.1)).bind fun q1 => pb2.bind fun k2 => .of (qK q1 k2 p.2)) (fun q' => Γ.set i (.ow q')) := ⟨fun {B F O σ h c K} iv en k => by
 unfold uS
 have o := x.run iv en k
 revert o
 generalize a σ h = r0
 intro o
 cases o with
 | exc k1 i1 g1 r1 => exact .exc k1 i1 g1.toGw r1 ((en.ge iv g1).lex lx)
 | @ok v c' w h1 F1 k1 i1 g1 r1 =>
  have e2 := en.ge iv g1
  obtain ⟨pr,ep,k1⟩ := cC k1
  unfold qPr at ep
  split at ep
  ·rename_i v1 v2
   cases ep
   have r1' := r1
   simp only [Rep] at r1'
   obtain ⟨ws,rfl,r2⟩ := r1'
   simp only [Reps] at r2
   obtain ⟨w1,_,rfl,n1,q1,w2,_,rfl,n2,q2,rfl⟩ := r2
   obtain ⟨ad,o1,o2,t⟩ := e2.ow i q e
   simp only [R.then,sP,o2]
   have o := y.run i1 e2 k1
   revert o
   generalize b σ h1 = r0
   intro o
   cases o with
   | exc k3 i3 g3 r3 => exact .exc k3 i3 (g1.trans g3).toGw r3 ((e2.ge i1 g3).lex lx)
   | @ok kq c3 wk h3 F3 k3 i3 g3 r3 =>
    obtain ⟨q',e4,k4⟩ := cC k3
    have e3 := e2.ge i1 g3
    obtain ⟨oh1,oh2,oh3⟩ := e3.oh i ad o1
    have t3 : Top F3 B.sa h3 ad q := by
     obtain ⟨ad',z1,z2,z3⟩ := e3.ow i q e
     rw [o1] at z1; cases z1; exact z3
    obtain ⟨xc,e5,t5⟩ := aBn oh2 t3 r3 (q1.mono g3.toGw) e4
    simp only [e5]
    have i4 := i3.setO (x := xc) oh1 oh2
    have e4' := e3.chg e o1 t5
    have g4 := ((g1.trans g3).toGw).trans (gT (x := xc) oh2)
    have qb := (q2.mono g3.toGw).mono (gT (x := xc) oh2)
    have hi : i < Γ.length := (List.getElem?_eq_some_iff.mp e).1
    have ei : (Γ.set i (.ow q'))[i]? = some (.ow q') := List.getElem?_set_self hi
    obtain ⟨ad2,p1,p2,p3⟩ := e4'.ow i q' ei
    rw [o1] at p1
    cases p1
    have o := (y2 q').run i4 e4' k4
    revert o
    generalize b2 σ (h3.set ad xc) = r0
    intro o
    cases o with
    | exc k6 i6 g6 r6 => exact .exc k6 i6 (g4.trans g6.toGw) r6 ((e4'.ge i4 g6).lex (lx2 q'))
    | @ok kq2 c6 wk2 h6 F6 k6 i6 g6 r6 =>
     obtain ⟨q'',e7,k7⟩ := cC k6
     have e6 := e4'.ge i4 g6
     obtain ⟨oi1,oi2,oi3⟩ := e6.oh i ad o1
     have t6 : Top F6 B.sa h6 ad q' := by
      obtain ⟨ad',z1,z2,z3⟩ := e6.ow i q' ei
      rw [o1] at z1; cases z1; exact z3
     obtain ⟨xd,e8,t8⟩ := aBn oi2 t6 r6 (qb.mono g6.toGw) e7
     simp only [e8]
     have en8 := e6.chg ei o1 t8
     rw [List.set_set] at en8
     exact .nx k7 (i6.setO oi1 oi2) ((g4.trans g6.toGw).trans (gT oi2)) en8
  ·cases ep⟩
theorem aEa (i : Nat) (e : Γ[i]? = some (.ow q)) (lx : LeX Γ ΓX) (x : SEs Γ a pa) : S1 ΓX Γ (cQ (mM1 (on1 "list" eW) (mV i) a)) (fI "list" q (pa.bind fun y => .of (rP q y))) (fun r => Γ.set i (.ow r.2)) := ⟨fun {B F O σ h c K} iv en k => by
 obtain ⟨ad,o1,o2,t⟩ := en.ow i q e
 unfold fI at k
 split at k
 ·rename_i ht
  have hm : (mM1 (on1 "list" eW) (mV i) a) σ h = (a σ h).bind fun y h2 => eW (.ref ad) y h2 := by
   simp only [mM1,sP,o2,R.bind_ok,xE t.vw ht,uB]
  unfold cQ
  rw [hm]
  have o := x.run iv en k
  revert o
  generalize a σ h = r0
  intro o
  cases o with
  | @ok y c' w h' F' k1 i1 g1 r1 =>
   obtain ⟨⟨z,r⟩,e1,k2⟩ := cC k1
   have e2 := en.ge iv g1
   obtain ⟨oh1,oh2,oh3⟩ := e2.oh i ad o1
   have t2 : Top F' B.sa h' ad q := by
    obtain ⟨ad',z1,z2,z3⟩ := e2.ow i q e
    rw [o1] at z1; cases z1; exact z3
   unfold rP at e1
   split at e1
   ·rename_i qs n
    split at e1
    ·rename_i hn
     split at e1
     ·rename_i kk ek
      split at e1
      ·rename_i z' ez
       cases e1
       cases bO r1.vw
       obtain ⟨ws,ea,rs⟩ := t2
       obtain ⟨u,eu,nt,ru⟩ := rs.get ez
       rw [<- rs.len] at ek
       have hp : eW (.ref ad) (.int n) h' = .ok u (h'.set ad (.lst (ws.eraseIdx kk))) := by
        simp only [eW,dE,ea,hn,and_self,if_true,ek,eu]
       simp only [R.bind_ok,hp,R.then]
       exact .nx k2 (i1.setO oh1 oh2) (g1.toGw.trans (gT oh2)) (e2.chg (q' := .lst (qs.eraseIdx kk)) e o1 ⟨_,List.getElem?_set_self (aH ea),(aB0 rs).mono (gT oh2)⟩)
      ·cases e1
     ·cases e1
    ·cases e1
   ·cases e1
  | exc k1 i1 g1 r1 => exact .exc k1 i1 g1.toGw r1 ((en.ge iv g1).lex lx)
 ·exact k.elim⟩
end
end PV
end
section
namespace LW
open PV PySem PySem.Spec PyProof.Rows L2
abbrev hW : Nat := 0
abbrev jM : Nat := 1
abbrev bB : Nat := 2
abbrev bN : Nat := 3
abbrev bG : Nat := 4
abbrev aL : Nat := 5
abbrev jY : Nat := 6
abbrev aU : Nat := 7
abbrev aZ : Nat := 8
abbrev oO : Nat := 9
abbrev fS : Nat := 10
abbrev cW : Nat := 11
abbrev cY : Nat := 12
abbrev dU : Nat := 13
abbrev eE : Nat := 14
abbrev yD : Nat := 15
def hY (cl : Cll) : MS :=
 (aS (fH (hE (fL (mB (mOp jA (mV 0) (mC (.ty "str"))))) (fL (mB (kC leW leW (mC (.int 1)) (mF1 cG (mV 0)) (mC (.int 8)))))) (bX (mC (.bl false))) hZ)
  (bX (mF1 kM (mLc (miE (mV 0)) (.nm 1) (fun _ h => .ok true h) (kC ltW leW (mC (.str " ")) (mV 1) (mC (.str "~"))) [1]))))
def jN (cl : Cll) : MS :=
 (bX (sO (bA cl hW (aB [(mV 0)])) (mOp niW (mV 0) (mC (.kt ((["(",")"] : List Str).map D.str))))))
def eO (cl : Cll) : MS :=
 (aS (fH (hE (fL (mB (mOp jA (mV 0) (mC (.ty "tuple"))))) (hE (mB (mOp neW (mF1 cG (mV 0)) (mC (.int 2)))) (hE (fL (mB (mOp jA (mOp ixW (mV 0) (mC (.int 0))) (mC (.ty "str"))))) (mB (mOp niW (mOp ixW (mV 0) (mC (.int 0))) (mC (.kt ((["closed","infix","postfix","prefix"] : List Str).map D.str)))))))) (bX (mC (.bl false))) hZ)
  (aS (aR (.tu [(.nm 1),(.nm 2)]) (mV 0))
  (aS (fH (hE (fL (mB (mOp jA (mV 2) (mC (.ty "tuple"))))) (fL (mB (mF1 kM (mLc (miE (mV 2)) (.nm 3) (fun _ h => .ok true h) (bA cl jM (aB [(mV 3)])) [3]))))) (bX (mC (.bl false))) hZ)
  (bX (kC leW leW (mIf (mB (mOp eqW (mV 1) (mC (.str "closed")))) (mC (.int 2)) (mC (.int 1))) (mF1 cG (mV 2)) (mC (.int 3)))))))
def dG (cl : Cll) : MS :=
 (bX (mOp inW (mOp ixW (mV 0) (mC (.int 0))) (bF (aB [(mC (.str "prefix")),(mC (.str "closed"))]))))
def eH (cl : Cll) : MS :=
 (bX (mOp eqW (mF1 cG (mV 0)) (mF1 cG (mDc kK (miE (mV 0)) (.nm 1) (fun _ h => .ok true h) (mV 1) (mC (.bl true)) [1]))))
def cO (cl : Cll) : MS :=
 (aS (fH (hE (fL (mB (mOp jA (mV 0) (mC (.ty "tuple"))))) (hE (mB (mOp gtW (mF1 cG (mV 0)) (mC (.int 12)))) (fL (mB (mF1 kM (mLc (miE (mV 0)) (.nm 1) (fun _ h => .ok true h) (bA cl bB (aB [(mV 1)])) [1])))))) (bX (mC (.bl false))) hZ)
  (aS (aR (.nm 2) (mLc (miE (mV 0)) (.nm 1) (fun _ h => .ok true h) (mOp ixW (mOp ixW (mV 1) (mC (.int 1))) (mC (.int 0))) [1]))
  (aS (aR (.nm 3) (wC (miE (mV 0)) (.nm 1) (fun _ h => .ok true h) (miE (mSl (mOp ixW (mV 1) (mC (.int 1))) (some (mC (.int 1))) none)) (.nm 4) (fun _ h => .ok true h) (mV 4) [1,4] [4]))
  (aS (fH (hE (fL (mB (bA cl bG (aB [(mV 3)])))) (mB (mF1 tM (mLc (miE (mV 3)) (.nm 4) (fun _ h => .ok true h) (mOp inW (mV 4) (mV 2)) [4])))) (bX (mC (.bl false))) hZ)
  (aS (aR (.nm 5) (mLc (miE (mV 0)) (.nm 1) (mB (bA cl bN (aB [(mV 1)]))) (mOp ixW (mOp ixW (mV 1) (mC (.int 1))) (mC (.int 0))) [1]))
  (aS (aR (.nm 6) (mLc (miE (mV 0)) (.nm 1) (fL (mB (bA cl bN (aB [(mV 1)])))) (mOp ixW (mOp ixW (mV 1) (mC (.int 1))) (mC (.int 0))) [1]))
  (bX (sO (bA cl bG (aB [(mV 5)])) (bA cl bG (aB [(mV 6)]))))))))))
def hG (cl : Cll) : MS :=
 (aS (aR (.nm 2) (mIf (mB (mOp ltW (mV 1) (mF1 cG (mV 0)))) (mOp ixW (mV 0) (mV 1)) (mC (.int 0))))
  (aS (aR (.nm 3) (mIf (mB (mOp geW (mF1 tL (mV 2)) (mOp qG (mC (.int 10)) (mC (.int 18))))) (mOp kQ (mF1 tL (mV 2)) (mOp qG (mOp qG (mC (.int 10)) (mC (.int 60))) (mC (.int 4)))) (mC (.int 0))))
  (bX (fU (aB [(mV 3),(mOp kQ (mOp cM (mOp cM (mOp iI (mOp kQ (mV 2) (mC (.int 2305843009213693951))) (mC (.int 1000003))) (mOp iI (mOp iI (mC (.int 7919)) (mV 1)) (mV 1))) (mC (.int 97))) (mC (.int 2305843009213693921))),(mC (.int 0))])))))
def gG (cl : Cll) : MS :=
 (aS (fH (mB (mOp gtW (mOp ixW (mV 0) (mC (.int 0))) (mC (.int 0)))) (aS (aR (.nm 2) (mOp kQ (mOp ixW (mV 0) (mC (.int 0))) (mV 1)))
  (aS (iP (mOp sG (mOp ixW (mV 0) (mC (.int 0))) (mV 1)) (mV 0) (mC (.int 0)))
  (bX (mV 2)))) hZ)
  (aS (iP (mOp cM (mOp ixW (mV 0) (mC (.int 2))) (mC (.int 1))) (mV 0) (mC (.int 2)))
  (aS (aR (.nm 3) (mOp cM (mOp ixW (mV 0) (mC (.int 1))) (mOp iI (mC (.int 15485863)) (mOp ixW (mV 0) (mC (.int 2))))))
  (aS (aR (.nm 4) (mOp cM (mOp cM (mOp kQ (mOp ixW (mV 0) (mC (.int 1))) (mC (.int 7919))) (mOp iI (mC (.int 32452867)) (mOp ixW (mV 0) (mC (.int 2))))) (mC (.int 29))))
  (aS (aR (.nm 5) (mOp kQ (mOp iI (mV 3) (mV 4)) (mC (.int 2305843009213693951))))
  (aS (aR (.nm 6) (mOp cM (mOp cM (mOp kQ (mV 5) (mC (.int 1000003))) (mOp iI (mC (.int 6700417)) (mOp ixW (mV 0) (mC (.int 2))))) (mC (.int 5))))
  (bX (mOp kQ (mOp sG (mOp kQ (mOp iI (mOp cM (mV 5) (mC (.int 23))) (mV 6)) (mC (.int 2305843009213693907))) (mC (.int 64))) (mV 1)))))))))
def eU (cl : Cll) : MS :=
 (bX (mOp ixW (mV 1) (bA cl aU (aB [(mV 0),(mF1 cG (mV 1))]))))
def iN (cl : Cll) : MS :=
 (bX (mF1 fF (mLc (kP (mV 1)) (.nm 3) (fun _ h => .ok true h) (mM1 (on1 "list" eW) (mV 2) (bA cl aU (aB [(mV 0),(mF1 cG (mV 2))]))) [3])))
def cP (cl : Cll) : MS :=
 (aS (aR (.nm 4) (bA cl aZ (aB [(mV 0),(fU (aB [(mC (.str "infix")),(mC (.str "infix")),(mC (.str "infix")),(mC (.str "prefix")),(mC (.str "prefix")),(mC (.str "postfix")),(mC (.str "closed"))]))])))
  (aS (aR (.nm 5) (mIf (mB (mOp eqW (mV 4) (mC (.str "closed")))) (bA cl aZ (aB [(mV 0),(fU (aB [(mC (.int 2)),(mC (.int 2)),(mC (.int 3))]))])) (bA cl aZ (aB [(mV 0),(fU (aB [(mC (.int 1)),(mC (.int 1)),(mC (.int 1)),(mC (.int 1)),(mC (.int 2)),(mC (.int 3))]))]))))
  (aS (aR (.tu [(.nm 6),(.nm 7)]) (bF (aB [(bA cl oO (aB [(mV 0),(mV 5),(mV 1)])),(mIf (mB (mOp inW (mV 4) (bF (aB [(mC (.str "prefix")),(mC (.str "closed"))])))) (mV 3) (mV 2))])))
  (aS (fH (yF (mB (mOp neW (mV 7) (fU (aB [])))) (mB (mOp eqW (bA cl aU (aB [(mV 0),(mC (.int 4))])) (mC (.int 0))))) (aR (.nm 6) (mOp cM (bF (aB [(mM1 (on1 "list" eW) (mV 7) (bA cl aU (aB [(mV 0),(mF1 cG (mV 7))])))])) (mSl (mV 6) (some (mC (.int 1))) none))) (fH (mB (mOp inW (mV 4) (bF (aB [(mC (.str "prefix")),(mC (.str "closed"))])))) (cQ (mM1 (on1 "list" cL) (mV 2) (mOp ixW (mV 6) (mC (.int 0))))) (cQ (mM1 (on1 "list" cL) (mV 3) (mOp ixW (mV 6) (mC (.int 0)))))))
  (bX (bF (aB [(mV 4),(mV 6)])))))))
def eR (cl : Cll) : MS :=
 (aS (aR (.nm 2) (mOp cM (mF1 fJ (mC (.str "!\u0023$&*+,-./:;<=>?\u0040[]^_{|}~"))) (fU (aB [(mC (.str "if")),(mC (.str "then")),(mC (.str "else")),(mC (.str "and")),(mC (.str "or")),(mC (.str "not")),(mC (.str "is")),(mC (.str "z9"))]))))
  (aS (aR (.nm 2) (mOp cM (mV 2) (fU (aB [(mC (.str "--")),(mC (.str "**")),(mC (.str "lengthy8")),(mC (.str "of")),(mC (.str "in")),(mC (.str "to")),(mC (.str "by")),(mC (.str "=>")),(mC (.str "((")),(mC (.str "f(")),(mC (.str ")x"))]))))
  (aS (aR (.tu [(.nm 3),(.nm 4)]) (bF (aB [(fU (aB [])),(fU (aB []))])))
  (bX (mF1 fF (mLc (kP (bA cl aU (aB [(mV 0),(mOp cM (mV 1) (mC (.int 1)))]))) (.nm 5) (fun _ h => .ok true h) (bA cl fS (aB [(mV 0),(mV 2),(mV 3),(mV 4)])) [5]))))))
def aAy (cl : Cll) : MS :=
 (cQ (mM1 (on1 "list" mO) (mV 2) (mF1 fJ (mV 4))))
def aAz (cl : Cll) : MS :=
 (aS (aR (.nm 6) (bF (aB [(mOp inW (mV 3) (bF (aB [(mC (.str "prefix")),(mC (.str "closed"))]))),(mOp ixW (mV 4) (mC (.int 0)))])))
  (aS (fH (hE (mB (mOp inW (mV 6) (mV 5))) (mB (mF1 tM (mLc (miE (mSl (mV 4) (some (mC (.int 1))) none)) (.nm 7) (fun _ h => .ok true h) (mOp neW (mM1 (on1 "list" oW) (mV 2) (mV 7)) (mC (.int 1))) [7])))) (bX (mC (.bl false))) hZ)
  (cQ (mM1 (on1 "list" cL) (mV 5) (mV 6)))))
def jO (cl : Cll) : MS :=
 (aS (fH (hE (fL (mB (mOp jA (mV 0) (mC (.ty "tuple"))))) (hE (mB (mOp gtW (mF1 cG (mV 0)) (mC (.int 12)))) (fL (mB (mF1 kM (mLc (miE (mV 0)) (.nm 1) (fun _ h => .ok true h) (bA cl bB (aB [(mV 1)])) [1])))))) (bX (mC (.bl false))) hZ)
  (aS (aR (.nm 2) (fU (aB [])))
  (aS (nZ (miE (mV 0)) (.tu [(.nm 3),(.nm 4)]) (aAy cl))
  (aS (aR (.nm 5) (fU (aB [])))
  (aS (nZ (miE (mV 0)) (.tu [(.nm 3),(.nm 4)]) (aAz cl))
  (bX (mC (.bl true))))))))
def eP (cl : Cll) : MS :=
 (aS (aR (.tu [(.nm 2),(.nm 3)]) (bF (aB [(mF1 fJ (mV 1)),(bA cl aU (aB [(mV 0),(mC (.int 7))]))])))
  (aS (aR (.tu [(.nm 4),(.nm 5)]) (bF (aB [(bA cl aU (aB [(mV 0),(mF1 cG (mV 2))])),(bA cl aU (aB [(mV 0),(mF1 cG (mV 2))]))])))
  (aS (aR (.tu [(.nm 6),(.nm 7)]) (mOp ixW (mV 2) (mV 4)))
  (aS (fH (mB (mOp eqW (mV 3) (mC (.int 0)))) (cQ (mM1 (on1 "list" cL) (mV 2) (mOp ixW (mV 2) (mV 4)))) (fH (mB (mOp eqW (mV 3) (mC (.int 1)))) (cQ (mM1 (on1 "list" eW) (mV 2) (mV 4))) (fH (mB (mOp eqW (mV 3) (mC (.int 2)))) (uS (bF (aB [(mOp ixW (mV 2) (mV 5)),(mOp ixW (mV 2) (mV 4))])) (mV 2) (mV 4) (mV 2) (mV 5)) (fH (mB (mOp eqW (mV 3) (mC (.int 3)))) (iP (bF (aB [(bA cl aZ (aB [(mV 0),(fU (aB [(mC (.str "infix")),(mC (.str "prefix")),(mC (.str "postfix")),(mC (.str "closed"))]))])),(mV 7)])) (mV 2) (mV 4)) (fH (mB (mOp eqW (mV 3) (mC (.int 4)))) (aS (aR (.nm 8) (bA cl aU (aB [(mV 0),(mF1 cG (mV 7))])))
  (iP (bF (aB [(mV 6),(mOp cM (mOp cM (mSl (mV 7) none (some (mV 8))) (bF (aB [(bA cl aZ (aB [(mV 0),(mF1 fJ (mOp ixW (mOp ixW (mV 2) (mV 5)) (mC (.int 1))))]))]))) (mSl (mV 7) (some (mOp cM (mV 8) (mC (.int 1)))) none))])) (mV 2) (mV 4))) (fH (mB (mOp eqW (mV 3) (mC (.int 5)))) (iP (bF (aB [(mV 6),(mOp cM (mOp cM (mSl (mV 7) none (some (mC (.int 1)))) (bF (aB [(bA cl aZ (aB [(mV 0),(mF1 fJ (mOp ixW (mOp ixW (mV 2) (mV 5)) (mC (.int 1))))]))]))) (mSl (mV 7) (some (mC (.int 1))) (some (mC (.int 2)))))])) (mV 2) (mV 4)) (iP (bA cl aZ (aB [(mV 0),(fU (aB [(mC .non),(bF (aB [(mV 6),(bF (aB []))])),(bF (aB [(mV 6),(mF1 fJ (mV 7))])),(fU (aB [(mV 6),(mV 7)])),(mC (.str "infix"))]))])) (mV 2) (mV 4))))))))
  (bX (mF1 fF (mV 2)))))))
def xQ (cl : Cll) : MS :=
 (cQ (mM1 (on1 "list" cL) (mV 3) (bA cl dU (aB [(mV 0),(mV 1)]))))
def xR (cl : Cll) : MS :=
 (aS (aR (.tu [(.nm 7),(.nm 8)]) (bF (aB [(mF1 iF (mV 6)),(mF1 iF (bA cl cY (aB [(mV 6)])))])))
  (fH (hE (mB (mOp neW (mF1 iF (bA cl aL (aB [(mV 6)]))) (mV 8))) (hE (mB (mOp neW (mF1 iF (nF cl aL (aB [(mV 6)]) [0])) (mV 8))) (mB (mOp neW (mF1 iF (mV 6)) (mV 7))))) (bX (mC (.bl false))) hZ))
def gQ (cl : Cll) : MS :=
 (aS (aR (.nm 1) (bA cl cW (aB [(mV 0),(mC (.int 12))])))
  (aS (aR (.nm 2) (mC (.str "abcdefghijklm")))
  (aS (aR (.nm 3) (fU (aB [(mV 1),(bF (aB [])),(fU (aB [])),(mC .non),(mC (.bl true)),(mC (.str "")),(mD0 (.dK [])),(mF1 fJ (mV 1)),(bF (aB [(mV 1)]))])))
  (aS (cQ (mM1 (on1 "list" cL) (mV 3) (mF1 fF (mLc (miE (mSl (mV 2) none (some (mC (.int 12))))) (.nm 4) (fun _ h => .ok true h) (bF (aB [(mC (.str "infix")),(bF (aB [(mV 4)]))])) [4]))))
  (aS (cQ (mM1 (on1 "list" cL) (mV 3) (mF1 fF (mLc (miE (mV 2)) (.nm 4) (fun _ h => .ok true h) (bF (aB [(mC (.str "infix")),(bF (aB [(mV 4)]))])) [4]))))
  (aS (cQ (mM1 (on1 "list" cL) (mV 3) (bF (aB [(bF (aB [(mC (.str "prefix")),(bF (aB [(mC (.str "-"))]))])),(bF (aB [(mC (.str "infix")),(bF (aB [(mC (.str "-"))]))])),(bF (aB [(mC (.str "infix")),(bF (aB [(mC (.str "+")),(mC (.str "-"))]))]))]))))
  (aS (cQ (mM1 (on1 "list" cL) (mV 3) (bF (aB [(bF (aB [(mC (.str "prefix")),(bF (aB [(mC (.str "-"))]))])),(bF (aB [(mC (.str "postfix")),(bF (aB [(mC (.str "-"))]))])),(bF (aB [(mC (.str "closed")),(bF (aB [(mC (.str "[")),(mC (.str "]"))]))]))]))))
  (aS (nZ (kP (mOp iI (mC (.int 25)) (mF1 rE (mOp neW (mV 1) (bF (aB [])))))) (.nm 5) (xQ cl))
  (aS (nZ (miE (mV 3)) (.nm 6) (xR cl))
  (bX (mOp isW (bA cl aL (aB [(mV 1)])) (mC (.bl true)))))))))))))
def sQ (cl : Cll) : MS :=
 (bX (mF1 kM (mLc (kP (mOp tX (mC (.int 1)) (mOp tZ (mF1 cG (mV 0)) (mC (.int 3))))) (.nm 1) (fun _ h => .ok true h) (bA cl eE (aB [(bA cl jY (aB [(mV 0),(mV 1)]))])) [1])))
def T : Tab := fun f => match f with
 | 0 => some ⟨2,1,hY⟩
 | 1 => some ⟨1,1,jN⟩
 | 2 => some ⟨4,1,eO⟩
 | 3 => some ⟨1,1,dG⟩
 | 4 => some ⟨2,1,eH⟩
 | 5 => some ⟨7,1,cO⟩
 | 6 => some ⟨4,2,hG⟩
 | 7 => some ⟨7,2,gG⟩
 | 8 => some ⟨2,2,eU⟩
 | 9 => some ⟨4,3,iN⟩
 | 10 => some ⟨8,4,cP⟩
 | 11 => some ⟨6,2,eR⟩
 | 12 => some ⟨8,1,jO⟩
 | 13 => some ⟨9,2,eP⟩
 | 14 => some ⟨9,1,gQ⟩
 | 15 => some ⟨2,1,sQ⟩
 | _ => none
def pO : List Str := ["value","character"]
def qY : List Str := ["value"]
def lP : List Str := ["value","kind","words","word"]
def iY : List Str := ["operator"]
def kJ : List Str := ["words","word"]
def gX : List Str := ["value","one","first","later","word","starting","following"]
def mW : List Str := ["_law_script","_law_k","_law_cell","_law_digits"]
def pP : List Str := ["_law_source_here","_law_size","_law_digit","_law_low","_law_high","_law_mixed","_law_last"]
def pQ : List Str := ["_law_source_here","_law_some"]
def oI : List Str := ["_law_source_here","_law_many","_law_pool","_law_k"]
def kL : List Str := ["_law_source_here","_law_pool","_law_starts","_law_follows","_law_kind","_law_many","_law_words_here","_law_shared"]
def jS : List Str := ["_law_source_here","_law_most","_law_pool","_law_starts","_law_follows","_law_k"]
def qZ : List Str := ["_law_thing","_law_one","_law_every","_law_kind","_law_words_here","_law_seen","_law_role","_law_word"]
def lQ : List Str := ["_law_source_here","_law_operators_here","_law_some","_law_way","_law_at","_law_to","_law_kind","_law_words_here","_law_place"]
def oH : List Str := ["_law_source_here","_law_operators_here","_law_letters","_law_values","_law_letter","_law_turn","_law_thing","_law_before","_law_due_here"]
def xW : List Str := ["_law_script","_law_k"]
structure FS (P : Program) (w : World) (K : PySem.W.Frag) (mg : Str -> Option Value) (base : Heap) (g : Gx) (k : Nat) (cl : Cll) : Prop where
 fn_is_token : FnF P w K mg base g k cl hW "is_token" eZ ["value"]
 fn_is_word : FnF P w K mg base g k cl jM "is_word" gE ["value"]
 fn_is_operator : FnF P w K mg base g k cl bB "is_operator" dB ["value"]
 fn_starts_operand : FnF P w K mg base g k cl bN "starts_operand" cF ["operator"]
 fn_are_distinct : FnF P w K mg base g k cl bG "are_distinct" cS ["words"]
 fn_is_operator_list : FnF P w K mg base g k cl aL "is_operator_list" bM ["value"]
 fn_law_source : FnF P w K mg base g k cl jY "_law_source" dP ["_law_script","_law_k"]
 fn_law_draw : FnF P w K mg base g k cl aU "_law_draw" fB ["_law_source_here","_law_size"]
 fn_law_pick : FnF P w K mg base g k cl aZ "_law_pick" fC ["_law_source_here","_law_some"]
 fn_law_words : FnF P w K mg base g k cl oO "_law_words" eG ["_law_source_here","_law_many","_law_pool"]
 fn_law_operator : FnF P w K mg base g k cl fS "_law_operator" cU ["_law_source_here","_law_pool","_law_starts","_law_follows"]
 fn_law_operators : FnF P w K mg base g k cl cW "_law_operators" cK ["_law_source_here","_law_most"]
 fn_law_due : FnF P w K mg base g k cl cY "_law_due" gF ["_law_thing"]
 fn_law_changed : FnF P w K mg base g k cl dU "_law_changed" dC ["_law_source_here","_law_operators_here"]
 fn_law_right : FnF P w K mg base g k cl eE "_law_right" eF ["_law_source_here"]
 fn_law : FnF P w K mg base g k cl yD "law" oE ["_law_script"]
 cs_CLOSED : ∃ t,mg "CLOSED" = some (.str "closed" t)
 cs_GROUP_WORDS : ∃ a vs,mg "GROUP_WORDS" = some (.ref a) /\ (∀ H,SqT g.K H a vs) /\ ∀ μ H,RVs g μ H ((["(",")"] : List Str).map D.str) vs
 cs_KINDS : ∃ a vs,mg "KINDS" = some (.ref a) /\ (∀ H,SqT g.K H a vs) /\ ∀ μ H,RVs g μ H ((["closed","infix","postfix","prefix"] : List Str).map D.str) vs
 cs_MOST_CHARACTERS : ∃ t,mg "MOST_CHARACTERS" = some (.int 8 t)
 cs_MOST_OPERATORS : ∃ t,mg "MOST_OPERATORS" = some (.int 12 t)
 cs_MOST_WORDS : ∃ t,mg "MOST_WORDS" = some (.int 3 t)
 cs_PREFIX : ∃ t,mg "PREFIX" = some (.str "prefix" t)
 fr_abs : mg "abs" = none
 fr_all : mg "all" = none
 fr_any : mg "any" = none
 fr_int : mg "int" = none
 fr_isinstance : mg "isinstance" = none
 fr_len : mg "len" = none
 fr_list : mg "list" = none
 fr_max : mg "max" = none
 fr_min : mg "min" = none
 fr_range : mg "range" = none
 fr_repr : mg "repr" = none
 fr_str : mg "str" = none
 fr_tuple : mg "tuple" = none
theorem aAA : BdF "is_token" eZ ["value"] := fun _ _ _ _ _ _ us hl => match us,hl with | [_],_ => rfl
theorem aBy : BdF "is_word" gE ["value"] := fun _ _ _ _ _ _ us hl => match us,hl with | [_],_ => rfl
theorem oT : BdF "is_operator" dB ["value"] := fun _ _ _ _ _ _ us hl => match us,hl with | [_],_ => rfl
theorem mD : BdF "starts_operand" cF ["operator"] := fun _ _ _ _ _ _ us hl => match us,hl with | [_],_ => rfl
theorem jT : BdF "are_distinct" cS ["words"] := fun _ _ _ _ _ _ us hl => match us,hl with | [_],_ => rfl
theorem kI : BdF "is_operator_list" bM ["value"] := fun _ _ _ _ _ _ us hl => match us,hl with | [_],_ => rfl
theorem xS : BdF "_law_source" dP ["_law_script","_law_k"] := fun _ _ _ _ _ _ us hl => match us,hl with | [_,_],_ => rfl
theorem dI : BdF "_law_draw" fB ["_law_source_here","_law_size"] := fun _ _ _ _ _ _ us hl => match us,hl with | [_,_],_ => rfl
theorem fG : BdF "_law_pick" fC ["_law_source_here","_law_some"] := fun _ _ _ _ _ _ us hl => match us,hl with | [_,_],_ => rfl
theorem yO : BdF "_law_words" eG ["_law_source_here","_law_many","_law_pool"] := fun _ _ _ _ _ _ us hl => match us,hl with | [_,_,_],_ => rfl
theorem uM : BdF "_law_operator" cU ["_law_source_here","_law_pool","_law_starts","_law_follows"] := fun _ _ _ _ _ _ us hl => match us,hl with | [_,_,_,_],_ => rfl
theorem tO : BdF "_law_operators" cK ["_law_source_here","_law_most"] := fun _ _ _ _ _ _ us hl => match us,hl with | [_,_],_ => rfl
theorem aBz : BdF "_law_due" gF ["_law_thing"] := fun _ _ _ _ _ _ us hl => match us,hl with | [_],_ => rfl
theorem vR : BdF "_law_changed" dC ["_law_source_here","_law_operators_here"] := fun _ _ _ _ _ _ us hl => match us,hl with | [_,_],_ => rfl
theorem yN : BdF "_law_right" eF ["_law_source_here"] := fun _ _ _ _ _ _ us hl => match us,hl with | [_],_ => rfl
theorem aGg : BdF "law" oE ["_law_script"] := fun _ _ _ _ _ _ us hl => match us,hl with | [_],_ => rfl
theorem oU : BdK "is_operator_list" bM ["value"] ["value"] [0] := fun _ _ _ _ _ _ ws xs hl e => match ws,hl,e with | [_],_,e => by cases e; rfl
theorem aAK : FnScope pO ["value"] (defScope eZ) := ⟨rfl,rfl,rfl,by decide +kernel,rfl,by decide +kernel,by decide +kernel⟩
theorem aAQ {g : Gx} {k : Nat} {cl : Cll} (X : Cx) (Wx : WX) (G : Good FS g k cl pO (defScope eZ) (fun _ => true) X Wx) (hp : HP X) : QL g X Wx (defBody eZ) (hY cl) :=
 (aN (eY (QW.te (iE (gN (qtv (G.qf2 (by decide +kernel) G.fs.fr_isinstance (by kernel_rfl) rfl G.cisiW rfl (G.qvar 0 (by decide +kernel)) (G.qtyp (by decide +kernel) G.fs.fr_str (by kernel_rfl))) rfl)) (lK (gN (aD5 G.oleW G.oleW aG (G.qf1 (by decide +kernel) G.fs.fr_len (by kernel_rfl) rfl G.clenW rfl (G.qvar 0 (by decide +kernel))) (G.qconI (by decide +kernel) G.fs.cs_MOST_CHARACTERS) (by rfl)))))) (aV (bV iV)) kD)
  (aV (bV (G.qf1 (by decide +kernel) G.fs.fr_all (by kernel_rfl) rfl G.callW rfl (G.qlc [("character",1)] [1] (by decide +kernel) (by rfl) (by rfl) rfl (G.qsie (G.qvar 0 (by decide +kernel))) (fun X G => (G.qtgt 1 (by decide +kernel))) .nil (fun X G => (aAb G.oltW G.oleW aM (G.qvar 1 (by decide +kernel)) aM (by rfl))))))))
theorem aB2 : FnScope qY ["value"] (defScope gE) := ⟨rfl,rfl,rfl,by decide +kernel,rfl,by decide +kernel,by decide +kernel⟩
theorem aB5 {g : Gx} {k : Nat} {cl : Cll} (X : Cx) (Wx : WX) (G : Good FS g k cl qY (defScope gE) (fun _ => true) X Wx) (hp : HP X) : QL g X Wx (defBody gE) (jN cl) :=
 (aV (bV (aCY (G.qcal (by decide +kernel) G.fs.fn_is_token aAA rfl rfl (qac (G.qvar 0 (by decide +kernel)) aF rfl)) (aC0 (lJ G.oniW (G.qvar 0 (by decide +kernel)) (G.qconT (by decide +kernel) G.fs.cs_GROUP_WORDS) (by rfl))))))
theorem wO : FnScope lP ["value"] (defScope dB) := ⟨rfl,rfl,rfl,by decide +kernel,rfl,by decide +kernel,by decide +kernel⟩
theorem wW {g : Gx} {k : Nat} {cl : Cll} (X : Cx) (Wx : WX) (G : Good FS g k cl lP (defScope dB) (fun _ => true) X Wx) (hp : HP X) : QL g X Wx (defBody dB) (eO cl) :=
 (aN (eY (QW.te (iE (gN (qtv (G.qf2 (by decide +kernel) G.fs.fr_isinstance (by kernel_rfl) rfl G.cisiW rfl (G.qvar 0 (by decide +kernel)) (G.qtyp (by decide +kernel) G.fs.fr_tuple (by kernel_rfl))) rfl)) (iE (cE G.oneW (G.qf1 (by decide +kernel) G.fs.fr_len (by kernel_rfl) rfl G.clenW rfl (G.qvar 0 (by decide +kernel))) aG (by rfl)) (iE (gN (qtv (G.qf2 (by decide +kernel) G.fs.fr_isinstance (by kernel_rfl) rfl G.cisiW rfl (G.qix (G.qvar 0 (by decide +kernel)) aG rfl) (G.qtyp (by decide +kernel) G.fs.fr_str (by kernel_rfl))) rfl)) (lK (cE G.oniW (G.qix (G.qvar 0 (by decide +kernel)) aG rfl) (G.qconT (by decide +kernel) G.fs.cs_KINDS) (by rfl))))))) (aV (bV iV)) kD)
  (aN (aBi (G.qvar 0 (by decide +kernel)) (G.qtup (qgc (G.qtgt 1 (by decide +kernel)) (qgc (G.qtgt 2 (by decide +kernel)) pG rfl) rfl) rfl rfl) rfl rfl)
  (aN (eY (QW.te (iE (gN (qtv (G.qf2 (by decide +kernel) G.fs.fr_isinstance (by kernel_rfl) rfl G.cisiW rfl (G.qvar 2 (by decide +kernel)) (G.qtyp (by decide +kernel) G.fs.fr_tuple (by kernel_rfl))) rfl)) (lK (gN (qtv (G.qf1 (by decide +kernel) G.fs.fr_all (by kernel_rfl) rfl G.callW rfl (G.qlc [("word",3)] [3] (by decide +kernel) (by rfl) (by rfl) rfl (G.qsie (G.qvar 2 (by decide +kernel))) (fun X G => (G.qtgt 3 (by decide +kernel))) .nil (fun X G => (G.qcal (by decide +kernel) G.fs.fn_is_word aBy rfl rfl (qac (G.qvar 3 (by decide +kernel)) aF rfl))))) rfl))))) (aV (bV iV)) kD)
  (aV (bV (aAb G.oleW G.oleW (rQ (cE G.oeqW (G.qvar 1 (by decide +kernel)) (G.qconS (by decide +kernel) G.fs.cs_CLOSED) (by rfl)) aG aG) (G.qf1 (by decide +kernel) G.fs.fr_len (by kernel_rfl) rfl G.clenW rfl (G.qvar 2 (by decide +kernel))) (G.qconI (by decide +kernel) G.fs.cs_MOST_WORDS) (by rfl)))))))
theorem tF : FnScope iY ["operator"] (defScope cF) := ⟨rfl,rfl,rfl,by decide +kernel,rfl,by decide +kernel,by decide +kernel⟩
theorem tG {g : Gx} {k : Nat} {cl : Cll} (X : Cx) (Wx : WX) (G : Good FS g k cl iY (defScope cF) (fun _ => true) X Wx) (hp : HP X) : QL g X Wx (defBody cF) (dG cl) :=
 (aV (bV (lJ G.oinW (G.qix (G.qvar 0 (by decide +kernel)) aG rfl) (bC (qac (G.qconS (by decide +kernel) G.fs.cs_PREFIX) (qac (G.qconS (by decide +kernel) G.fs.cs_CLOSED) aF rfl) rfl)) (by rfl))))
theorem vC : FnScope kJ ["words"] (defScope cS) := ⟨rfl,rfl,rfl,by decide +kernel,rfl,by decide +kernel,by decide +kernel⟩
theorem vH {g : Gx} {k : Nat} {cl : Cll} (X : Cx) (Wx : WX) (G : Good FS g k cl kJ (defScope cS) (fun _ => true) X Wx) (hp : HP X) : QL g X Wx (defBody cS) (eH cl) :=
 (aV (bV (lJ G.oeqW (G.qf1 (by decide +kernel) G.fs.fr_len (by kernel_rfl) rfl G.clenW rfl (G.qvar 0 (by decide +kernel))) (G.qf1 (by decide +kernel) G.fs.fr_len (by kernel_rfl) rfl G.clenW rfl (G.qdc aIr [("word",1)] [1] (by decide +kernel) (by rfl) (by rfl) rfl (G.qsie (G.qvar 0 (by decide +kernel))) (fun X G => (G.qtgt 1 (by decide +kernel))) .nil (fun X G => (G.qvar 1 (by decide +kernel))) (fun X G => iV))) (by rfl))))
theorem qV : FnScope gX ["value"] (defScope bM) := ⟨rfl,rfl,rfl,by decide +kernel,rfl,by decide +kernel,by decide +kernel⟩
theorem qW {g : Gx} {k : Nat} {cl : Cll} (X : Cx) (Wx : WX) (G : Good FS g k cl gX (defScope bM) (fun _ => true) X Wx) (hp : HP X) : QL g X Wx (defBody bM) (cO cl) :=
 (aN (eY (QW.te (iE (gN (qtv (G.qf2 (by decide +kernel) G.fs.fr_isinstance (by kernel_rfl) rfl G.cisiW rfl (G.qvar 0 (by decide +kernel)) (G.qtyp (by decide +kernel) G.fs.fr_tuple (by kernel_rfl))) rfl)) (iE (cE G.ogtW (G.qf1 (by decide +kernel) G.fs.fr_len (by kernel_rfl) rfl G.clenW rfl (G.qvar 0 (by decide +kernel))) (G.qconI (by decide +kernel) G.fs.cs_MOST_OPERATORS) (by rfl)) (lK (gN (qtv (G.qf1 (by decide +kernel) G.fs.fr_all (by kernel_rfl) rfl G.callW rfl (G.qlc [("one",1)] [1] (by decide +kernel) (by rfl) (by rfl) rfl (G.qsie (G.qvar 0 (by decide +kernel))) (fun X G => (G.qtgt 1 (by decide +kernel))) .nil (fun X G => (G.qcal (by decide +kernel) G.fs.fn_is_operator oT rfl rfl (qac (G.qvar 1 (by decide +kernel)) aF rfl))))) rfl)))))) (aV (bV iV)) kD)
  (aN (G.qasgN (G.qlc [("one",1)] [1] (by decide +kernel) (by rfl) (by rfl) rfl (G.qsie (G.qvar 0 (by decide +kernel))) (fun X G => (G.qtgt 1 (by decide +kernel))) .nil (fun X G => (G.qix (G.qix (G.qvar 1 (by decide +kernel)) aG rfl) aG rfl))) (G.qtgt 2 (by decide +kernel)) (by kernel_rfl))
  (aN (G.qsetLc2 3 [("one",1),("word",4)] [1,4] [4] (by decide +kernel) (by decide +kernel) (by decide +kernel) (by rfl) (by rfl) (by rfl) (by rfl) rfl rfl (G.qsie (G.qvar 0 (by decide +kernel))) (fun X G => (G.qtgt 1 (by decide +kernel))) .nil (fun X G => (G.qsie (G.qsl (G.qix (G.qvar 1 (by decide +kernel)) aG rfl) (iD aG) kY))) (fun X G => (G.qtgt 4 (by decide +kernel))) .nil (fun X G => (G.qvar 4 (by decide +kernel))))
  (aN (eY (QW.te (iE (gN (qtv (G.qcal (by decide +kernel) G.fs.fn_are_distinct jT rfl rfl (qac (G.qvar 3 (by decide +kernel)) aF rfl)) rfl)) (lK (qtv (G.qf1 (by decide +kernel) G.fs.fr_any (by kernel_rfl) rfl G.canyW rfl (G.qlc [("word",4)] [4] (by decide +kernel) (by rfl) (by rfl) rfl (G.qsie (G.qvar 3 (by decide +kernel))) (fun X G => (G.qtgt 4 (by decide +kernel))) .nil (fun X G => (lJ G.oinW (G.qvar 4 (by decide +kernel)) (G.qvar 2 (by decide +kernel)) (by rfl))))) rfl)))) (aV (bV iV)) kD)
  (aN (G.qsetLc 5 [("one",1)] [1] (by decide +kernel) (by decide +kernel) (by decide +kernel) (by rfl) (by rfl) rfl (G.qsie (G.qvar 0 (by decide +kernel))) (fun X G => (G.qtgt 1 (by decide +kernel))) (.one (fun X G => (qtv (G.qcal (by decide +kernel) G.fs.fn_starts_operand mD rfl rfl (qac (G.qvar 1 (by decide +kernel)) aF rfl)) rfl))) (fun X G => (G.qix (G.qix (G.qvar 1 (by decide +kernel)) aG rfl) aG rfl)))
  (aN (G.qsetLc 6 [("one",1)] [1] (by decide +kernel) (by decide +kernel) (by decide +kernel) (by rfl) (by rfl) rfl (G.qsie (G.qvar 0 (by decide +kernel))) (fun X G => (G.qtgt 1 (by decide +kernel))) (.one (fun X G => (gN (qtv (G.qcal (by decide +kernel) G.fs.fn_starts_operand mD rfl rfl (qac (G.qvar 1 (by decide +kernel)) aF rfl)) rfl)))) (fun X G => (G.qix (G.qix (G.qvar 1 (by decide +kernel)) aG rfl) aG rfl)))
  (aV (bV (aCY (G.qcal (by decide +kernel) G.fs.fn_are_distinct jT rfl rfl (qac (G.qvar 5 (by decide +kernel)) aF rfl)) (aC0 (G.qcal (by decide +kernel) G.fs.fn_are_distinct jT rfl rfl (qac (G.qvar 6 (by decide +kernel)) aF rfl))))))))))))
theorem xU : FnScope mW ["_law_script","_law_k"] (defScope dP) := ⟨rfl,rfl,rfl,by decide +kernel,rfl,by decide +kernel,by decide +kernel⟩
theorem xV {g : Gx} {k : Nat} {cl : Cll} (X : Cx) (Wx : WX) (G : Good FS g k cl mW (defScope dP) (fun _ => true) X Wx) (hp : HP X) : QL g X Wx (defBody dP) (hG cl) :=
 (aN (bQ (rQ (cE G.oltW (G.qvar 1 (by decide +kernel)) (G.qf1 (by decide +kernel) G.fs.fr_len (by kernel_rfl) rfl G.clenW rfl (G.qvar 0 (by decide +kernel))) (by rfl)) (G.qix (G.qvar 0 (by decide +kernel)) (G.qvar 1 (by decide +kernel)) rfl) aG) (G.qtgt 2 (by decide +kernel)) rfl)
  (aN (bQ (rQ (cE G.ogeW (G.qf1 (by decide +kernel) G.fs.fr_abs (by kernel_rfl) rfl G.cabsW rfl (G.qvar 2 (by decide +kernel))) (aY G.opowW aG aG) (by rfl)) (aY G.omodW (G.qf1 (by decide +kernel) G.fs.fr_abs (by kernel_rfl) rfl G.cabsW rfl (G.qvar 2 (by decide +kernel))) (aY G.opowW (aY G.opowW aG aG) aG)) aG) (G.qtgt 3 (by decide +kernel)) rfl)
  (aV (bV (dX (qac (G.qvar 3 (by decide +kernel)) (qac (aY G.omodW (aY G.oaddW (aY G.oaddW (aY G.omulW (aY G.omodW (G.qvar 2 (by decide +kernel)) aG) aG) (aY G.omulW (aY G.omulW aG (G.qvar 1 (by decide +kernel))) (G.qvar 1 (by decide +kernel)))) aG) aG) (qac aG aF rfl) rfl) rfl))))))
theorem aAL : FnScope pP ["_law_source_here","_law_size"] (defScope fB) := ⟨rfl,rfl,rfl,by decide +kernel,rfl,by decide +kernel,by decide +kernel⟩
theorem aAR {g : Gx} {k : Nat} {cl : Cll} (X : Cx) (Wx : WX) (G : Good FS g k cl pP (defScope fB) (fun _ => true) X Wx) (hp : HP X) : QL g X Wx (defBody fB) (gG cl) :=
 (aN (eY (cE G.ogtW (G.qix (G.qvar 0 (by decide +kernel)) aG rfl) aG (by rfl)) (aN (bQ (aY G.omodW (G.qix (G.qvar 0 (by decide +kernel)) aG rfl) (G.qvar 1 (by decide +kernel))) (G.qtgt 2 (by decide +kernel)) rfl)
  (aN (G.qsub (aY G.ofdivW (G.qix (G.qvar 0 (by decide +kernel)) aG rfl) (G.qvar 1 (by decide +kernel))) (G.qvar 0 (by decide +kernel)) aG rfl rfl)
  (aV (bV (G.qvar 2 (by decide +kernel)))))) kD)
  (aN (G.qsub (aY G.oaddW (G.qix (G.qvar 0 (by decide +kernel)) aG rfl) aG) (G.qvar 0 (by decide +kernel)) aG rfl rfl)
  (aN (bQ (aY G.oaddW (G.qix (G.qvar 0 (by decide +kernel)) aG rfl) (aY G.omulW aG (G.qix (G.qvar 0 (by decide +kernel)) aG rfl))) (G.qtgt 3 (by decide +kernel)) rfl)
  (aN (bQ (aY G.oaddW (aY G.oaddW (aY G.omodW (G.qix (G.qvar 0 (by decide +kernel)) aG rfl) aG) (aY G.omulW aG (G.qix (G.qvar 0 (by decide +kernel)) aG rfl))) aG) (G.qtgt 4 (by decide +kernel)) rfl)
  (aN (bQ (aY G.omodW (aY G.omulW (G.qvar 3 (by decide +kernel)) (G.qvar 4 (by decide +kernel))) aG) (G.qtgt 5 (by decide +kernel)) rfl)
  (aN (bQ (aY G.oaddW (aY G.oaddW (aY G.omodW (G.qvar 5 (by decide +kernel)) aG) (aY G.omulW aG (G.qix (G.qvar 0 (by decide +kernel)) aG rfl))) aG) (G.qtgt 6 (by decide +kernel)) rfl)
  (aV (bV (aY G.omodW (aY G.ofdivW (aY G.omodW (aY G.omulW (aY G.oaddW (G.qvar 5 (by decide +kernel)) aG) (G.qvar 6 (by decide +kernel))) aG) aG) (G.qvar 1 (by decide +kernel)))))))))))
theorem aAM : FnScope pQ ["_law_source_here","_law_some"] (defScope fC) := ⟨rfl,rfl,rfl,by decide +kernel,rfl,by decide +kernel,by decide +kernel⟩
theorem aAS {g : Gx} {k : Nat} {cl : Cll} (X : Cx) (Wx : WX) (G : Good FS g k cl pQ (defScope fC) (fun _ => true) X Wx) (hp : HP X) : QL g X Wx (defBody fC) (eU cl) :=
 (aV (bV (G.qix (G.qvar 1 (by decide +kernel)) (G.qcal (by decide +kernel) G.fs.fn_law_draw dI rfl rfl (qac (G.qvar 0 (by decide +kernel)) (qac (G.qf1 (by decide +kernel) G.fs.fr_len (by kernel_rfl) rfl G.clenW rfl (G.qvar 1 (by decide +kernel))) aF rfl) rfl)) rfl)))
theorem aAj : FnScope oI ["_law_source_here","_law_many","_law_pool"] (defScope eG) := ⟨rfl,rfl,rfl,by decide +kernel,rfl,by decide +kernel,by decide +kernel⟩
theorem aAm {g : Gx} {k : Nat} {cl : Cll} (X : Cx) (Wx : WX) (G : Good FS g k cl oI (defScope eG) (fun _ => true) X Wx) (hp : HP X) : QL g X Wx (defBody eG) (iN cl) :=
 (aV (bV (G.qf1 (by decide +kernel) G.fs.fr_tuple (by kernel_rfl) rfl G.ctupleW rfl (G.qlc [("_law_k",3)] [3] (by decide +kernel) (by rfl) (by rfl) rfl (G.qr1 (by decide +kernel) G.fs.fr_range rfl (G.qvar 1 (by decide +kernel))) (fun X G => (G.qtgt 3 (by decide +kernel))) .nil (fun X G => (G.qk1 zK G.mpopAtW rfl (by decide +kernel) rfl (G.qvar 2 (by decide +kernel)) (G.qcal (by decide +kernel) G.fs.fn_law_draw dI rfl rfl (qac (G.qvar 0 (by decide +kernel)) (qac (G.qf1 (by decide +kernel) G.fs.fr_len (by kernel_rfl) rfl G.clenW rfl (G.qvar 2 (by decide +kernel))) aF rfl) rfl))))))))
theorem vD : FnScope kL ["_law_source_here","_law_pool","_law_starts","_law_follows"] (defScope cU) := ⟨rfl,rfl,rfl,by decide +kernel,rfl,by decide +kernel,by decide +kernel⟩
theorem vI {g : Gx} {k : Nat} {cl : Cll} (X : Cx) (Wx : WX) (G : Good FS g k cl kL (defScope cU) (fun _ => true) X Wx) (hp : HP X) : QL g X Wx (defBody cU) (cP cl) :=
 (aN (bQ (G.qcal (by decide +kernel) G.fs.fn_law_pick fG rfl rfl (qac (G.qvar 0 (by decide +kernel)) (qac (dX (qac aM (qac aM (qac aM (qac aM (qac aM (qac aM (qac aM aF rfl) rfl) rfl) rfl) rfl) rfl) rfl)) aF rfl) rfl)) (G.qtgt 4 (by decide +kernel)) rfl)
  (aN (bQ (rQ (cE G.oeqW (G.qvar 4 (by decide +kernel)) aM (by rfl)) (G.qcal (by decide +kernel) G.fs.fn_law_pick fG rfl rfl (qac (G.qvar 0 (by decide +kernel)) (qac (dX (qac aG (qac aG (qac aG aF rfl) rfl) rfl)) aF rfl) rfl)) (G.qcal (by decide +kernel) G.fs.fn_law_pick fG rfl rfl (qac (G.qvar 0 (by decide +kernel)) (qac (dX (qac aG (qac aG (qac aG (qac aG (qac aG (qac aG aF rfl) rfl) rfl) rfl) rfl) rfl)) aF rfl) rfl))) (G.qtgt 5 (by decide +kernel)) rfl)
  (aN (G.qpar 6 7 (by decide +kernel) (by decide +kernel) (by decide) (qac (G.qcal (by decide +kernel) G.fs.fn_law_words yO rfl rfl (qac (G.qvar 0 (by decide +kernel)) (qac (G.qvar 5 (by decide +kernel)) (qac (G.qvar 1 (by decide +kernel)) aF rfl) rfl) rfl)) (qac (rQ (cE G.oinW (G.qvar 4 (by decide +kernel)) (bC (qac aM (qac aM aF rfl) rfl)) (by rfl)) (G.qvar 3 (by decide +kernel)) (G.qvar 2 (by decide +kernel))) aF rfl) rfl) (by kernel_rfl))
  (aN (eY (QW.te (aG4 (cE G.oneW (G.qvar 7 (by decide +kernel)) (dX aF) (by rfl)) (aFH (cE G.oeqW (G.qcal (by decide +kernel) G.fs.fn_law_draw dI rfl rfl (qac (G.qvar 0 (by decide +kernel)) (qac aG aF rfl) rfl)) aG (by rfl))))) (aV (bQ (aY G.oaddW (bC (qac (G.qk1 zK G.mpopAtW rfl (by decide +kernel) rfl (G.qvar 7 (by decide +kernel)) (G.qcal (by decide +kernel) G.fs.fn_law_draw dI rfl rfl (qac (G.qvar 0 (by decide +kernel)) (qac (G.qf1 (by decide +kernel) G.fs.fr_len (by kernel_rfl) rfl G.clenW rfl (G.qvar 7 (by decide +kernel))) aF rfl) rfl))) aF rfl)) (G.qsl (G.qvar 6 (by decide +kernel)) (iD aG) kY)) (G.qtgt 6 (by decide +kernel)) rfl)) (aV (eY (cE G.oinW (G.qvar 4 (by decide +kernel)) (bC (qac aM (qac aM aF rfl) rfl)) (by rfl)) (aV (qse (G.qk1 eV G.mappendW rfl (by decide +kernel) rfl (G.qvar 2 (by decide +kernel)) (G.qix (G.qvar 6 (by decide +kernel)) aG rfl)) rfl)) (aV (qse (G.qk1 eV G.mappendW rfl (by decide +kernel) rfl (G.qvar 3 (by decide +kernel)) (G.qix (G.qvar 6 (by decide +kernel)) aG rfl)) rfl)))))
  (aV (bV (bC (qac (G.qvar 4 (by decide +kernel)) (qac (G.qvar 6 (by decide +kernel)) aF rfl) rfl))))))))
theorem uF : FnScope jS ["_law_source_here","_law_most"] (defScope cK) := ⟨rfl,rfl,rfl,by decide +kernel,rfl,by decide +kernel,by decide +kernel⟩
theorem uG {g : Gx} {k : Nat} {cl : Cll} (X : Cx) (Wx : WX) (G : Good FS g k cl jS (defScope cK) (fun _ => true) X Wx) (hp : HP X) : QL g X Wx (defBody cK) (eR cl) :=
 (aN (bQ (aY G.oaddW (G.qf1 (by decide +kernel) G.fs.fr_list (by kernel_rfl) rfl G.clistW rfl aM) (dX (qac aM (qac aM (qac aM (qac aM (qac aM (qac aM (qac aM (qac aM aF rfl) rfl) rfl) rfl) rfl) rfl) rfl) rfl))) (G.qtgt 2 (by decide +kernel)) rfl)
  (aN (bQ (aY G.oaddW (G.qvar 2 (by decide +kernel)) (dX (qac aM (qac aM (qac aM (qac aM (qac aM (qac aM (qac aM (qac aM (qac aM (qac aM (qac aM aF rfl) rfl) rfl) rfl) rfl) rfl) rfl) rfl) rfl) rfl) rfl))) (G.qtgt 2 (by decide +kernel)) rfl)
  (aN (G.qasgT (bC (qac (dX aF) (qac (dX aF) aF rfl) rfl)) (G.qtup (qgc (G.qtgt 3 (by decide +kernel)) (qgc (G.qtgt 4 (by decide +kernel)) pG rfl) rfl) rfl rfl) rfl (by kernel_rfl))
  (aV (bV (G.qf1 (by decide +kernel) G.fs.fr_tuple (by kernel_rfl) rfl G.ctupleW rfl (G.qlc [("_law_k",5)] [5] (by decide +kernel) (by rfl) (by rfl) rfl (G.qr1 (by decide +kernel) G.fs.fr_range rfl (G.qcal (by decide +kernel) G.fs.fn_law_draw dI rfl rfl (qac (G.qvar 0 (by decide +kernel)) (qac (aY G.oaddW (G.qvar 1 (by decide +kernel)) aG) aF rfl) rfl))) (fun X G => (G.qtgt 5 (by decide +kernel))) .nil (fun X G => (G.qcal (by decide +kernel) G.fs.fn_law_operator uM rfl rfl (qac (G.qvar 0 (by decide +kernel)) (qac (G.qvar 2 (by decide +kernel)) (qac (G.qvar 3 (by decide +kernel)) (qac (G.qvar 4 (by decide +kernel)) aF rfl) rfl) rfl) rfl))))))))))
theorem aB3 : FnScope qZ ["_law_thing"] (defScope gF) := ⟨rfl,rfl,rfl,by decide +kernel,rfl,by decide +kernel,by decide +kernel⟩
theorem aB6 {g : Gx} {k : Nat} {cl : Cll} (X : Cx) (Wx : WX) (G : Good FS g k cl qZ (defScope gF) (fun _ => true) X Wx) (hp : HP X) : QL g X Wx (defBody gF) (jO cl) :=
 (aN (eY (QW.te (iE (gN (qtv (G.qf2 (by decide +kernel) G.fs.fr_isinstance (by kernel_rfl) rfl G.cisiW rfl (G.qvar 0 (by decide +kernel)) (G.qtyp (by decide +kernel) G.fs.fr_tuple (by kernel_rfl))) rfl)) (iE (cE G.ogtW (G.qf1 (by decide +kernel) G.fs.fr_len (by kernel_rfl) rfl G.clenW rfl (G.qvar 0 (by decide +kernel))) aG (by rfl)) (lK (gN (qtv (G.qf1 (by decide +kernel) G.fs.fr_all (by kernel_rfl) rfl G.callW rfl (G.qlc [("_law_one",1)] [1] (by decide +kernel) (by rfl) (by rfl) rfl (G.qsie (G.qvar 0 (by decide +kernel))) (fun X G => (G.qtgt 1 (by decide +kernel))) .nil (fun X G => (G.qcal (by decide +kernel) G.fs.fn_is_operator oT rfl rfl (qac (G.qvar 1 (by decide +kernel)) aF rfl))))) rfl)))))) (aV (bV iV)) kD)
  (aN (bQ (dX aF) (G.qtgt 2 (by decide +kernel)) rfl)
  (aN (qsf hp.p G (G.qsie (G.qvar 0 (by decide +kernel))) (G.qtup (qgc (G.qtgt 3 (by decide +kernel)) (qgc (G.qtgt 4 (by decide +kernel)) pG rfl) rfl) rfl rfl) (aV (qse (G.qk1 aCE G.mextendW rfl (by decide +kernel) rfl (G.qvar 2 (by decide +kernel)) (G.qf1 (by decide +kernel) G.fs.fr_list (by kernel_rfl) rfl G.clistW rfl (G.qvar 4 (by decide +kernel)))) rfl)) rfl)
  (aN (bQ (dX aF) (G.qtgt 5 (by decide +kernel)) rfl)
  (aN (qsf hp.p G (G.qsie (G.qvar 0 (by decide +kernel))) (G.qtup (qgc (G.qtgt 3 (by decide +kernel)) (qgc (G.qtgt 4 (by decide +kernel)) pG rfl) rfl) rfl rfl) (aN (bQ (bC (qac (lJ G.oinW (G.qvar 3 (by decide +kernel)) (bC (qac aM (qac aM aF rfl) rfl)) (by rfl)) (qac (G.qix (G.qvar 4 (by decide +kernel)) aG rfl) aF rfl) rfl)) (G.qtgt 6 (by decide +kernel)) rfl)
  (aN (eY (QW.te (iE (cE G.oinW (G.qvar 6 (by decide +kernel)) (G.qvar 5 (by decide +kernel)) (by rfl)) (lK (qtv (G.qf1 (by decide +kernel) G.fs.fr_any (by kernel_rfl) rfl G.canyW rfl (G.qlc [("_law_word",7)] [7] (by decide +kernel) (by rfl) (by rfl) rfl (G.qsie (G.qsl (G.qvar 4 (by decide +kernel)) (iD aG) kY)) (fun X G => (G.qtgt 7 (by decide +kernel))) .nil (fun X G => (lJ G.oneW (G.qk1 aDM G.mcountW rfl (by decide +kernel) rfl (G.qvar 2 (by decide +kernel)) (G.qvar 7 (by decide +kernel))) aG (by rfl))))) rfl)))) (aV (bV iV)) kD)
  (aV (qse (G.qk1 eV G.mappendW rfl (by decide +kernel) rfl (G.qvar 5 (by decide +kernel)) (G.qvar 6 (by decide +kernel))) rfl)))) rfl)
  (aV (bV iV)))))))
theorem wQ : FnScope lQ ["_law_source_here","_law_operators_here"] (defScope dC) := ⟨rfl,rfl,rfl,by decide +kernel,rfl,by decide +kernel,by decide +kernel⟩
theorem wX {g : Gx} {k : Nat} {cl : Cll} (X : Cx) (Wx : WX) (G : Good FS g k cl lQ (defScope dC) (fun _ => true) X Wx) (hp : HP X) : QL g X Wx (defBody dC) (eP cl) :=
 (aN (G.qpar 2 3 (by decide +kernel) (by decide +kernel) (by decide) (qac (G.qf1 (by decide +kernel) G.fs.fr_list (by kernel_rfl) rfl G.clistW rfl (G.qvar 1 (by decide +kernel))) (qac (G.qcal (by decide +kernel) G.fs.fn_law_draw dI rfl rfl (qac (G.qvar 0 (by decide +kernel)) (qac aG aF rfl) rfl)) aF rfl) rfl) (by kernel_rfl))
  (aN (G.qpar 4 5 (by decide +kernel) (by decide +kernel) (by decide) (qac (G.qcal (by decide +kernel) G.fs.fn_law_draw dI rfl rfl (qac (G.qvar 0 (by decide +kernel)) (qac (G.qf1 (by decide +kernel) G.fs.fr_len (by kernel_rfl) rfl G.clenW rfl (G.qvar 2 (by decide +kernel))) aF rfl) rfl)) (qac (G.qcal (by decide +kernel) G.fs.fn_law_draw dI rfl rfl (qac (G.qvar 0 (by decide +kernel)) (qac (G.qf1 (by decide +kernel) G.fs.fr_len (by kernel_rfl) rfl G.clenW rfl (G.qvar 2 (by decide +kernel))) aF rfl) rfl)) aF rfl) rfl) (by kernel_rfl))
  (aN (aBi (G.qix (G.qvar 2 (by decide +kernel)) (G.qvar 4 (by decide +kernel)) rfl) (G.qtup (qgc (G.qtgt 6 (by decide +kernel)) (qgc (G.qtgt 7 (by decide +kernel)) pG rfl) rfl) rfl rfl) rfl rfl)
  (aN (eY (cE G.oeqW (G.qvar 3 (by decide +kernel)) aG (by rfl)) (aV (qse (G.qk1 eV G.mappendW rfl (by decide +kernel) rfl (G.qvar 2 (by decide +kernel)) (G.qix (G.qvar 2 (by decide +kernel)) (G.qvar 4 (by decide +kernel)) rfl)) rfl)) (aV (eY (cE G.oeqW (G.qvar 3 (by decide +kernel)) aG (by rfl)) (aV (qse (G.qk1 zK G.mpopAtW rfl (by decide +kernel) rfl (G.qvar 2 (by decide +kernel)) (G.qvar 4 (by decide +kernel))) rfl)) (aV (eY (cE G.oeqW (G.qvar 3 (by decide +kernel)) aG (by rfl)) (aV (G.qswp (bC (qac (G.qix (G.qvar 2 (by decide +kernel)) (G.qvar 5 (by decide +kernel)) rfl) (qac (G.qix (G.qvar 2 (by decide +kernel)) (G.qvar 4 (by decide +kernel)) rfl) aF rfl) rfl)) (G.qvar 2 (by decide +kernel)) (G.qvar 4 (by decide +kernel)) (G.qvar 2 (by decide +kernel)) (G.qvar 5 (by decide +kernel)) rfl rfl rfl (by kernel_rfl))) (aV (eY (cE G.oeqW (G.qvar 3 (by decide +kernel)) aG (by rfl)) (aV (G.qsub (bC (qac (G.qcal (by decide +kernel) G.fs.fn_law_pick fG rfl rfl (qac (G.qvar 0 (by decide +kernel)) (qac (dX (qac aM (qac aM (qac aM (qac aM aF rfl) rfl) rfl) rfl)) aF rfl) rfl)) (qac (G.qvar 7 (by decide +kernel)) aF rfl) rfl)) (G.qvar 2 (by decide +kernel)) (G.qvar 4 (by decide +kernel)) rfl rfl)) (aV (eY (cE G.oeqW (G.qvar 3 (by decide +kernel)) aG (by rfl)) (aN (bQ (G.qcal (by decide +kernel) G.fs.fn_law_draw dI rfl rfl (qac (G.qvar 0 (by decide +kernel)) (qac (G.qf1 (by decide +kernel) G.fs.fr_len (by kernel_rfl) rfl G.clenW rfl (G.qvar 7 (by decide +kernel))) aF rfl) rfl)) (G.qtgt 8 (by decide +kernel)) rfl)
  (aV (G.qsub (bC (qac (G.qvar 6 (by decide +kernel)) (qac (aY G.oaddW (aY G.oaddW (G.qsl (G.qvar 7 (by decide +kernel)) kY (iD (G.qvar 8 (by decide +kernel)))) (bC (qac (G.qcal (by decide +kernel) G.fs.fn_law_pick fG rfl rfl (qac (G.qvar 0 (by decide +kernel)) (qac (G.qf1 (by decide +kernel) G.fs.fr_list (by kernel_rfl) rfl G.clistW rfl (G.qix (G.qix (G.qvar 2 (by decide +kernel)) (G.qvar 5 (by decide +kernel)) rfl) aG rfl)) aF rfl) rfl)) aF rfl))) (G.qsl (G.qvar 7 (by decide +kernel)) (iD (aY G.oaddW (G.qvar 8 (by decide +kernel)) aG)) kY)) aF rfl) rfl)) (G.qvar 2 (by decide +kernel)) (G.qvar 4 (by decide +kernel)) rfl rfl))) (aV (eY (cE G.oeqW (G.qvar 3 (by decide +kernel)) aG (by rfl)) (aV (G.qsub (bC (qac (G.qvar 6 (by decide +kernel)) (qac (aY G.oaddW (aY G.oaddW (G.qsl (G.qvar 7 (by decide +kernel)) kY (iD aG)) (bC (qac (G.qcal (by decide +kernel) G.fs.fn_law_pick fG rfl rfl (qac (G.qvar 0 (by decide +kernel)) (qac (G.qf1 (by decide +kernel) G.fs.fr_list (by kernel_rfl) rfl G.clistW rfl (G.qix (G.qix (G.qvar 2 (by decide +kernel)) (G.qvar 5 (by decide +kernel)) rfl) aG rfl)) aF rfl) rfl)) aF rfl))) (G.qsl (G.qvar 7 (by decide +kernel)) (iD aG) (iD aG))) aF rfl) rfl)) (G.qvar 2 (by decide +kernel)) (G.qvar 4 (by decide +kernel)) rfl rfl)) (aV (G.qsub (G.qcal (by decide +kernel) G.fs.fn_law_pick fG rfl rfl (qac (G.qvar 0 (by decide +kernel)) (qac (dX (qac aCZ (qac (bC (qac (G.qvar 6 (by decide +kernel)) (qac (bC aF) aF rfl) rfl)) (qac (bC (qac (G.qvar 6 (by decide +kernel)) (qac (G.qf1 (by decide +kernel) G.fs.fr_list (by kernel_rfl) rfl G.clistW rfl (G.qvar 7 (by decide +kernel))) aF rfl) rfl)) (qac (dX (qac (G.qvar 6 (by decide +kernel)) (qac (G.qvar 7 (by decide +kernel)) aF rfl) rfl)) (qac aM aF rfl) rfl) rfl) rfl) rfl)) aF rfl) rfl)) (G.qvar 2 (by decide +kernel)) (G.qvar 4 (by decide +kernel)) rfl rfl)))))))))))))
  (aV (bV (G.qf1 (by decide +kernel) G.fs.fr_tuple (by kernel_rfl) rfl G.ctupleW rfl (G.qvar 2 (by decide +kernel)))))))))
theorem aAi : FnScope oH ["_law_source_here"] (defScope eF) := ⟨rfl,rfl,rfl,by decide +kernel,rfl,by decide +kernel,by decide +kernel⟩
theorem aAl {g : Gx} {k : Nat} {cl : Cll} (X : Cx) (Wx : WX) (G : Good FS g k cl oH (defScope eF) (fun _ => true) X Wx) (hp : HP X) : QL g X Wx (defBody eF) (gQ cl) :=
 (aN (bQ (G.qcal (by decide +kernel) G.fs.fn_law_operators tO rfl rfl (qac (G.qvar 0 (by decide +kernel)) (qac aG aF rfl) rfl)) (G.qtgt 1 (by decide +kernel)) rfl)
  (aN (bQ aM (G.qtgt 2 (by decide +kernel)) rfl)
  (aN (bQ (dX (qac (G.qvar 1 (by decide +kernel)) (qac (bC aF) (qac (dX aF) (qac aCZ (qac iV (qac aM (qac aG2 (qac (G.qf1 (by decide +kernel) G.fs.fr_list (by kernel_rfl) rfl G.clistW rfl (G.qvar 1 (by decide +kernel))) (qac (bC (qac (G.qvar 1 (by decide +kernel)) aF rfl)) aF rfl) rfl) rfl) rfl) rfl) rfl) rfl) rfl) rfl)) (G.qtgt 3 (by decide +kernel)) rfl)
  (aN (qse (G.qk1 eV G.mappendW rfl (by decide +kernel) rfl (G.qvar 3 (by decide +kernel)) (G.qf1 (by decide +kernel) G.fs.fr_tuple (by kernel_rfl) rfl G.ctupleW rfl (G.qlc [("_law_letter",4)] [4] (by decide +kernel) (by rfl) (by rfl) rfl (G.qsie (G.qsl (G.qvar 2 (by decide +kernel)) kY (iD aG))) (fun X G => (G.qtgt 4 (by decide +kernel))) .nil (fun X G => (bC (qac aM (qac (bC (qac (G.qvar 4 (by decide +kernel)) aF rfl)) aF rfl) rfl)))))) rfl)
  (aN (qse (G.qk1 eV G.mappendW rfl (by decide +kernel) rfl (G.qvar 3 (by decide +kernel)) (G.qf1 (by decide +kernel) G.fs.fr_tuple (by kernel_rfl) rfl G.ctupleW rfl (G.qlc [("_law_letter",4)] [4] (by decide +kernel) (by rfl) (by rfl) rfl (G.qsie (G.qvar 2 (by decide +kernel))) (fun X G => (G.qtgt 4 (by decide +kernel))) .nil (fun X G => (bC (qac aM (qac (bC (qac (G.qvar 4 (by decide +kernel)) aF rfl)) aF rfl) rfl)))))) rfl)
  (aN (qse (G.qk1 eV G.mappendW rfl (by decide +kernel) rfl (G.qvar 3 (by decide +kernel)) (bC (qac (bC (qac aM (qac (bC (qac aM aF rfl)) aF rfl) rfl)) (qac (bC (qac aM (qac (bC (qac aM aF rfl)) aF rfl) rfl)) (qac (bC (qac aM (qac (bC (qac aM (qac aM aF rfl) rfl)) aF rfl) rfl)) aF rfl) rfl) rfl))) rfl)
  (aN (qse (G.qk1 eV G.mappendW rfl (by decide +kernel) rfl (G.qvar 3 (by decide +kernel)) (bC (qac (bC (qac aM (qac (bC (qac aM aF rfl)) aF rfl) rfl)) (qac (bC (qac aM (qac (bC (qac aM aF rfl)) aF rfl) rfl)) (qac (bC (qac aM (qac (bC (qac aM (qac aM aF rfl) rfl)) aF rfl) rfl)) aF rfl) rfl) rfl))) rfl)
  (aN (qsf hp.p G (G.qr1 (by decide +kernel) G.fs.fr_range rfl (aY G.omulW aG (G.qf1 (by decide +kernel) G.fs.fr_int (by kernel_rfl) rfl G.cintW rfl (lJ G.oneW (G.qvar 1 (by decide +kernel)) (bC aF) (by rfl))))) (G.qtgt 5 (by decide +kernel)) (aV (qse (G.qk1 eV G.mappendW rfl (by decide +kernel) rfl (G.qvar 3 (by decide +kernel)) (G.qcal (by decide +kernel) G.fs.fn_law_changed vR rfl rfl (qac (G.qvar 0 (by decide +kernel)) (qac (G.qvar 1 (by decide +kernel)) aF rfl) rfl))) rfl)) rfl)
  (aN (qsf hp.p G (G.qsie (G.qvar 3 (by decide +kernel))) (G.qtgt 6 (by decide +kernel)) (aN (G.qpar 7 8 (by decide +kernel) (by decide +kernel) (by decide) (qac (G.qf1 (by decide +kernel) G.fs.fr_repr (by kernel_rfl) rfl G.creprX rfl (G.qvar 6 (by decide +kernel))) (qac (G.qf1 (by decide +kernel) G.fs.fr_repr (by kernel_rfl) rfl G.creprX rfl (G.qcal (by decide +kernel) G.fs.fn_law_due aBz rfl rfl (qac (G.qvar 6 (by decide +kernel)) aF rfl))) aF rfl) rfl) (by kernel_rfl))
  (aV (eY (QW.te (iE (cE G.oneW (G.qf1 (by decide +kernel) G.fs.fr_repr (by kernel_rfl) rfl G.creprX rfl (G.qcal (by decide +kernel) G.fs.fn_is_operator_list kI rfl rfl (qac (G.qvar 6 (by decide +kernel)) aF rfl))) (G.qvar 8 (by decide +kernel)) (by rfl)) (iE (cE G.oneW (G.qf1 (by decide +kernel) G.fs.fr_repr (by kernel_rfl) rfl G.creprX rfl (G.qcalK ["value"] [0] (by decide +kernel) G.fs.fn_is_operator_list oU rfl rfl rfl (qkc (G.qvar 6 (by decide +kernel)) aG3))) (G.qvar 8 (by decide +kernel)) (by rfl)) (lK (cE G.oneW (G.qf1 (by decide +kernel) G.fs.fr_repr (by kernel_rfl) rfl G.creprX rfl (G.qvar 6 (by decide +kernel))) (G.qvar 7 (by decide +kernel)) (by rfl)))))) (aV (bV iV)) kD))) rfl)
  (aV (bV (lJ G.oisW (G.qcal (by decide +kernel) G.fs.fn_is_operator_list kI rfl rfl (qac (G.qvar 1 (by decide +kernel)) aF rfl)) iV (by rfl)))))))))))))
theorem aC2 : FnScope xW ["_law_script"] (defScope oE) := ⟨rfl,rfl,rfl,by decide +kernel,rfl,by decide +kernel,by decide +kernel⟩
theorem aC6 {g : Gx} {k : Nat} {cl : Cll} (X : Cx) (Wx : WX) (G : Good FS g k cl xW (defScope oE) (fun _ => true) X Wx) (hp : HP X) : QL g X Wx (defBody oE) (sQ cl) :=
 (aV (bV (G.qf1 (by decide +kernel) G.fs.fr_all (by kernel_rfl) rfl G.callW rfl (G.qlc [("_law_k",1)] [1] (by decide +kernel) (by rfl) (by rfl) rfl (G.qr1 (by decide +kernel) G.fs.fr_range rfl (G.qf2 (by decide +kernel) G.fs.fr_max (by kernel_rfl) rfl G.cmaxW rfl aG (G.qf2 (by decide +kernel) G.fs.fr_min (by kernel_rfl) rfl G.cminW rfl (G.qf1 (by decide +kernel) G.fs.fr_len (by kernel_rfl) rfl G.clenW rfl (G.qvar 0 (by decide +kernel))) aG))) (fun X G => (G.qtgt 1 (by decide +kernel))) .nil (fun X G => (G.qcal (by decide +kernel) G.fs.fn_law_right yN rfl rfl (qac (G.qcal (by decide +kernel) G.fs.fn_law_source xS rfl rfl (qac (G.qvar 0 (by decide +kernel)) (qac (G.qvar 1 (by decide +kernel)) aF rfl) rfl)) aF rfl)))))))
/-- the plain law: what the defs compute is True -/
def xX : Prop := ∀ ns : List Int,ns.length <= 63 -> ∃ h,aW T 200 yD [.fl (ns.map D.int)] [] = .ok (.bl true) h
end LW
end
section
namespace LW
open PV PySem PySem.Spec PyProof.Rows L2
theorem oV (k : Nat) {h : Hh} {i c : Nat} {n : Int} (e : Sr h i c) (hn : 0 < n) (hn2 : n < 1073741824) (hc : c < 1000000000) :
  ∃ (r : Nat) (h' : Hh),(r : Int) < n /\ Sr h' i (c + 1) /\ Up [i] h h' /\ aW T (k + 1) aU [.ref i, .int n] h = .ok (.int r) h' := by
 obtain ⟨a,b,d,e,hd,hd2⟩ := e
 have hl := aH e
 have hs : ∀ x,(h.set i x)[i]? = some x := fun x => List.getElem?_set_self hl
 rw [jL (d := ⟨7,2,gG⟩) rfl]
 by_cases ha : 0 < a
 ·have z := Int.emod_nonneg a (b := n) (by omega)
  obtain ⟨r,er⟩ := Int.eq_ofNat_of_zero_le z
  refine ⟨r,h.set i (.lst [.int (a / n), .int b, .int d]),by rw [<- er]; exact Int.emod_lt_of_pos _ hn,⟨_,_,_,hs _,hd,by omega⟩, .set (by simp), ?_⟩
  simp [gG,bH,ixW,asL,asT,atI,ixN,e,ha,hn,hn2,kG,dE,D.isTl,er]
 ·have m1 : CMul 15485863 (d + 1) := xZ (by decide) (by decide)
  have m2 : CMul 32452867 (d + 1) := xZ (by decide) (by decide)
  have m3 : CMul 6700417 (d + 1) := xZ (by decide) (by decide)
  have m4 : ∀ z : Int,CMul z (b % 7919 + 32452867 * (d + 1) + 29) := fun z => by
   have := Int.emod_nonneg b (b := 7919) (by decide)
   have := Int.emod_lt_of_pos b (b := 7919) (by decide)
   exact yA (by omega) (by omega)
  have m5 : ∀ y z : Int,CMul z (y % 1000003 + 6700417 * (d + 1) + 5) := fun y z => by
   have := Int.emod_nonneg y (b := 1000003) (by decide)
   have := Int.emod_lt_of_pos y (b := 1000003) (by decide)
   exact yA (by omega) (by omega)
  have key : ∃ y : Int,gK (gG (aW T k) (bH 7 [.ref i, .int n]) h) = .ok (.int (y % n)) (h.set i (.lst [.int a, .int b, .int (d + 1)])) := by
   refine ⟨?_, ?e⟩
   case e =>
    simp [gG,bH,ixW,asL,asT,atI,ixN,e,ha,hn,hn2,kG,dE,D.isTl,m1,m2,m3,m4,m5,hs]
    rfl
  obtain ⟨y,ey⟩ := key
  have z := Int.emod_nonneg y (b := n) (by omega)
  obtain ⟨r,er⟩ := Int.eq_ofNat_of_zero_le z
  refine ⟨r,h.set i (.lst [.int a, .int b, .int (d + 1)]),by rw [<- er]; exact Int.emod_lt_of_pos _ hn,⟨_,_,_,hs _,by omega,by omega⟩, .set (by simp), ?_⟩
  simp only [List.length_cons,List.length_nil,if_true]
  rw [ey,er]
theorem aGh (k : Nat) {h : Hh} {i j c : Nat} {ws : List D} (e : Sr h i c) (ej : h[j]? = some (.lst ws)) (hij : j ≠ i) (h0 : 0 < ws.length) (h1 : ws.length < 1073741824) (hc : c < 1000000000) :
  ∃ (r : Nat) (h' : Hh) (hr : r < ws.length),Sr h' i (c + 1) /\ Up [i] h h' /\ aW T (k + 2) aZ [.ref i, .ref j] h = .ok ws[r] h' := by
 obtain ⟨r,h',r1,es,u,ed⟩ := oV k (n := (ws.length : Int)) e (by omega) (by omega) hc
 have hlt : r < ws.length := by omega
 refine ⟨r,h',hlt,es,u, ?_⟩
 rw [jL (d := ⟨2,2,eU⟩) rfl]
 have e2 : h'[j]? = some (.lst ws) := u.get ej (by simpa using hij)
 have e3 : ixW (.ref j) (.int (r : Int)) h' = .ok ws[r] h' := aGA e2 (by simp [List.getElem?_eq_getElem hlt])
 simp [eU,bH,tU ej,ed,e3,u.len]
/-- a pick from a list just written -/
theorem zO (k : Nat) {h : Hh} {i c : Nat} {ws : List D} (e : Sr h i c) (h0 : 0 < ws.length) (h1 : ws.length < 1073741824) (hc : c < 1000000000) (hw : ∀ w ∈ ws,∀ n,w.lim n = true) :
  ∃ (w : D) (h' : Hh),w ∈ ws /\ Sr h' i (c + 1) /\ Up [i] h h' /\ gcR h (aW T (k + 2) aZ [.ref i, .ref h.length] (h ++ [.lst ws])) = .ok w h' := by
 obtain ⟨r,h',hr,es,u,ep⟩ := aGh k (j := h.length) (ws := ws) (e.app (e := [.lst ws])) aDi (by have := e.lt; omega) h0 h1 hc
 refine ⟨ws[r],h'.take h.length,List.getElem_mem hr,es.cut e.lt,u.cut, ?_⟩
 rw [ep,aFf u es (hw _ (List.getElem_mem hr) _)]
end LW
end
section
namespace LW
open PV PySem PySem.Spec PyProof.Rows L2
theorem aE0 (k : Nat) {h : Hh} {i p c n : Nat} {pool : List Str} (e : Sr h i c) (ep : h[p]? = some (.lst (pool.map .str))) (hip : p ≠ i) (hn : n <= pool.length) (hl : pool.length < 1000000) (hc : c + n < 1000000000) :
  ∃ (ws pool' : List Str) (h' : Hh),ws.length = n /\ pool.Perm (ws ++ pool') /\ Sr h' i (c + n) /\ h'[p]? = some (.lst (pool'.map .str)) /\ Up [i,p] h h' /\ aW T (k + 2) oO [.ref i, .int n, .ref p] h = .ok (.tup (ws.map .str)) h' := by
 rw [jL (d := ⟨4,3,iN⟩) rfl]
 have hlt := aH ep
 obtain ⟨acc,h',e1,hlen,ws,pool',rfl,hw,hp,hs,hpc,u⟩ := aCz (mi := kP (mV 1)) (t := .nm 3) (me := mM1 (on1 "list" eW) (mV 2) (bA (aW T (k + 1)) aU (aB [mV 0,mF1 cG (mV 2)]))) (vs := [3]) (σ := [some (.ref i),some (.int n),some (.ref p),none]) (h := h) (h1 := h) (src := qP 0 n) (ws := (List.range n).map fun (i : Nat) => D.int (0 + (i : Nat)))
  (fun j acc h' => ∃ ws pool',acc = ws.map D.str /\ ws.length = j /\ pool.Perm (ws ++ pool') /\ Sr h' i (c + j) /\ h'[p]? = some (.lst (pool'.map .str)) /\ Up [i,p] h h') (tY (by simp) (by omega)) (fun j acc h' _ => sY j) (by simp [sizeLine]; omega)
  ⟨[],pool,rfl,rfl, .refl _,e,ep, .rfl'⟩ (by
   rintro j w acc h' ⟨ws,pool',rfl,hw,hp,hs,hpc,u⟩ _ ej
   have hj := aH ej
   simp at hj
   have hll := hp.length_eq
   simp only [List.length_append] at hll
   obtain ⟨r,h2,r1,es,u2,ed⟩ := oV k (n := (pool'.length : Int)) hs (by omega) (by omega) (by omega)
   have hr : r < pool'.length := by omega
   have e2 : h2[p]? = some (.lst (pool'.map .str)) := u2.get hpc (by simpa using hip)
   have hp2 := aH e2
   refine ⟨_, .str pool'[r],h2.set p (.lst ((pool'.eraseIdx r).map .str)),rfl, ?_,ws ++ [pool'[r]],pool'.eraseIdx r,by simp,by simp [hw], ?_, ?_,pM hp2, ?_⟩
   ·rw [aIv (p := p) (ws := pool'.map .str) (h1 := h') (by simp [dM]) hpc]
    have := xL (r := r) e2 (by simpa using hr) (by simp; omega)
    simp [dM,tU hpc,ed,u2.len,this,lV]
   ·refine hp.trans ?_
    rw [List.append_assoc]
    exact (pZ hr).append_left ws
   ·exact (es.up (Up.set (is := [p]) (by simp)) (by simpa using fun z => hip z.symm)).mono (by omega)
   ·exact u.trans ((u2.mono (by simp)).trans (.set (by simp)))
   )
 refine ⟨ws,pool',h',hw.trans (by simp),hp,by simpa using hs,hpc,u, ?_⟩
 simp [iN,bH,e1]
end LW
end
section
namespace LW
open PV PySem PySem.Spec PyProof.Rows L2
theorem aBB (k : Nat) {h : Hh} {i p s f c : Nat} {pool st fo : List Str} {ops : List Opr} (I : OpI pool (fun b => if b = true then st else fo) ops) (e : Sr h i c) (ep : h[p]? = some (.lst (pool.map .str))) (es : h[s]? = some (.lst (st.map .str))) (ef : h[f]? = some (.lst (fo.map .str)))
  (hd : [i,p,s,f].Nodup) (hl : 3 <= pool.length) (hl2 : pool.length < 1000) (hst : st.length < 1000) (hfo : fo.length < 1000) (hc : c + 7 < 1000000000) :
  ∃ (o : Opr) (pool' st' fo' : List Str) (h' : Hh),OpI pool' (fun b => if b = true then st' else fo') (ops ++ [o]) /\ pool.length <= pool'.length + 3 /\ pool'.length <= pool.length /\ st'.length <= st.length + 1 /\ fo'.length <= fo.length + 1 /\ Sr h' i (c + 7) /\ h'[p]? = some (.lst (pool'.map .str)) /\ h'[s]? = some (.lst (st'.map .str)) /\ h'[f]? = some (.lst (fo'.map .str)) /\ Up [i,p,s,f] h h' /\ aW T (k + 3) fS [.ref i, .ref p, .ref s, .ref f] h = .ok o.enc h' := by
 obtain ⟨hip,his,hif,hps,hpf,hsf⟩ : i ≠ p /\ i ≠ s /\ i ≠ f /\ p ≠ s /\ p ≠ f /\ s ≠ f := by simpa [and_assoc] using hd
 rw [jL (d := ⟨8,4,cP⟩) rfl]
 -- the kind
 obtain ⟨w1,h1,hw1,e1,u1,q1⟩ := zO k (ws := [.str "infix", .str "infix", .str "infix", .str "prefix", .str "prefix", .str "postfix", .str "closed"]) e (by decide) (by decide) (by omega) (fun w hw n => by
  simp at hw; rcases hw with rfl | rfl | rfl | rfl <;> rfl)
 obtain ⟨kd,rfl,hkd⟩ : ∃ kd,w1 = D.str kd /\ kd ∈ kinds := by
  simp at hw1; rcases hw1 with rfl | rfl | rfl | rfl
  ·exact ⟨_,rfl,by decide +kernel⟩
  ·exact ⟨_,rfl,by decide +kernel⟩
  ·exact ⟨_,rfl,by decide +kernel⟩
  ·exact ⟨_,rfl,by decide +kernel⟩
 have ep1 := u1.get ep (by simpa using fun z => hip z.symm)
 have es1 := u1.get es (by simpa using fun z => his z.symm)
 have ef1 := u1.get ef (by simpa using fun z => hif z.symm)
 -- how many words
 have heq : ∀ h,eqW (.str kd) (.str "closed") h = .ok (.bl (decide (kd = "closed"))) h := fun h => sF
 generalize hcb : decide (kd = "closed") = cb at heq
 obtain ⟨n,h2,hn1,hn3,hn2,e2,u2,q2⟩ : ∃ (n : Nat) (h2 : Hh),1 <= n /\ n <= 3 /\ (kd = "closed" -> 2 <= n) /\ Sr h2 i (c + 2) /\ Up [i] h1 h2 /\ (if cb = true then gcR h1 (aW T (k + 2) aZ [.ref i, .ref h1.length] (h1 ++ [.lst [.int 2, .int 2, .int 3]])) else gcR h1 (aW T (k + 2) aZ [.ref i, .ref h1.length] (h1 ++ [.lst [.int 1, .int 1, .int 1, .int 1, .int 2, .int 3]]))) = .ok (.int n) h2 := by
  by_cases hk : cb = true
  ·obtain ⟨w,h2,hw,e2,u2,q2⟩ := zO k (ws := [.int 2, .int 2, .int 3]) e1 (by decide) (by decide) (by omega) (fun w hw n => by
    simp at hw; rcases hw with rfl | rfl <;> rfl)
   simp at hw
   rcases hw with rfl | rfl
   ·exact ⟨2,h2,by omega,by omega,fun _ => by omega,e2,u2,by rw [if_pos hk]; exact q2⟩
   ·exact ⟨3,h2,by omega,by omega,fun _ => by omega,e2,u2,by rw [if_pos hk]; exact q2⟩
  ·obtain ⟨w,h2,hw,e2,u2,q2⟩ := zO k (ws := [.int 1, .int 1, .int 1, .int 1, .int 2, .int 3]) e1 (by decide) (by decide) (by omega) (fun w hw n => by
    simp at hw; rcases hw with rfl | rfl | rfl <;> rfl)
   simp at hw
   rcases hw with rfl | rfl | rfl
   ·exact ⟨1,h2,by omega,by omega,fun z => absurd (by rw [<- hcb,z]; exact decide_eq_true rfl) hk,e2,u2,by rw [if_neg hk]; exact q2⟩
   ·exact ⟨2,h2,by omega,by omega,fun z => absurd (by rw [<- hcb,z]; exact decide_eq_true rfl) hk,e2,u2,by rw [if_neg hk]; exact q2⟩
   ·exact ⟨3,h2,by omega,by omega,fun z => absurd (by rw [<- hcb,z]; exact decide_eq_true rfl) hk,e2,u2,by rw [if_neg hk]; exact q2⟩
 have ep2 := u2.get ep1 (by simpa using fun z => hip z.symm)
 have es2 := u2.get es1 (by simpa using fun z => his z.symm)
 have ef2 := u2.get ef1 (by simpa using fun z => hif z.symm)
 -- the words
 obtain ⟨ws,pool',h3,hwl,pm,e3,ep3,u3,q3⟩ := aE0 k (n := n) e2 ep2 (fun z => hip z.symm) (by omega) (by omega) (by omega)
 have es3 := u3.get es2 (by simpa using ⟨fun z => his z.symm,fun z => hps z.symm⟩)
 have ef3 := u3.get ef2 (by simpa using ⟨fun z => hif z.symm,fun z => hpf z.symm⟩)
 have pl := pm.length_eq
 rw [List.length_append] at pl
 obtain ⟨x,r,rfl⟩ : ∃ x r,ws = x :: r := by
  cases ws with
  | nil => simp at hwl; omega
  | cons x r => exact ⟨x,r,rfl⟩
 have q3' := oZ u3 (w := .tup ((x :: r).map .str)) (by simp)
 simp only [List.map_cons] at q3 q3'
 have hin : ∀ h3,_ := fun h3 => aDB (h := h3) (x := kd) (ss := [("prefix" : Str),"closed"]) (jB kd hkd) (by decide +kernel)
 simp only [List.map_cons,List.map_nil] at hin
 have wi := (I.split pm).2.2.2.1
 have pw0 : ∀ y ∈ x :: r,y ∈ mK := fun y hy => y0 (I.p0 y (wi y hy))
 have sto : ∀ y ∈ st,y ∈ mK := fun y hy => by
  obtain ⟨o,ho,hw⟩ := lF (I.si true y (by simpa using hy)); exact (I.oo.ok o ho).w0 y hw
 have foo : ∀ y ∈ fo,y ∈ mK := fun y hy => by
  obtain ⟨o,ho,hw⟩ := lF (I.si false y (by simpa using hy)); exact (I.oo.ok o ho).w0 y hw
 generalize hS : decide (kd ∈ [("prefix" : Str),"closed"]) = S at hin
 have okO : ∀ y,y ∈ mK -> OprOk ⟨kd,y :: r⟩ := fun y hy => ⟨hkd,by simp,by simp at hwl ⊢; omega,fun z => by have := hn2 z; simp at hwl ⊢; omega,fun z hz => by
  rcases List.mem_cons.mp hz with hz | hz
  ·rw [hz]; exact hy
  ·exact pw0 z (by simp [hz])⟩
 have SS : ∀ y,Opr.S ⟨kd,y :: r⟩ = S := fun y => hS
 -- the words of the other role
 obtain ⟨g,shl,hg,esh,shok,hgi,hgp⟩ : ∃ (g : Nat) (shl : List Str),g = (if S = true then f else s) /\ h3[g]? = some (.lst (shl.map .str)) /\ shl = (if S = true then fo else st) /\ g ≠ i /\ g ≠ p := by
  cases S
  ·exact ⟨s,st,rfl,es3,rfl,fun z => his z.symm,fun z => hps z.symm⟩
  ·exact ⟨f,fo,rfl,ef3,rfl,fun z => hif z.symm,fun z => hpf z.symm⟩
 have sh0 : ∀ y ∈ shl,y ∈ mK := by rw [shok]; split <;> assumption
 have hne := aFr esh fun y hy => zS y (sh0 y hy)
 have shl2 : shl.length < 1000 := by rw [shok]; split <;> assumption
 have hp' : p ∉ [i] := by simpa using fun z => hip z.symm
 have u03 : Up [i,p,s,f] h h3 := (u1.mono (by simp)).trans ((u2.mono (by simp)).trans (u3.mono (by simp)))
 have app : ∀ h4,Sr h4 i (c + 7) -> h4[p]? = some (.lst (pool'.map .str)) -> h4[s]? = some (.lst (st.map .str)) -> h4[f]? = some (.lst (fo.map .str)) -> Up [i,p,s,f] h h4 ->
   ∃ (st' fo' : List Str) (h' : Hh),OpI pool' (fun b => if b = true then st' else fo') (ops ++ [⟨kd,x :: r⟩]) /\ st'.length <= st.length + 1 /\ fo'.length <= fo.length + 1 /\ Sr h' i (c + 7) /\ h'[p]? = some (.lst (pool'.map .str)) /\ h'[s]? = some (.lst (st'.map .str)) /\ h'[f]? = some (.lst (fo'.map .str)) /\ Up [i,p,s,f] h h' /\ (if S = true then cL (.ref s) (.str x) h4 else cL (.ref f) (.str x) h4) = .ok .non h' := by
  intro h4 e4 ep4 es4 ef4 u4
  have I4 := I.add pm (okO x (pw0 x (by simp)))
  rw [SS x] at I4
  cases S with
  | true =>
   refine ⟨st ++ [x],fo,h4.set s (.lst ((st ++ [x]).map .str)), ?_,by simp,by simp,e4.up (Up.set (is := [s]) (by simp)) (by simpa using his),by rw [fD (fun z => hps z.symm)]; exact ep4,pM (aH es4),by rw [fD hsf]; exact ef4,u4.trans (.set (by simp)), ?_⟩
   ·exact I4.congr fun b => by cases b <;> rfl
   ·rw [if_pos rfl,uL es4 (by simp [sizeLine]; omega) rfl]
    simp
  | false =>
   refine ⟨st,fo ++ [x],h4.set f (.lst ((fo ++ [x]).map .str)), ?_,by simp,by simp,e4.up (Up.set (is := [f]) (by simp)) (by simpa using hif),by rw [fD (fun z => hpf z.symm)]; exact ep4,by rw [fD (fun z => hsf z.symm)]; exact es4,pM (aH ef4),u4.trans (.set (by simp)), ?_⟩
   ·exact I4.congr fun b => by cases b <;> rfl
   ·rw [if_neg (by simp),uL ef4 (by simp [sizeLine]; omega) rfl]
    simp
 have hgi' : ∀ h : Hh,(if S = true then R.ok (D.ref f) h else R.ok (D.ref s) h) = R.ok (D.ref g) h := fun h => by rw [hg]; cases S <;> rfl
 by_cases hemp : shl = []
 ·obtain ⟨st',fo',h',I',l1,l2,e',ep',es',ef',u',q'⟩ := app h3 (e3.mono (by omega)) ep3 es3 ef3 u03
  refine ⟨⟨kd,x :: r⟩,pool',st',fo',h',I',by simp at pl hwl; omega,by omega,l1,l2,e',ep',es',ef',u', ?_⟩
  have tm : tyM h3 (.ref s) = some "list" := mU es3
  have tf : tyM h3 (.ref f) = some "list" := mU ef3
  simp [-sF,cP,bH,heq,q1,q2,q3,q3',hin,hne,hemp,hgi']
  cases S
  ·simp at q'
   simp [q',tf,Opr.enc]
  ·simp at q'
   simp [q',tm,Opr.enc]
 ·obtain ⟨d4,h4,hd4,e4,u4,q4⟩ := oV (k + 1) (n := 4) e3 (by decide) (by decide) (by omega)
  have ep4 := u4.get ep3 hp'
  have es4 := u4.get es3 (by simpa using fun z => his z.symm)
  have ef4 := u4.get ef3 (by simpa using fun z => hif z.symm)
  have u04 : Up [i,p,s,f] h h4 := u03.trans (u4.mono (by simp))
  have q4' := oZ u4 (w := .int d4) (by simp)
  have heq2 : ∀ h,eqW (.int d4) (.int 0) h = .ok (.bl (decide (d4 = 0))) h := fun h => by rw [aFa]; simp
  generalize hz : decide (d4 = 0) = z4 at heq2
  cases z4 with
  | false =>
   obtain ⟨st',fo',h',I',l1,l2,e',ep',es',ef',u',q'⟩ := app h4 (e4.mono (by omega)) ep4 es4 ef4 u04
   refine ⟨⟨kd,x :: r⟩,pool',st',fo',h',I',by simp at pl hwl; omega,by omega,l1,l2,e',ep',es',ef',u', ?_⟩
   have tm : tyM h4 (.ref s) = some "list" := mU es4
   have tf : tyM h4 (.ref f) = some "list" := mU ef4
   simp [-sF,cP,bH,heq,q1,q2,q3,q3',hin,hne,hemp,hgi',q4,q4',heq2]
   cases S
   ·simp at q'
    simp [q',tf,Opr.enc,hin]
   ·simp at q'
    simp [q',tm,Opr.enc,hin]
  | true =>
   have sh4 := u4.get esh (by simpa using hgi)
   obtain ⟨d5,h5,hd5,e5,u5,q5⟩ := oV (k + 1) (n := (shl.length : Int)) e4 (by have := List.length_pos_iff.mpr hemp; omega) (by omega) (by omega)
   have hd5' : d5 < shl.length := by omega
   have sh5 := u5.get sh4 (by simpa using hgi)
   have q5' := oZ u5 (w := .int d5) (by simp)
   have pq := xL (r := d5) sh5 (by simpa using hd5') (by simp; omega)
   have tg : tyM h4 (.ref g) = some "list" := mU sh4
   have I5 := I.share (x := shl[d5]) (z := x) (rest := shl.eraseIdx d5) pm (okO _ (sh0 _ (List.getElem_mem _))) (by
    rw [SS]
    have e0 : (if (!S) = true then st else fo) = shl := by rw [shok]; cases S <;> rfl
    show (if (!S) = true then st else fo).Perm _
    rw [e0]
    exact pZ hd5')
   rw [SS] at I5
   have hin5 : ∀ h3,inW (D.str kd) (D.tup [D.str "prefix",D.str "closed"]) h3 = R.ok (D.bl S) h3 := hin
   have fin : aW T (k + 3) fS [.ref i, .ref p, .ref s, .ref f] h = .ok (Opr.enc ⟨kd,shl[d5] :: r⟩) (h5.set g (.lst ((shl.eraseIdx d5).map .str))) := by
    rw [jL (d := ⟨8,4,cP⟩) rfl]
    simp [-sF,cP,bH,heq,q1,q2,q3,q3',hin,hne,hemp,hgi',q4,q4',heq2,tg,q5,q5',tU sh4,pq,lV]
    have hr3 : r.length <= 3 := by simp at hwl; omega
    simp [aI6,aF8 (xs := [D.str shl[d5]]) (ys := r.map .str) (by simp; omega),Opr.enc]
   have g5 : g = s \/ g = f := by rw [hg]; cases S <;> simp
   have u05 : Up [i,p,s,f] h (h5.set g (.lst ((shl.eraseIdx d5).map .str))) := u04.trans ((u5.mono (by simp)).trans (.set (by rcases g5 with z | z <;> simp [z])))
   have e5' : Sr (h5.set g (.lst ((shl.eraseIdx d5).map .str))) i (c + 7) := (e5.up (Up.set (is := [g]) (by simp)) (by simpa using fun z => hgi z.symm)).mono (by omega)
   have ep5 := u5.get ep4 hp'
   have es5 := u5.get es4 (by simpa using fun z => his z.symm)
   have ef5 := u5.get ef4 (by simpa using fun z => hif z.symm)
   have ll : (shl.eraseIdx d5).length <= shl.length := by rw [List.length_eraseIdx]; split <;> omega
   cases S with
   | true =>
    have hg' : g = f := hg
    have sk' : shl = fo := shok
    refine ⟨⟨kd,shl[d5] :: r⟩,pool',st,shl.eraseIdx d5,_, ?_,by simp at pl hwl; omega,by omega,by omega,by rw [<- sk']; omega,e5', ?_, ?_, ?_,u05,fin⟩
    ·exact I5.congr fun b => by cases b <;> rfl
    ·rw [fD hgp]; exact ep5
    ·rw [hg',fD (fun z => hsf z.symm)]; exact es5
    ·rw [<- hg']; exact pM (aH sh5)
   | false =>
    have hg' : g = s := hg
    have sk' : shl = st := shok
    refine ⟨⟨kd,shl[d5] :: r⟩,pool',shl.eraseIdx d5,fo,_, ?_,by simp at pl hwl; omega,by omega,by rw [<- sk']; omega,by omega,e5', ?_, ?_, ?_,u05,fin⟩
    ·exact I5.congr fun b => by cases b <;> rfl
    ·rw [fD hgp]; exact ep5
    ·rw [<- hg']; exact pM (aH sh5)
    ·rw [hg',fD hsf]; exact ef5
end LW
end
section
namespace LW
open PV PySem PySem.Spec PyProof.Rows L2
theorem yP (k : Nat) {h : Hh} {i c most : Nat} (e : Sr h i c) (hm : most <= 12) (hc : c + 100 < 1000000000) :
  ∃ (ops : List Opr) (h' : Hh),(∀ o ∈ ops,∀ x ∈ o.words,x ∈ gU) /\ OpsOk ops /\ ops.length <= most /\ Sr h' i (c + 100) /\ Ux [i] h h' /\ aW T (k + 4) cW [.ref i, .int most] h = .ok (.tup (ops.map Opr.enc)) h' := by
 rw [jL (d := ⟨6,2,eR⟩) rfl]
 have el := e.lt
 generalize hB : h ++ [Cl.lst (((iR ++ iT) ++ mL).map .str), .lst (gU.map .str), .lst [], .lst []] = B
 have lB : B.length = h.length + 4 := by rw [<- hB]; simp
 have eB : Sr B i c := by rw [<- hB]; exact e.app
 have eBp : B[h.length + 1]? = some (.lst (gU.map .str)) := by rw [<- hB]; exact aDj
 have eBs : B[h.length + 2]? = some (.lst []) := by rw [<- hB]; exact aCg
 have eBf : B[h.length + 3]? = some (.lst []) := by rw [<- hB]; simp [List.getElem?_append_right]
 obtain ⟨n,h1,hn,e1,u1,q1⟩ := oV (k + 2) (n := (most : Int) + 1) eB (by omega) (by omega) (by omega)
 have q1' := oZ u1 (w := .int n) (by simp)
 have ep1 := u1.get eBp (by simp; omega)
 have es1 := u1.get eBs (by simp; omega)
 have ef1 := u1.get eBf (by simp; omega)
 have l1 := u1.len
 obtain ⟨acc,h2,q2,hlen,ops,pool,st,fo,rfl,hol,I,hpl,hpl2,hst,hfo,e2,ep2,es2,ef2,u2⟩ := aCz (mi := kP (bA (aW T (k + 3)) aU (aB [(mV 0),(mOp cM (mV 1) (mC (.int 1)))]))) (t := .nm 5) (me := bA (aW T (k + 3)) fS (aB [(mV 0),(mV 2),(mV 3),(mV 4)])) (vs := [5])
  (σ := [some (.ref i),some (.int most),some (.ref (h.length + 1)),some (.ref (h.length + 2)),some (.ref (h.length + 3)),none]) (h := B) (h1 := h1) (src := qP 0 n) (ws := (List.range n).map fun (i : Nat) => D.int (0 + (i : Nat)))
  (fun j acc h' => ∃ ops pool st fo,acc = ops.map Opr.enc /\ ops.length = j /\ OpI pool (fun b => if b = true then st else fo) ops /\ 44 <= pool.length + 3 * j /\ pool.length <= 44 /\ st.length <= j /\ fo.length <= j /\ Sr h' i (c + 1 + 7 * j) /\ h'[h.length + 1]? = some (.lst (pool.map .str)) /\ h'[h.length + 2]? = some (.lst (st.map .str)) /\ h'[h.length + 3]? = some (.lst (fo.map .str)) /\ Up [i,h.length + 1,h.length + 2,h.length + 3] h1 h')
  (tY (by simp [q1,q1']) (by omega)) (fun j acc h' _ => sY j) (by simp only [List.length_map,List.length_range]; exact szl (by omega))
  ⟨[],gU,[],[],rfl,rfl,OpI.start.congr fun b => by cases b <;> rfl,by decide,by decide,by simp,by simp,e1,ep1,es1,ef1, .rfl'⟩ (by
   rintro j w acc h' ⟨ops,pool,st,fo,rfl,hol,I,hpl,hpl2,hst,hfo,e2,ep2,es2,ef2,u2⟩ _ ej
   have hj := aH ej
   simp at hj
   obtain ⟨o,pool',st',fo',h3,I3,hp3,hp3',hst3,hfo3,e3,ep3,es3,ef3,u3,q3⟩ := aBB k I e2 ep2 es2 ef2 (by simp; omega) (by omega) (by omega) (by omega) (by omega) (by omega)
   have q3' := oZ u3 (w := o.enc) o.enc_lim
   refine ⟨_,o.enc,h3,rfl, ?_,ops ++ [o],pool',st',fo',by simp,by simp [hol],I3,by omega,by omega,by omega,by omega,e3.mono (by omega),ep3,es3,ef3,u2.trans u3⟩
   simp [dM,q3,q3'])
 simp only [List.length_map,List.length_range] at hol hpl hst hfo e2 q2
 refine ⟨ops,h2,I.wy,I.oo,by omega,e2.mono (by omega), ?_, ?_⟩
 ·have ub : Ux [i] h B := by rw [<- hB]; exact .app
  refine ⟨by have := u2.len; omega,fun j hj hm => ?_⟩
  rw [u2.same j (by simp at hm ⊢; omega),u1.same j hm,ub.same j hj hm]
 ·have elist : ∀ h : Hh,fJ (.str "!\u0023$&*+,-./:;<=>?\u0040[]^_{|}~") h = .ok (.tl ((iR ++ iT).map .str)) h := fun h => by rfl
  have a1 : ∀ h : Hh,cM (.tl ((iR ++ iT).map .str)) (.tl [D.str "if",D.str "then",D.str "else",D.str "and",D.str "or",D.str "not",D.str "is",D.str "z9"]) h = .ok (.tl (((iR ++ iT) ++ mL).map .str)) h := fun h => by rfl
  have a2 : ∀ h : Hh,cM (.ref h.length) (.tl [D.str "--",D.str "**",D.str "lengthy8",D.str "of",D.str "in",D.str "to",D.str "by",D.str "=>",D.str "((",D.str "f(",D.str ")x"]) (h ++ [.lst (((iR ++ iT) ++ mL).map .str)]) = .ok (.tl (gU.map .str)) (h ++ [.lst (((iR ++ iT) ++ mL).map .str)]) := fun h => by
   have eh : (h ++ [Cl.lst (((iR ++ iT) ++ mL).map .str)])[h.length]? = some (Cl.lst (((iR ++ iT) ++ mL).map .str)) := by simp
   have l0 : ((((iR ++ iT) ++ mL).map D.str).length + [D.str "--",D.str "**",D.str "lengthy8",D.str "of",D.str "in",D.str "to",D.str "by",D.str "=>",D.str "((",D.str "f(",D.str ")x"].length <= sizeLine) := sz (by decide)
   simp only [cM,asT,asM,eh,l0,if_true]
   rfl
  generalize (iR ++ iT).map D.str = L1 at elist a1
  generalize ((iR ++ iT) ++ mL).map D.str = L2 at a1 a2 hB
  generalize gU.map D.str = L3 at a2 hB
  simp [eR,bH,elist,a1,a2,hB,q2]
end LW
end
section
namespace LW
open PV PySem PySem.Spec PyProof.Rows L2
theorem aDl (k : Nat) {h : Hh} {ns : List Int} {j : Nat} (hj : j <= 3) : ∃ a b : Int,aW T (k + 1) jY [.fl (ns.map .int), .int j] h = .ok (.tl [.int a, .int b, .int 0]) h := by
 rw [jL (d := ⟨4,2,hG⟩) rfl]
 obtain ⟨z,hz,ez,y,hy,ey⟩ := aIN (h := h)
 have m1 : ∀ x : Int,CMul x 1000003 := fun x => yA (by decide) (by decide)
 have m2 : ∀ x : Int,CMul 7919 x := fun x => xZ (by decide) (by decide)
 have m3 : ∀ x : Int,CMul x (j : Int) := fun x => yA (by omega) (by omega)
 obtain ⟨cell,ec⟩ : ∃ cell : Int,(if j < ns.length then ixW (.fl (ns.map .int)) (.int j) h else .ok (.int 0) h) = .ok (.int cell) h := by
  split
  ·rename_i hl
   refine ⟨ns[j],aGy (by simp [hl])⟩
  ·exact ⟨0,rfl⟩
 obtain ⟨ab,eab⟩ : ∃ ab : Int,∀ h,tL (.int cell) h = .ok (.int ab) h := ⟨_,fun h => rfl⟩
 obtain ⟨d,ed⟩ : ∃ d : Int,(if 1000000000000000000 <= ab then R.ok (D.int (ab % y)) h else .ok (.int 0) h) = .ok (.int d) h := by
  split
  ·exact ⟨_,rfl⟩
  ·exact ⟨_,rfl⟩
 refine ⟨d,(cell % 2305843009213693951 * 1000003 + 7919 * j * j + 97) % 2305843009213693921, ?_⟩
 simp [-aF7,hG,bH,ec,eab,aIM,ez,ey,hy,ed,m1,m2,m3]
end LW
end
section
namespace LW
open PV PySem PySem.Spec PyProof.Rows L2
def iU (_ : Nat) : List Q -> Pm Q
 | [.src, .int n] => fun K c => (0 < n /\ n < 1073741824 /\ c < 1000000000) /\ ∀ r : Nat,(r : Int) < n -> K (.ok (.int r)) (c + 1)
 | _ => .bad
theorem aAT (k : Nat) : FnS false (aW T (k + 1) aU) (iU k) := ⟨fun {F sa h c K qs ws} iv r hp => by
 unfold iU at hp
 split at hp
 ·rename_i n
  simp only [Reps] at r
  obtain ⟨w1,_,rfl,_,r1,w2,_,rfl,_,r2,rfl⟩ := r
  simp only [Rep] at r1 r2
  subst r1; subst r2
  obtain ⟨⟨h1,h2,h3⟩,h4⟩ := hp
  obtain ⟨r,h',hr,e,u,q⟩ := oV k (n := n) iv.sr h1 h2 h3
  rw [q]
  obtain ⟨i2,g2⟩ := iv.ux u.ux e
  exact .ok (h4 r hr) i2 g2 (by simpa using dH)
 ·exact hp.elim⟩
end LW
end
section
namespace LW
open PV PySem PySem.Spec PyProof.Rows L2
def eX (k : Nat) : List Q -> Pm Q
 | [.src, .int n] => fun K c => (0 <= n /\ n <= 12 /\ c + 100 < 1000000000 /\ 3 <= k) /\ ∀ ops : List Opr,(∀ o ∈ ops,∀ x ∈ o.words,x ∈ gU) -> OpsOk ops -> (ops.length : Int) <= n -> K (.ok (bP ops)) (c + 100)
 | _ => .bad
theorem uH (k : Nat) : FnS false (aW T (k + 1) cW) (eX k) := ⟨fun {F sa h c K qs ws} iv r hp => by
 unfold eX at hp
 split at hp
 ·rename_i n
  simp only [Reps] at r
  obtain ⟨w1,_,rfl,_,r1,w2,_,rfl,_,r2,rfl⟩ := r
  simp only [Rep] at r1 r2
  subst r1; subst r2
  obtain ⟨⟨h1,h2,h3,h5⟩,h4⟩ := hp
  obtain ⟨k',rfl⟩ : ∃ k',k = k' + 3 := ⟨k - 3,by omega⟩
  obtain ⟨m,rfl⟩ := Int.eq_ofNat_of_zero_le h1
  obtain ⟨ops,h',y,O,l,e,u,q⟩ := yP k' (most := m) iv.sr (by omega) h3
  rw [q]
  obtain ⟨i2,g2⟩ := iv.ux u e
  exact .ok (h4 ops y O (by omega)) i2 g2 (by simpa using aFJ)
 ·exact hp.elim⟩
end LW
end
section
namespace LW
open PV PySem PySem.Spec PyProof.Rows L2
def frT (f : Nat) : Bool := match f with
 | _ => false
def mH (pc : Nat -> List Q -> Pm Q) (a_0 : Q) : Pm (Fl Unit Unit) :=
 (Pm.seq (Pm.bind (Pm.bind (Pm.bind (Pm.bind (Pm.bind (Pm.ret a_0) fun x8 => Pm.bind (Pm.ret (Q.ty "str")) fun x9 => Pm.of (bU x8 x9)) fun x10 => Pm.of (bT x10)) fun x11 => Pm.ret (!x11)) fun x12 => if x12 = true then Pm.ret true else (Pm.bind (Pm.bind (Pm.bind (Pm.ret (Q.int 1)) fun x2 => Pm.bind (Pm.bind (Pm.ret a_0) fun x1 => Pm.of (cJ x1)) fun x3 => Pm.bind (Pm.of (qLe x2 x3)) fun x5 => fV x5 (Pm.bind (Pm.ret (Q.int 8)) fun x4 => Pm.of (qLe x3 x4))) fun x6 => Pm.of (bT x6)) fun x7 => Pm.ret (!x7))) fun x14 => if x14 = true then (Pm.bind (Pm.ret (Q.bl false)) fun x13 => Pm.ret (.ret x13)) else (Pm.ret (.nx ()))) (fun (x15 : Unit) => (Pm.bind (Pm.bind (Pm.bind (Pm.bind (Pm.ret a_0) fun x16 => Pm.of (dD x16)) fun x18 => lcP some (fun (x17 : Q) => (Pm.ret true)) (fun (x17 : Q) => (Pm.bind (Pm.ret (Q.str " ")) fun x19 => Pm.bind (Pm.ret x17) fun x20 => Pm.bind (Pm.of (qLt x19 x20)) fun x22 => fV x22 (Pm.bind (Pm.ret (Q.str "~")) fun x21 => Pm.of (qLe x20 x21)))) x18) fun x23 => Pm.of (rM x23)) fun x24 => Pm.ret (.ret x24))))
def qS (pc : Nat -> List Q -> Pm Q) (qs : List Q) : Pm (Fl Unit Unit) := match qs with
 | [a_0] => mH pc a_0
 | _ => .bad
theorem aAU {cl : Cll} {pc : Nat -> List Q -> Pm Q} (ih : ∀ f,FnS (frT f) (cl f) (pc f)) (a_0 : Q) : SS' false (fun _ : Unit => []) none [.fz a_0, .no] (hY cl) (mH pc a_0) (fun _ : Unit => [.no, .no]) :=
 (iO (ΓM := fun (x15 : Unit) => [.fz a_0, .no]) (jU trivial (lC (iW (t_b (bE sX (aE 0 rfl).toW vU.toW).toW)) (iW (t_b (vT aAh aAh bJ.toW (dN kF (aE 0 rfl).toW).toW bJ.toW).toW))) (eI trivial lU) (nS (z := ()) (.eq (.no .nil)))) (fun x15 => (eI trivial (dN yI (mY (vs := [1]) (i_e (aE 0 rfl)).toW (tg1 1) (fun x17 => iX) (fun x17 => (vT aKW aAh bW.toW (aE 1 rfl).toW bW.toW))).toW))))
theorem aAE {cl : Cll} {pc : Nat -> List Q -> Pm Q} (ih : ∀ f,FnS (frT f) (cl f) (pc f)) : FnS false (fun ws h => if ws.length = 1 then gK (hY cl (bH 2 ws) h) else .bad) (fun qs => if qs.length = 1 then (qS pc qs).bind cH else .bad) :=
 iM (P := qS pc) (ΓL := fun _ : Unit => []) (ΓN := fun _ : Unit => [.no, .no]) fun qs hq => match qs,hq with
  | [a_0],_ => aAU ih a_0
def oA (pc : Nat -> List Q -> Pm Q) (a_0 : Q) : Pm (Fl Unit Unit) :=
 (Pm.bind (Pm.bind (Pm.bind (Pm.bind (Pm.ret a_0) fun x3 => Pm.bind (Pm.ret []) fun x4 => Pm.ret (x3 :: x4)) (pc hW)) fun x5 => fV x5 (Pm.bind (Pm.ret a_0) fun x1 => Pm.bind (Pm.ret (Q.kt ((["(",")"] : List Str).map Q.str))) fun x2 => Pm.of (qNi x1 x2))) fun x6 => Pm.ret (.ret x6))
def rY (pc : Nat -> List Q -> Pm Q) (qs : List Q) : Pm (Fl Unit Unit) := match qs with
 | [a_0] => oA pc a_0
 | _ => .bad
theorem aB7 {cl : Cll} {pc : Nat -> List Q -> Pm Q} (ih : ∀ f,FnS (frT f) (cl f) (pc f)) (a_0 : Q) : SS' false (fun _ : Unit => []) none [.fz a_0] (jN cl) (oA pc a_0) (fun _ : Unit => [.no]) :=
 (eI trivial (aEB (cB (ih hW) (aD (aE 0 rfl) aP)).toW (bE aG8 (aE 0 rfl).toW aEC.toW)))
theorem aBH {cl : Cll} {pc : Nat -> List Q -> Pm Q} (ih : ∀ f,FnS (frT f) (cl f) (pc f)) : FnS false (fun ws h => if ws.length = 1 then gK (jN cl (bH 1 ws) h) else .bad) (fun qs => if qs.length = 1 then (rY pc qs).bind cH else .bad) :=
 iM (P := rY pc) (ΓL := fun _ : Unit => []) (ΓN := fun _ : Unit => [.no]) fun qs hq => match qs,hq with
  | [a_0],_ => aB7 ih a_0
def dA (pc : Nat -> List Q -> Pm Q) (a_0 : Q) : Pm (Fl Unit Unit) :=
 (Pm.seq (Pm.bind (Pm.bind (Pm.bind (Pm.bind (Pm.bind (Pm.ret a_0) fun x18 => Pm.bind (Pm.ret (Q.ty "tuple")) fun x19 => Pm.of (bU x18 x19)) fun x20 => Pm.of (bT x20)) fun x21 => Pm.ret (!x21)) fun x22 => if x22 = true then Pm.ret true else (Pm.bind (Pm.bind (Pm.bind (Pm.bind (Pm.ret a_0) fun x13 => Pm.of (cJ x13)) fun x14 => Pm.bind (Pm.ret (Q.int 2)) fun x15 => Pm.of (qNe x14 x15)) fun x16 => Pm.of (bT x16)) fun x17 => if x17 = true then Pm.ret true else (Pm.bind (Pm.bind (Pm.bind (Pm.bind (Pm.bind (Pm.ret a_0) fun x6 => Pm.bind (Pm.ret (Q.int 0)) fun x7 => Pm.of (qIx x6 x7)) fun x8 => Pm.bind (Pm.ret (Q.ty "str")) fun x9 => Pm.of (bU x8 x9)) fun x10 => Pm.of (bT x10)) fun x11 => Pm.ret (!x11)) fun x12 => if x12 = true then Pm.ret true else (Pm.bind (Pm.bind (Pm.bind (Pm.ret a_0) fun x1 => Pm.bind (Pm.ret (Q.int 0)) fun x2 => Pm.of (qIx x1 x2)) fun x3 => Pm.bind (Pm.ret (Q.kt ((["closed","infix","postfix","prefix"] : List Str).map Q.str))) fun x4 => Pm.of (qNi x3 x4)) fun x5 => Pm.of (bT x5))))) fun x24 => if x24 = true then (Pm.bind (Pm.ret (Q.bl false)) fun x23 => Pm.ret (.ret x23)) else (Pm.ret (.nx ()))) (fun (x25 : Unit) => (Pm.bind (Pm.bind (Pm.ret a_0) fun x26 => Pm.of (un2 x26)) fun (x27 : Q × Q) => (Pm.seq (Pm.bind (Pm.bind (Pm.bind (Pm.bind (Pm.bind (Pm.ret x27.2) fun x36 => Pm.bind (Pm.ret (Q.ty "tuple")) fun x37 => Pm.of (bU x36 x37)) fun x38 => Pm.of (bT x38)) fun x39 => Pm.ret (!x39)) fun x40 => if x40 = true then Pm.ret true else (Pm.bind (Pm.bind (Pm.bind (Pm.bind (Pm.bind (Pm.ret x27.2) fun x28 => Pm.of (dD x28)) fun x30 => lcP some (fun (x29 : Q) => (Pm.ret true)) (fun (x29 : Q) => (Pm.bind (Pm.bind (Pm.ret x29) fun x31 => Pm.bind (Pm.ret []) fun x32 => Pm.ret (x31 :: x32)) (pc jM))) x30) fun x33 => Pm.of (rM x33)) fun x34 => Pm.of (bT x34)) fun x35 => Pm.ret (!x35))) fun x42 => if x42 = true then (Pm.bind (Pm.ret (Q.bl false)) fun x41 => Pm.ret (.ret x41)) else (Pm.ret (.nx ()))) (fun (x43 : Unit) => (Pm.bind (Pm.bind (Pm.bind (Pm.bind (Pm.bind (Pm.ret x27.1) fun x44 => Pm.bind (Pm.ret (Q.str "closed")) fun x45 => Pm.of (qEq x44 x45)) fun x46 => Pm.of (bT x46)) fun x47 => if x47 = true then (Pm.ret (Q.int 2)) else (Pm.ret (Q.int 1))) fun x49 => Pm.bind (Pm.bind (Pm.ret x27.2) fun x48 => Pm.of (cJ x48)) fun x50 => Pm.bind (Pm.of (qLe x49 x50)) fun x52 => fV x52 (Pm.bind (Pm.ret (Q.int 3)) fun x51 => Pm.of (qLe x50 x51))) fun x53 => Pm.ret (.ret x53)))))))
def lY (pc : Nat -> List Q -> Pm Q) (qs : List Q) : Pm (Fl Unit Unit) := match qs with
 | [a_0] => dA pc a_0
 | _ => .bad
theorem wY {cl : Cll} {pc : Nat -> List Q -> Pm Q} (ih : ∀ f,FnS (frT f) (cl f) (pc f)) (a_0 : Q) : SS' false (fun _ : Unit => []) none [.fz a_0, .no, .no, .no] (eO cl) (dA pc a_0) (fun _ : Unit => [.no, .no, .no, .no]) :=
 (iO (ΓM := fun (x25 : Unit) => [.fz a_0, .no, .no, .no]) (jU trivial (lC (iW (t_b (bE sX (aE 0 rfl).toW vU.toW).toW)) (lC (t_b (bE wM (dN kF (aE 0 rfl).toW).toW bJ.toW).toW) (lC (iW (t_b (bE sX (bE fZ (aE 0 rfl).toW bJ.toW).toW vU.toW).toW)) (t_b (bE aG8 (bE fZ (aE 0 rfl).toW bJ.toW).toW aEC.toW).toW)))) (eI trivial lU) (nS (z := ()) (.eq (.no (.no (.no .nil)))))) (fun x25 => (cN (vA (tg2 1 2) trivial (aE 0 rfl)) (fun x27 => (iO (ΓM := fun (x43 : Unit) => [.no, .fz x27.1, .fz x27.2, .no]) (jU trivial (lC (iW (t_b (bE sX (aE 2 rfl).toW vU.toW).toW)) (iW (t_b (dN yI (mY (vs := [3]) (i_e (aE 2 rfl)).toW (tg1 3) (fun x29 => iX) (fun x29 => (cB (ih jM) (aD (aE 3 rfl) aP)))).toW).toW))) (eI trivial lU) (nS (z := ()) (.no (.eq (.eq (.no .nil)))))) (fun x43 => (eI trivial (vT aAh aAh (aJV (t_b (bE rR (aE 1 rfl).toW bW.toW).toW) bJ bJ).toW (dN kF (aE 2 rfl).toW).toW bJ.toW))))))))
theorem vW {cl : Cll} {pc : Nat -> List Q -> Pm Q} (ih : ∀ f,FnS (frT f) (cl f) (pc f)) : FnS false (fun ws h => if ws.length = 1 then gK (eO cl (bH 4 ws) h) else .bad) (fun qs => if qs.length = 1 then (lY pc qs).bind cH else .bad) :=
 iM (P := lY pc) (ΓL := fun _ : Unit => []) (ΓN := fun _ : Unit => [.no, .no, .no, .no]) fun qs hq => match qs,hq with
  | [a_0],_ => wY ih a_0
def gL (pc : Nat -> List Q -> Pm Q) (a_0 : Q) : Pm (Fl Unit Unit) :=
 (Pm.bind (Pm.bind (Pm.bind (Pm.ret a_0) fun x1 => Pm.bind (Pm.ret (Q.int 0)) fun x2 => Pm.of (qIx x1 x2)) fun x8 => Pm.bind (Pm.bind (Pm.bind (Pm.ret (Q.str "prefix")) fun x5 => Pm.bind (Pm.bind (Pm.ret (Q.str "closed")) fun x3 => Pm.bind (Pm.ret []) fun x4 => Pm.ret (x3 :: x4)) fun x6 => Pm.ret (x5 :: x6)) fun x7 => Pm.ret (Q.tup x7)) fun x9 => Pm.of (qIn x8 x9)) fun x10 => Pm.ret (.ret x10))
def jK (pc : Nat -> List Q -> Pm Q) (qs : List Q) : Pm (Fl Unit Unit) := match qs with
 | [a_0] => gL pc a_0
 | _ => .bad
theorem tH {cl : Cll} {pc : Nat -> List Q -> Pm Q} (ih : ∀ f,FnS (frT f) (cl f) (pc f)) (a_0 : Q) : SS' false (fun _ : Unit => []) none [.fz a_0] (dG cl) (gL pc a_0) (fun _ : Unit => [.no]) :=
 (eI trivial (bE aB1 (bE fZ (aE 0 rfl).toW bJ.toW).toW (bL (by decide) (aD bW (aD bW aP))).toW))
theorem tE {cl : Cll} {pc : Nat -> List Q -> Pm Q} (ih : ∀ f,FnS (frT f) (cl f) (pc f)) : FnS false (fun ws h => if ws.length = 1 then gK (dG cl (bH 1 ws) h) else .bad) (fun qs => if qs.length = 1 then (jK pc qs).bind cH else .bad) :=
 iM (P := jK pc) (ΓL := fun _ : Unit => []) (ΓN := fun _ : Unit => [.no]) fun qs hq => match qs,hq with
  | [a_0],_ => tH ih a_0
def iC (pc : Nat -> List Q -> Pm Q) (a_0 : Q) : Pm (Fl Unit Unit) :=
 (Pm.bind (Pm.bind (Pm.bind (Pm.ret a_0) fun x1 => Pm.of (cJ x1)) fun x6 => Pm.bind (Pm.bind (Pm.bind (Pm.bind (Pm.ret a_0) fun x2 => Pm.of (dD x2)) fun x4 => dcP rV Q.dK some (fun (x3 : Q) => (Pm.ret true)) (fun (x3 : Q) => (Pm.ret x3)) (fun (x3 : Q) => (Pm.ret (Q.bl true))) x4) fun x5 => Pm.of (cJ x5)) fun x7 => Pm.of (qEq x6 x7)) fun x8 => Pm.ret (.ret x8))
def lD (pc : Nat -> List Q -> Pm Q) (qs : List Q) : Pm (Fl Unit Unit) := match qs with
 | [a_0] => iC pc a_0
 | _ => .bad
theorem vJ {cl : Cll} {pc : Nat -> List Q -> Pm Q} (ih : ∀ f,FnS (frT f) (cl f) (pc f)) (a_0 : Q) : SS' false (fun _ : Unit => []) none [.fz a_0, .no] (eH cl) (iC pc a_0) (fun _ : Unit => [.no, .no]) :=
 (eI trivial (bE rR (dN kF (aE 0 rfl).toW).toW (dN kF (aIh (vs := [1]) (i_e (aE 0 rfl)).toW (tg1 1) (fun x3 => iX) (fun x3 => (aE 1 rfl)) (fun x3 => lU)).toW).toW))
theorem uQ {cl : Cll} {pc : Nat -> List Q -> Pm Q} (ih : ∀ f,FnS (frT f) (cl f) (pc f)) : FnS false (fun ws h => if ws.length = 1 then gK (eH cl (bH 2 ws) h) else .bad) (fun qs => if qs.length = 1 then (lD pc qs).bind cH else .bad) :=
 iM (P := lD pc) (ΓL := fun _ : Unit => []) (ΓN := fun _ : Unit => [.no, .no]) fun qs hq => match qs,hq with
  | [a_0],_ => vJ ih a_0
def cD (pc : Nat -> List Q -> Pm Q) (a_0 : Q) : Pm (Fl Unit Unit) :=
 (Pm.seq (Pm.bind (Pm.bind (Pm.bind (Pm.bind (Pm.bind (Pm.ret a_0) fun x14 => Pm.bind (Pm.ret (Q.ty "tuple")) fun x15 => Pm.of (bU x14 x15)) fun x16 => Pm.of (bT x16)) fun x17 => Pm.ret (!x17)) fun x18 => if x18 = true then Pm.ret true else (Pm.bind (Pm.bind (Pm.bind (Pm.bind (Pm.ret a_0) fun x9 => Pm.of (cJ x9)) fun x10 => Pm.bind (Pm.ret (Q.int 12)) fun x11 => Pm.of (qGt x10 x11)) fun x12 => Pm.of (bT x12)) fun x13 => if x13 = true then Pm.ret true else (Pm.bind (Pm.bind (Pm.bind (Pm.bind (Pm.bind (Pm.ret a_0) fun x1 => Pm.of (dD x1)) fun x3 => lcP some (fun (x2 : Q) => (Pm.ret true)) (fun (x2 : Q) => (Pm.bind (Pm.bind (Pm.ret x2) fun x4 => Pm.bind (Pm.ret []) fun x5 => Pm.ret (x4 :: x5)) (pc bB))) x3) fun x6 => Pm.of (rM x6)) fun x7 => Pm.of (bT x7)) fun x8 => Pm.ret (!x8)))) fun x20 => if x20 = true then (Pm.bind (Pm.ret (Q.bl false)) fun x19 => Pm.ret (.ret x19)) else (Pm.ret (.nx ()))) (fun (x21 : Unit) => (Pm.bind (Pm.bind (Pm.bind (Pm.ret a_0) fun x22 => Pm.of (dD x22)) fun x24 => lcP some (fun (x23 : Q) => (Pm.ret true)) (fun (x23 : Q) => (Pm.bind (Pm.bind (Pm.ret x23) fun x25 => Pm.bind (Pm.ret (Q.int 1)) fun x26 => Pm.of (qIx x25 x26)) fun x27 => Pm.bind (Pm.ret (Q.int 0)) fun x28 => Pm.of (qIx x27 x28))) x24) fun (x29 : Q) => (Pm.bind (Pm.bind (Pm.bind (Pm.ret a_0) fun x30 => Pm.of (dD x30)) fun x32 => zH some (fun (x31 : Q) => (Pm.ret true)) (fun (x31 : Q) => (Pm.bind (Pm.bind (Pm.bind (Pm.ret x31) fun x33 => Pm.bind (Pm.ret (Q.int 1)) fun x34 => Pm.of (qIx x33 x34)) fun x37 => Pm.bind (Pm.bind (Pm.ret (Q.int 1)) fun x35 => Pm.bind (Pm.of (jJ x35)) fun x36 => Pm.ret (some x36)) fun x38 => Pm.bind (Pm.ret none) fun x39 => Pm.of (qSl x37 x38 x39)) fun x40 => Pm.of (dD x40))) some (fun (x31 : Q) (x41 : Q) => (Pm.ret true)) (fun (x31 : Q) (x41 : Q) => (Pm.ret x41)) x32) fun (x42 : Q) => (Pm.seq (Pm.bind (Pm.bind (Pm.bind (Pm.bind (Pm.bind (Pm.bind (Pm.ret x42) fun x50 => Pm.bind (Pm.ret []) fun x51 => Pm.ret (x50 :: x51)) (pc bG)) fun x52 => Pm.of (bT x52)) fun x53 => Pm.ret (!x53)) fun x54 => if x54 = true then Pm.ret true else (Pm.bind (Pm.bind (Pm.bind (Pm.bind (Pm.ret x42) fun x43 => Pm.of (dD x43)) fun x45 => lcP some (fun (x44 : Q) => (Pm.ret true)) (fun (x44 : Q) => (Pm.bind (Pm.ret x44) fun x46 => Pm.bind (Pm.ret x29) fun x47 => Pm.of (qIn x46 x47))) x45) fun x48 => Pm.of (wI x48)) fun x49 => Pm.of (bT x49))) fun x56 => if x56 = true then (Pm.bind (Pm.ret (Q.bl false)) fun x55 => Pm.ret (.ret x55)) else (Pm.ret (.nx ()))) (fun (x57 : Unit) => (Pm.bind (Pm.bind (Pm.bind (Pm.ret a_0) fun x58 => Pm.of (dD x58)) fun x63 => lcP some (fun (x59 : Q) => (Pm.bind (Pm.bind (Pm.bind (Pm.ret x59) fun x60 => Pm.bind (Pm.ret []) fun x61 => Pm.ret (x60 :: x61)) (pc bN)) fun x62 => Pm.of (bT x62))) (fun (x59 : Q) => (Pm.bind (Pm.bind (Pm.ret x59) fun x64 => Pm.bind (Pm.ret (Q.int 1)) fun x65 => Pm.of (qIx x64 x65)) fun x66 => Pm.bind (Pm.ret (Q.int 0)) fun x67 => Pm.of (qIx x66 x67))) x63) fun (x68 : Q) => (Pm.bind (Pm.bind (Pm.bind (Pm.ret a_0) fun x69 => Pm.of (dD x69)) fun x75 => lcP some (fun (x70 : Q) => (Pm.bind (Pm.bind (Pm.bind (Pm.bind (Pm.ret x70) fun x71 => Pm.bind (Pm.ret []) fun x72 => Pm.ret (x71 :: x72)) (pc bN)) fun x73 => Pm.of (bT x73)) fun x74 => Pm.ret (!x74))) (fun (x70 : Q) => (Pm.bind (Pm.bind (Pm.ret x70) fun x76 => Pm.bind (Pm.ret (Q.int 1)) fun x77 => Pm.of (qIx x76 x77)) fun x78 => Pm.bind (Pm.ret (Q.int 0)) fun x79 => Pm.of (qIx x78 x79))) x75) fun (x80 : Q) => (Pm.bind (Pm.bind (Pm.bind (Pm.bind (Pm.ret x68) fun x83 => Pm.bind (Pm.ret []) fun x84 => Pm.ret (x83 :: x84)) (pc bG)) fun x85 => fV x85 (Pm.bind (Pm.bind (Pm.ret x80) fun x81 => Pm.bind (Pm.ret []) fun x82 => Pm.ret (x81 :: x82)) (pc bG))) fun x86 => Pm.ret (.ret x86))))))))))
def hU (pc : Nat -> List Q -> Pm Q) (qs : List Q) : Pm (Fl Unit Unit) := match qs with
 | [a_0] => cD pc a_0
 | _ => .bad
theorem qX {cl : Cll} {pc : Nat -> List Q -> Pm Q} (ih : ∀ f,FnS (frT f) (cl f) (pc f)) (a_0 : Q) : SS' false (fun _ : Unit => []) none [.fz a_0, .no, .no, .no, .no, .no, .no] (cO cl) (cD pc a_0) (fun _ : Unit => [.no, .no, .no, .no, .no, .no, .no]) :=
 (iO (ΓM := fun (x21 : Unit) => [.fz a_0, .no, .no, .no, .no, .no, .no]) (jU trivial (lC (iW (t_b (bE sX (aE 0 rfl).toW vU.toW).toW)) (lC (t_b (bE aG6 (dN kF (aE 0 rfl).toW).toW bJ.toW).toW) (iW (t_b (dN yI (mY (vs := [1]) (i_e (aE 0 rfl)).toW (tg1 1) (fun x2 => iX) (fun x2 => (cB (ih bB) (aD (aE 1 rfl) aP)))).toW).toW)))) (eI trivial lU) (nS (z := ()) (.eq (.no (.no (.no (.no (.no (.no .nil))))))))) (fun x21 => (cN (oD 2 trivial (mY (vs := [1]) (i_e (aE 0 rfl)).toW (tg1 1) (fun x23 => iX) (fun x23 => (bE fZ (bE fZ (aE 1 rfl).toW bJ.toW).toW bJ.toW))).toS) (fun x29 => (cN (oD 3 trivial (aIi (vs := [1,4]) (vs1 := [4]) (i_e (aE 0 rfl)).toW (tg1 1) (fun x31 => iX) (fun x31 => (i_e (tQ (bE fZ (aE 1 rfl).toW bJ.toW).toW (lI bJ.toW) pD)).toW) (tg1 4) (fun x31 x41 => iX) (fun x31 x41 => (aE 4 rfl))).toS) (fun x42 => (iO (ΓM := fun (x57 : Unit) => [.fz a_0, .no, .no, .no, .no, .no, .no]) (jU trivial (lC (iW (t_b (cB (ih bG) (aD (aE 3 rfl) aP)).toW)) (t_b (dN aET (mY (vs := [4]) (i_e (aE 3 rfl)).toW (tg1 4) (fun x44 => iX) (fun x44 => (bE aB1 (aE 4 rfl).toW (aE 2 rfl).toW))).toW).toW)) (eI trivial lU) (nS (z := ()) (.eq (.no (.no (.no (.no (.no (.no .nil))))))))) (fun x57 => (cN (oD 5 trivial (mY (vs := [1]) (i_e (aE 0 rfl)).toW (tg1 1) (fun x59 => (t_b (cB (ih bN) (aD (aE 1 rfl) aP)).toW)) (fun x59 => (bE fZ (bE fZ (aE 1 rfl).toW bJ.toW).toW bJ.toW))).toS) (fun x68 => (cN (oD 6 trivial (mY (vs := [1]) (i_e (aE 0 rfl)).toW (tg1 1) (fun x70 => (iW (t_b (cB (ih bN) (aD (aE 1 rfl) aP)).toW))) (fun x70 => (bE fZ (bE fZ (aE 1 rfl).toW bJ.toW).toW bJ.toW))).toS) (fun x80 => (eI trivial (aEB (cB (ih bG) (aD (aE 5 rfl) aP)).toW (cB (ih bG) (aD (aE 6 rfl) aP))))))))))))))))
theorem qU {cl : Cll} {pc : Nat -> List Q -> Pm Q} (ih : ∀ f,FnS (frT f) (cl f) (pc f)) : FnS false (fun ws h => if ws.length = 1 then gK (cO cl (bH 7 ws) h) else .bad) (fun qs => if qs.length = 1 then (hU pc qs).bind cH else .bad) :=
 iM (P := hU pc) (ΓL := fun _ : Unit => []) (ΓN := fun _ : Unit => [.no, .no, .no, .no, .no, .no, .no]) fun qs hq => match qs,hq with
  | [a_0],_ => qX ih a_0
def mJ (pc : Nat -> List Q -> Pm Q) (a_0 a_1 : Q) : Pm (Fl Unit Unit) :=
 (Pm.bind (Pm.bind (Pm.ret a_1) fun x6 => Pm.bind (Pm.bind (Pm.bind (Pm.ret a_0) fun x4 => Pm.bind (Pm.bind (Pm.bind (Pm.ret a_1) fun x1 => Pm.of (cJ x1)) fun x2 => Pm.bind (Pm.ret []) fun x3 => Pm.ret (x2 :: x3)) fun x5 => Pm.ret (x4 :: x5)) (pc aU)) fun x7 => Pm.of (qIx x6 x7)) fun x8 => Pm.ret (.ret x8))
def qT (pc : Nat -> List Q -> Pm Q) (qs : List Q) : Pm (Fl Unit Unit) := match qs with
 | [a_0,a_1] => mJ pc a_0 a_1
 | _ => .bad
theorem aAV {cl : Cll} {pc : Nat -> List Q -> Pm Q} (ih : ∀ f,FnS (frT f) (cl f) (pc f)) (a_0 a_1 : Q) : SS' false (fun _ : Unit => []) none [.fz a_0, .fz a_1] (eU cl) (mJ pc a_0 a_1) (fun _ : Unit => [.no, .no]) :=
 (eI trivial (bE fZ (aE 1 rfl).toW (cB (ih aU) (aD (aE 0 rfl) (aD (dN kF (aE 1 rfl).toW) aP))).toW))
theorem aAF {cl : Cll} {pc : Nat -> List Q -> Pm Q} (ih : ∀ f,FnS (frT f) (cl f) (pc f)) : FnS false (fun ws h => if ws.length = 2 then gK (eU cl (bH 2 ws) h) else .bad) (fun qs => if qs.length = 2 then (qT pc qs).bind cH else .bad) :=
 iM (P := qT pc) (ΓL := fun _ : Unit => []) (ΓN := fun _ : Unit => [.no, .no]) fun qs hq => match qs,hq with
  | [a_0,a_1],_ => aAV ih a_0 a_1
def jZ (pc : Nat -> List Q -> Pm Q) (x26 : Q × Q) (x24 : Q) : Pm (Fl (Q) (Q)) :=
 (Pm.bind (fI "list" x24 (Pm.bind (Pm.bind (Pm.ret x26.2) fun x27 => Pm.of (gV x27)) fun x28 => Pm.of (mS x24 x28))) fun (x29 : Q) => Pm.ret (.nx x29))
def kB (pc : Nat -> List Q -> Pm Q) (x31 : Q) (x36 : Q × Q) (x34 : Q) : Pm (Fl (Q) (Q)) :=
 (Pm.bind (Pm.bind (Pm.bind (Pm.bind (Pm.ret x36.1) fun x46 => Pm.bind (Pm.bind (Pm.bind (Pm.ret (Q.str "prefix")) fun x43 => Pm.bind (Pm.bind (Pm.ret (Q.str "closed")) fun x41 => Pm.bind (Pm.ret []) fun x42 => Pm.ret (x41 :: x42)) fun x44 => Pm.ret (x43 :: x44)) fun x45 => Pm.ret (Q.tup x45)) fun x47 => Pm.of (qIn x46 x47)) fun x48 => Pm.bind (Pm.bind (Pm.bind (Pm.ret x36.2) fun x37 => Pm.bind (Pm.ret (Q.int 0)) fun x38 => Pm.of (qIx x37 x38)) fun x39 => Pm.bind (Pm.ret []) fun x40 => Pm.ret (x39 :: x40)) fun x49 => Pm.ret (x48 :: x49)) fun x50 => Pm.ret (Q.tup x50)) fun (x51 : Q) => (Pm.seq (Pm.bind (Pm.bind (Pm.bind (Pm.bind (Pm.ret x51) fun x66 => Pm.bind (Pm.ret x34) fun x67 => Pm.of (qIn x66 x67)) fun x68 => Pm.of (bT x68)) fun x69 => if x69 = true then Pm.ret true else (Pm.bind (Pm.bind (Pm.bind (Pm.bind (Pm.bind (Pm.ret x36.2) fun x54 => Pm.bind (Pm.bind (Pm.ret (Q.int 1)) fun x52 => Pm.bind (Pm.of (jJ x52)) fun x53 => Pm.ret (some x53)) fun x55 => Pm.bind (Pm.ret none) fun x56 => Pm.of (qSl x54 x55 x56)) fun x57 => Pm.of (dD x57)) fun x59 => lcP some (fun (x58 : Q) => (Pm.ret true)) (fun (x58 : Q) => (Pm.bind (Pm.bind (Pm.ret x31) fun x60 => pTy "list" x60 (Pm.bind (Pm.ret x58) fun x61 => Pm.of (rN x60 x61))) fun x62 => Pm.bind (Pm.ret (Q.int 1)) fun x63 => Pm.of (qNe x62 x63))) x59) fun x64 => Pm.of (wI x64)) fun x65 => Pm.of (bT x65))) fun x71 => if x71 = true then (Pm.bind (Pm.ret (Q.bl false)) fun x70 => Pm.ret (.ret x70)) else (Pm.ret (.nx ()))) (fun (x72 : Unit) => (Pm.bind (fI "list" x34 (Pm.bind (Pm.ret x51) fun x73 => Pm.of (dS x34 x73))) fun (x74 : Q) => Pm.ret (.nx x74)))))
def hM (pc : Nat -> List Q -> Pm Q) (a_0 : Q) : Pm (Fl Unit Unit) :=
 (Pm.seq (Pm.bind (Pm.bind (Pm.bind (Pm.bind (Pm.bind (Pm.ret a_0) fun x14 => Pm.bind (Pm.ret (Q.ty "tuple")) fun x15 => Pm.of (bU x14 x15)) fun x16 => Pm.of (bT x16)) fun x17 => Pm.ret (!x17)) fun x18 => if x18 = true then Pm.ret true else (Pm.bind (Pm.bind (Pm.bind (Pm.bind (Pm.ret a_0) fun x9 => Pm.of (cJ x9)) fun x10 => Pm.bind (Pm.ret (Q.int 12)) fun x11 => Pm.of (qGt x10 x11)) fun x12 => Pm.of (bT x12)) fun x13 => if x13 = true then Pm.ret true else (Pm.bind (Pm.bind (Pm.bind (Pm.bind (Pm.bind (Pm.ret a_0) fun x1 => Pm.of (dD x1)) fun x3 => lcP some (fun (x2 : Q) => (Pm.ret true)) (fun (x2 : Q) => (Pm.bind (Pm.bind (Pm.ret x2) fun x4 => Pm.bind (Pm.ret []) fun x5 => Pm.ret (x4 :: x5)) (pc bB))) x3) fun x6 => Pm.of (rM x6)) fun x7 => Pm.of (bT x7)) fun x8 => Pm.ret (!x8)))) fun x20 => if x20 = true then (Pm.bind (Pm.ret (Q.bl false)) fun x19 => Pm.ret (.ret x19)) else (Pm.ret (.nx ()))) (fun (x21 : Unit) => (Pm.bind (Pm.bind (Pm.ret []) fun x22 => Pm.ret (Q.lst x22)) fun (x23 : Q) => (Pm.seq (Pm.bind (Pm.bind (Pm.ret a_0) fun x25 => Pm.of (dD x25)) fun x30 => nA un2 (jZ pc) x30 x23) (fun (x31 : Q) => (Pm.bind (Pm.bind (Pm.ret []) fun x32 => Pm.ret (Q.lst x32)) fun (x33 : Q) => (Pm.seq (Pm.bind (Pm.bind (Pm.ret a_0) fun x35 => Pm.of (dD x35)) fun x75 => nA un2 (kB pc x31) x75 x33) (fun (x76 : Q) => (Pm.bind (Pm.ret (Q.bl true)) fun x77 => Pm.ret (.ret x77))))))))))
def rZ (pc : Nat -> List Q -> Pm Q) (qs : List Q) : Pm (Fl Unit Unit) := match qs with
 | [a_0] => hM pc a_0
 | _ => .bad
theorem aB8 {cl : Cll} {pc : Nat -> List Q -> Pm Q} (ih : ∀ f,FnS (frT f) (cl f) (pc f)) (a_0 : Q) : SS' false (fun _ : Unit => []) none [.fz a_0, .no, .no, .no, .no, .no, .no, .no] (jO cl) (hM pc a_0) (fun _ : Unit => [.no, .no, .no, .no, .no, .no, .no, .no]) :=
 (iO (ΓM := fun (x21 : Unit) => [.fz a_0, .no, .no, .no, .no, .no, .no, .no]) (jU trivial (lC (iW (t_b (bE sX (aE 0 rfl).toW vU.toW).toW)) (lC (t_b (bE aG6 (dN kF (aE 0 rfl).toW).toW bJ.toW).toW) (iW (t_b (dN yI (mY (vs := [1]) (i_e (aE 0 rfl)).toW (tg1 1) (fun x2 => iX) (fun x2 => (cB (ih bB) (aD (aE 1 rfl) aP)))).toW).toW)))) (eI trivial lU) (nS (z := ()) (.eq (.no (.no (.no (.no (.no (.no (.no .nil)))))))))) (fun x21 => (cN (aAg 2 trivial (pY (by decide) aP)) (fun x23 => (iO (xY (Γ0 := fun (x24 : Q) => [.fz a_0, .no, .ow x24, .no, .no, .no, .no, .no]) (z := x23) trivial (i_e (aE 0 rfl)) (.eq (.no (.eq (.no (.no (.no (.no (.no .nil)))))))) (tg2 3 4) (fun x26 x24 => (lE (f := fun (x29 : Q) => x29) (aD9 2 rfl trivial (sE pH (aE 4 rfl).toW).toS) (fun x29 => (.eq (.no (.eq (.no (.no (.no (.no (.no .nil)))))))))))) (fun x31 => (aBA 2 rfl (cN (aAg 5 trivial (pY (by decide) aP)) (fun x33 => (iO (xY (Γ0 := fun (x34 : Q) => [.no, .no, .fz x31, .no, .no, .ow x34, .no, .no]) (z := x33) trivial (i_e (aE 0 rfl)) (.no (.no (.eq (.no (.no (.eq (.no (.no .nil)))))))) (tg2 3 4) (fun x36 x34 => (cN (oD 6 trivial (bL (by decide) (aD (bE aB1 (aE 3 rfl).toW (bL (by decide) (aD bW (aD bW aP))).toW) (aD (bE fZ (aE 4 rfl).toW bJ.toW) aP)))) (fun x51 => (iO (ΓM := fun (x72 : Unit) => [.no, .no, .fz x31, .fz x36.1, .fz x36.2, .ow x34, .fz x51, .no]) (jU trivial (lC (t_b (bE aB1 (aE 6 rfl).toW (jX 5 rfl)).toW) (t_b (dN aET (mY (vs := [7]) (i_e (tQ (aE 4 rfl).toW (lI bJ.toW) pD)).toW (tg1 7) (fun x58 => iX) (fun x58 => (bE wM (aJW aFK (aE 2 rfl).toW (aE 7 rfl).toW).toW bJ.toW))).toW).toW)) (eI trivial lU) (nS (z := ()) (.no (.no (.eq (.eq (.eq (.eq (.eq (.no .nil)))))))))) (fun x72 => (lE (f := fun (x74 : Q) => x74) (jH 5 rfl trivial (aE 6 rfl)) (fun x74 => (.no (.no (.eq (.no (.no (.eq (.no (.no .nil)))))))))))))))) (fun x76 => (eI trivial lU))))))))))))
theorem aBI {cl : Cll} {pc : Nat -> List Q -> Pm Q} (ih : ∀ f,FnS (frT f) (cl f) (pc f)) : FnS false (fun ws h => if ws.length = 1 then gK (jO cl (bH 8 ws) h) else .bad) (fun qs => if qs.length = 1 then (rZ pc qs).bind cH else .bad) :=
 iM (P := rZ pc) (ΓL := fun _ : Unit => []) (ΓN := fun _ : Unit => [.no, .no, .no, .no, .no, .no, .no, .no]) fun qs hq => match qs,hq with
  | [a_0],_ => aB8 ih a_0
def iQ (pc : Nat -> List Q -> Pm Q) (a_0 a_1 : Q) : Pm (Fl Unit Unit) :=
 (Pm.bind (Pm.bind (Pm.bind (Pm.bind (Pm.ret a_1) fun x7 => Pm.of (gV x7)) fun x8 => Pm.bind (Pm.bind (Pm.bind (Pm.bind (Pm.ret a_0) fun x3 => Pm.bind (Pm.bind (Pm.ret (Q.int 7)) fun x1 => Pm.bind (Pm.ret []) fun x2 => Pm.ret (x1 :: x2)) fun x4 => Pm.ret (x3 :: x4)) (pc aU)) fun x5 => Pm.bind (Pm.ret []) fun x6 => Pm.ret (x5 :: x6)) fun x9 => Pm.ret (x8 :: x9)) fun x10 => Pm.of (l2 x10)) fun (x11 : Q × Q) => (Pm.bind (Pm.bind (Pm.bind (Pm.bind (Pm.bind (Pm.bind (Pm.ret a_0) fun x22 => Pm.bind (Pm.bind (Pm.bind (Pm.ret x11.1) fun x19 => Pm.of (cJ x19)) fun x20 => Pm.bind (Pm.ret []) fun x21 => Pm.ret (x20 :: x21)) fun x23 => Pm.ret (x22 :: x23)) (pc aU)) fun x24 => Pm.bind (Pm.bind (Pm.bind (Pm.bind (Pm.ret a_0) fun x15 => Pm.bind (Pm.bind (Pm.bind (Pm.ret x11.1) fun x12 => Pm.of (cJ x12)) fun x13 => Pm.bind (Pm.ret []) fun x14 => Pm.ret (x13 :: x14)) fun x16 => Pm.ret (x15 :: x16)) (pc aU)) fun x17 => Pm.bind (Pm.ret []) fun x18 => Pm.ret (x17 :: x18)) fun x25 => Pm.ret (x24 :: x25)) fun x26 => Pm.ret (Q.tup x26)) fun x27 => Pm.of (un2 x27)) fun (x28 : Q × Q) => (Pm.bind (Pm.bind (Pm.bind (Pm.ret x11.1) fun x29 => Pm.bind (Pm.ret x28.1) fun x30 => Pm.of (qIx x29 x30)) fun x31 => Pm.of (un2 x31)) fun (x32 : Q × Q) => (Pm.seq (Pm.bind (Pm.bind (Pm.bind (Pm.ret x11.2) fun x33 => Pm.bind (Pm.ret (Q.int 0)) fun x34 => Pm.of (qEq x33 x34)) fun x35 => Pm.of (bT x35)) fun x211 => if x211 = true then (Pm.bind (fI "list" x11.1 (Pm.bind (Pm.bind (Pm.ret x11.1) fun x36 => Pm.bind (Pm.ret x28.1) fun x37 => Pm.of (qIx x36 x37)) fun x38 => Pm.of (dS x11.1 x38))) fun (x39 : Q) => Pm.ret (.nx x39)) else (Pm.bind (Pm.bind (Pm.bind (Pm.ret x11.2) fun x40 => Pm.bind (Pm.ret (Q.int 1)) fun x41 => Pm.of (qEq x40 x41)) fun x42 => Pm.of (bT x42)) fun x210 => if x210 = true then (Pm.bind (fI "list" x11.1 (Pm.bind (Pm.ret x28.1) fun x43 => Pm.of (rP x11.1 x43))) fun (x44 : Q × Q) => Pm.ret (.nx x44.2)) else (Pm.bind (Pm.bind (Pm.bind (Pm.ret x11.2) fun x45 => Pm.bind (Pm.ret (Q.int 2)) fun x46 => Pm.of (qEq x45 x46)) fun x47 => Pm.of (bT x47)) fun x209 => if x209 = true then (Pm.bind (Pm.bind (Pm.bind (Pm.bind (Pm.bind (Pm.ret x11.1) fun x52 => Pm.bind (Pm.ret x28.2) fun x53 => Pm.of (qIx x52 x53)) fun x54 => Pm.bind (Pm.bind (Pm.bind (Pm.ret x11.1) fun x48 => Pm.bind (Pm.ret x28.1) fun x49 => Pm.of (qIx x48 x49)) fun x50 => Pm.bind (Pm.ret []) fun x51 => Pm.ret (x50 :: x51)) fun x55 => Pm.ret (x54 :: x55)) fun x56 => Pm.ret (Q.tup x56)) fun x57 => Pm.bind (Pm.of (qPr x57)) fun x58 => Pm.bind (Pm.ret x28.1) fun x59 => Pm.bind (Pm.of (qK x11.1 x59 x58.1)) fun x60 => Pm.bind (Pm.ret x28.2) fun x61 => Pm.of (qK x60 x61 x58.2)) fun (x62 : Q) => Pm.ret (.nx x62)) else (Pm.bind (Pm.bind (Pm.bind (Pm.ret x11.2) fun x63 => Pm.bind (Pm.ret (Q.int 3)) fun x64 => Pm.of (qEq x63 x64)) fun x65 => Pm.of (bT x65)) fun x208 => if x208 = true then (Pm.bind (Pm.bind (Pm.bind (Pm.bind (Pm.bind (Pm.bind (Pm.ret a_0) fun x79 => Pm.bind (Pm.bind (Pm.bind (Pm.bind (Pm.ret (Q.str "infix")) fun x74 => Pm.bind (Pm.bind (Pm.ret (Q.str "prefix")) fun x72 => Pm.bind (Pm.bind (Pm.ret (Q.str "postfix")) fun x70 => Pm.bind (Pm.bind (Pm.ret (Q.str "closed")) fun x68 => Pm.bind (Pm.ret []) fun x69 => Pm.ret (x68 :: x69)) fun x71 => Pm.ret (x70 :: x71)) fun x73 => Pm.ret (x72 :: x73)) fun x75 => Pm.ret (x74 :: x75)) fun x76 => Pm.ret (Q.lst x76)) fun x77 => Pm.bind (Pm.ret []) fun x78 => Pm.ret (x77 :: x78)) fun x80 => Pm.ret (x79 :: x80)) (pc aZ)) fun x81 => Pm.bind (Pm.bind (Pm.ret x32.2) fun x66 => Pm.bind (Pm.ret []) fun x67 => Pm.ret (x66 :: x67)) fun x82 => Pm.ret (x81 :: x82)) fun x83 => Pm.ret (Q.tup x83)) fun x84 => Pm.bind (Pm.ret x28.1) fun x85 => Pm.of (mM x11.1 x85 x84)) fun (x86 : Q) => Pm.ret (.nx x86)) else (Pm.bind (Pm.bind (Pm.bind (Pm.ret x11.2) fun x87 => Pm.bind (Pm.ret (Q.int 4)) fun x88 => Pm.of (qEq x87 x88)) fun x89 => Pm.of (bT x89)) fun x207 => if x207 = true then (Pm.bind (Pm.bind (Pm.bind (Pm.ret a_0) fun x93 => Pm.bind (Pm.bind (Pm.bind (Pm.ret x32.2) fun x90 => Pm.of (cJ x90)) fun x91 => Pm.bind (Pm.ret []) fun x92 => Pm.ret (x91 :: x92)) fun x94 => Pm.ret (x93 :: x94)) (pc aU)) fun (x95 : Q) => (Pm.bind (Pm.bind (Pm.bind (Pm.bind (Pm.ret x32.1) fun x126 => Pm.bind (Pm.bind (Pm.bind (Pm.bind (Pm.bind (Pm.ret x32.2) fun x98 => Pm.bind (Pm.ret none) fun x99 => Pm.bind (Pm.bind (Pm.ret x95) fun x96 => Pm.bind (Pm.of (jJ x96)) fun x97 => Pm.ret (some x97)) fun x100 => Pm.of (qSl x98 x99 x100)) fun x113 => Pm.bind (Pm.bind (Pm.bind (Pm.bind (Pm.bind (Pm.ret a_0) fun x108 => Pm.bind (Pm.bind (Pm.bind (Pm.bind (Pm.bind (Pm.ret x11.1) fun x101 => Pm.bind (Pm.ret x28.2) fun x102 => Pm.of (qIx x101 x102)) fun x103 => Pm.bind (Pm.ret (Q.int 1)) fun x104 => Pm.of (qIx x103 x104)) fun x105 => Pm.of (gV x105)) fun x106 => Pm.bind (Pm.ret []) fun x107 => Pm.ret (x106 :: x107)) fun x109 => Pm.ret (x108 :: x109)) (pc aZ)) fun x110 => Pm.bind (Pm.ret []) fun x111 => Pm.ret (x110 :: x111)) fun x112 => Pm.ret (Q.tup x112)) fun x114 => Pm.of (iJ x113 x114)) fun x122 => Pm.bind (Pm.bind (Pm.ret x32.2) fun x119 => Pm.bind (Pm.bind (Pm.bind (Pm.ret x95) fun x115 => Pm.bind (Pm.ret (Q.int 1)) fun x116 => Pm.of (iJ x115 x116)) fun x117 => Pm.bind (Pm.of (jJ x117)) fun x118 => Pm.ret (some x118)) fun x120 => Pm.bind (Pm.ret none) fun x121 => Pm.of (qSl x119 x120 x121)) fun x123 => Pm.of (iJ x122 x123)) fun x124 => Pm.bind (Pm.ret []) fun x125 => Pm.ret (x124 :: x125)) fun x127 => Pm.ret (x126 :: x127)) fun x128 => Pm.ret (Q.tup x128)) fun x129 => Pm.bind (Pm.ret x28.1) fun x130 => Pm.of (mM x11.1 x130 x129)) fun (x131 : Q) => Pm.ret (.nx x131))) else (Pm.bind (Pm.bind (Pm.bind (Pm.ret x11.2) fun x132 => Pm.bind (Pm.ret (Q.int 5)) fun x133 => Pm.of (qEq x132 x133)) fun x134 => Pm.of (bT x134)) fun x206 => if x206 = true then (Pm.bind (Pm.bind (Pm.bind (Pm.bind (Pm.ret x32.1) fun x165 => Pm.bind (Pm.bind (Pm.bind (Pm.bind (Pm.bind (Pm.ret x32.2) fun x137 => Pm.bind (Pm.ret none) fun x138 => Pm.bind (Pm.bind (Pm.ret (Q.int 1)) fun x135 => Pm.bind (Pm.of (jJ x135)) fun x136 => Pm.ret (some x136)) fun x139 => Pm.of (qSl x137 x138 x139)) fun x152 => Pm.bind (Pm.bind (Pm.bind (Pm.bind (Pm.bind (Pm.ret a_0) fun x147 => Pm.bind (Pm.bind (Pm.bind (Pm.bind (Pm.bind (Pm.ret x11.1) fun x140 => Pm.bind (Pm.ret x28.2) fun x141 => Pm.of (qIx x140 x141)) fun x142 => Pm.bind (Pm.ret (Q.int 1)) fun x143 => Pm.of (qIx x142 x143)) fun x144 => Pm.of (gV x144)) fun x145 => Pm.bind (Pm.ret []) fun x146 => Pm.ret (x145 :: x146)) fun x148 => Pm.ret (x147 :: x148)) (pc aZ)) fun x149 => Pm.bind (Pm.ret []) fun x150 => Pm.ret (x149 :: x150)) fun x151 => Pm.ret (Q.tup x151)) fun x153 => Pm.of (iJ x152 x153)) fun x161 => Pm.bind (Pm.bind (Pm.ret x32.2) fun x158 => Pm.bind (Pm.bind (Pm.ret (Q.int 1)) fun x154 => Pm.bind (Pm.of (jJ x154)) fun x155 => Pm.ret (some x155)) fun x159 => Pm.bind (Pm.bind (Pm.ret (Q.int 2)) fun x156 => Pm.bind (Pm.of (jJ x156)) fun x157 => Pm.ret (some x157)) fun x160 => Pm.of (qSl x158 x159 x160)) fun x162 => Pm.of (iJ x161 x162)) fun x163 => Pm.bind (Pm.ret []) fun x164 => Pm.ret (x163 :: x164)) fun x166 => Pm.ret (x165 :: x166)) fun x167 => Pm.ret (Q.tup x167)) fun x168 => Pm.bind (Pm.ret x28.1) fun x169 => Pm.of (mM x11.1 x169 x168)) fun (x170 : Q) => Pm.ret (.nx x170)) else (Pm.bind (Pm.bind (Pm.bind (Pm.bind (Pm.ret a_0) fun x201 => Pm.bind (Pm.bind (Pm.bind (Pm.bind (Pm.ret Q.non) fun x196 => Pm.bind (Pm.bind (Pm.bind (Pm.bind (Pm.ret x32.1) fun x191 => Pm.bind (Pm.bind (Pm.bind (Pm.ret []) fun x188 => Pm.ret (Q.tup x188)) fun x189 => Pm.bind (Pm.ret []) fun x190 => Pm.ret (x189 :: x190)) fun x192 => Pm.ret (x191 :: x192)) fun x193 => Pm.ret (Q.tup x193)) fun x194 => Pm.bind (Pm.bind (Pm.bind (Pm.bind (Pm.ret x32.1) fun x183 => Pm.bind (Pm.bind (Pm.bind (Pm.ret x32.2) fun x180 => Pm.of (gV x180)) fun x181 => Pm.bind (Pm.ret []) fun x182 => Pm.ret (x181 :: x182)) fun x184 => Pm.ret (x183 :: x184)) fun x185 => Pm.ret (Q.tup x185)) fun x186 => Pm.bind (Pm.bind (Pm.bind (Pm.bind (Pm.ret x32.1) fun x175 => Pm.bind (Pm.bind (Pm.ret x32.2) fun x173 => Pm.bind (Pm.ret []) fun x174 => Pm.ret (x173 :: x174)) fun x176 => Pm.ret (x175 :: x176)) fun x177 => Pm.ret (Q.lst x177)) fun x178 => Pm.bind (Pm.bind (Pm.ret (Q.str "infix")) fun x171 => Pm.bind (Pm.ret []) fun x172 => Pm.ret (x171 :: x172)) fun x179 => Pm.ret (x178 :: x179)) fun x187 => Pm.ret (x186 :: x187)) fun x195 => Pm.ret (x194 :: x195)) fun x197 => Pm.ret (x196 :: x197)) fun x198 => Pm.ret (Q.lst x198)) fun x199 => Pm.bind (Pm.ret []) fun x200 => Pm.ret (x199 :: x200)) fun x202 => Pm.ret (x201 :: x202)) (pc aZ)) fun x203 => Pm.bind (Pm.ret x28.1) fun x204 => Pm.of (mM x11.1 x204 x203)) fun (x205 : Q) => Pm.ret (.nx x205)))))))) (fun (x212 : Q) => (Pm.bind (Pm.bind (Pm.ret x212) fun x213 => Pm.of (nK x213)) fun x214 => Pm.ret (.ret x214)))))))
def lZ (pc : Nat -> List Q -> Pm Q) (qs : List Q) : Pm (Fl Unit Unit) := match qs with
 | [a_0,a_1] => iQ pc a_0 a_1
 | _ => .bad
theorem wZ {cl : Cll} {pc : Nat -> List Q -> Pm Q} (ih : ∀ f,FnS (frT f) (cl f) (pc f)) (a_0 a_1 : Q) : SS' false (fun _ : Unit => []) none [.fz a_0, .fz a_1, .no, .no, .no, .no, .no, .no, .no] (eP cl) (iQ pc a_0 a_1) (fun _ : Unit => [.no, .no, .no, .no, .no, .no, .no, .no, .no]) :=
 (cN (aG9 trivial (aJT (sE pH (aE 1 rfl).toW) (aJU (cB (ih aU) (aD (aE 0 rfl) (aD bJ aP))) aGa))) (fun x11 => (cN (vA (tg2 4 5) trivial (bL (by decide) (aD (cB (ih aU) (aD (aE 0 rfl) (aD (dN kF (jX 2 rfl)) aP))) (aD (cB (ih aU) (aD (aE 0 rfl) (aD (dN kF (jX 2 rfl)) aP))) aP)))) (fun x28 => (cN (vA (tg2 6 7) trivial (bE fZ (jX 2 rfl) (aE 4 rfl).toW)) (fun x32 => (iO (ΓM := fun (x212 : Q) => [.no, .no, .ow x212, .no, .no, .no, .no, .no, .no]) (jU trivial (t_b (bE rR (aE 3 rfl).toW bJ.toW).toW) (lE (f := fun (x39 : Q) => x39) (jH 2 rfl trivial (bE fZ (jX 2 rfl) (aE 4 rfl).toW)) (fun x39 => (.no (.no (.eq (.no (.no (.no (.no (.no (.no .nil))))))))))) (jU trivial (t_b (bE rR (aE 3 rfl).toW bJ.toW).toW) (lE (f := fun (x44 : Q × Q) => x44.2) (aEa 2 rfl trivial (aE 4 rfl)) (fun x44 => (.no (.no (.eq (.no (.no (.no (.no (.no (.no .nil))))))))))) (jU trivial (t_b (bE rR (aE 3 rfl).toW bJ.toW).toW) (lE (f := fun (x62 : Q) => x62) (aIU 2 rfl trivial (fun _ => trivial) (bL (by decide) (aD (bE fZ (jX 2 rfl) (aE 5 rfl).toW) (aD (bE fZ (jX 2 rfl) (aE 4 rfl).toW) aP))) (aE 4 rfl) (fun _ => (aE 5 rfl))) (fun x62 => (.no (.no (.eq (.no (.no (.no (.no (.no (.no .nil))))))))))) (jU trivial (t_b (bE rR (aE 3 rfl).toW bJ.toW).toW) (lE (f := fun (x86 : Q) => x86) (vB 2 rfl trivial (bL (by decide) (aD (cB (ih aZ) (aD (aE 0 rfl) (aD (pY (by decide) (aD bW (aD bW (aD bW (aD bW aP))))).toS aP))) (aD (aE 7 rfl) aP))) (aE 4 rfl)) (fun x86 => (.no (.no (.eq (.no (.no (.no (.no (.no (.no .nil))))))))))) (jU trivial (t_b (bE rR (aE 3 rfl).toW bJ.toW).toW) (cN (oD 8 trivial (cB (ih aU) (aD (aE 0 rfl) (aD (dN kF (aE 7 rfl).toW) aP)))) (fun x95 => (lE (f := fun (x131 : Q) => x131) (vB 2 rfl trivial (bL (by decide) (aD (aE 6 rfl) (aD (bE uZ (bE uZ (tQ (aE 7 rfl).toW pD (lI (aE 8 rfl).toW)).toW (bL (by decide) (aD (cB (ih aZ) (aD (aE 0 rfl) (aD (sE pH (bE fZ (bE fZ (jX 2 rfl) (aE 5 rfl).toW).toW bJ.toW).toW).toS aP))) aP)).toW).toW (tQ (aE 7 rfl).toW (lI (bE uZ (aE 8 rfl).toW bJ.toW).toW) pD).toW) aP))) (aE 4 rfl)) (fun x131 => (.no (.no (.eq (.no (.no (.no (.no (.no (.no .nil))))))))))))) (jU trivial (t_b (bE rR (aE 3 rfl).toW bJ.toW).toW) (lE (f := fun (x170 : Q) => x170) (vB 2 rfl trivial (bL (by decide) (aD (aE 6 rfl) (aD (bE uZ (bE uZ (tQ (aE 7 rfl).toW pD (lI bJ.toW)).toW (bL (by decide) (aD (cB (ih aZ) (aD (aE 0 rfl) (aD (sE pH (bE fZ (bE fZ (jX 2 rfl) (aE 5 rfl).toW).toW bJ.toW).toW).toS aP))) aP)).toW).toW (tQ (aE 7 rfl).toW (lI bJ.toW) (lI bJ.toW)).toW) aP))) (aE 4 rfl)) (fun x170 => (.no (.no (.eq (.no (.no (.no (.no (.no (.no .nil))))))))))) (lE (f := fun (x205 : Q) => x205) (vB 2 rfl trivial (cB (ih aZ) (aD (aE 0 rfl) (aD (pY (by decide) (aD aED (aD (bL (by decide) (aD (aE 6 rfl) (aD (bL (by decide) aP) aP))) (aD (bL (by decide) (aD (aE 6 rfl) (aD (sE pH (aE 7 rfl).toW).toS aP))) (aD (pY (by decide) (aD (aE 6 rfl) (aD (aE 7 rfl) aP))).toS (aD bW aP)))))).toS aP))) (aE 4 rfl)) (fun x205 => (.no (.no (.eq (.no (.no (.no (.no (.no (.no .nil))))))))))))))))) (fun x212 => (aBA 2 rfl (eI trivial (dN wN (aE 2 rfl).toW)))))))))))
theorem vX {cl : Cll} {pc : Nat -> List Q -> Pm Q} (ih : ∀ f,FnS (frT f) (cl f) (pc f)) : FnS false (fun ws h => if ws.length = 2 then gK (eP cl (bH 9 ws) h) else .bad) (fun qs => if qs.length = 2 then (lZ pc qs).bind cH else .bad) :=
 iM (P := lZ pc) (ΓL := fun _ : Unit => []) (ΓN := fun _ : Unit => [.no, .no, .no, .no, .no, .no, .no, .no, .no]) fun qs hq => match qs,hq with
  | [a_0,a_1],_ => wZ ih a_0 a_1
def pA (pc : Nat -> List Q -> Pm Q) (a_0 : Q) (x5 : Q) (x144 : Q) (x136 : Q) : Pm (Fl (Q) (Q)) :=
 (Pm.bind (fI "list" x136 (Pm.bind (Pm.bind (Pm.bind (Pm.ret a_0) fun x147 => Pm.bind (Pm.bind (Pm.ret x5) fun x145 => Pm.bind (Pm.ret []) fun x146 => Pm.ret (x145 :: x146)) fun x148 => Pm.ret (x147 :: x148)) (pc dU)) fun x149 => Pm.of (dS x136 x149))) fun (x150 : Q) => Pm.ret (.nx x150))
def fT (pc : Nat -> List Q -> Pm Q) (x155 : Q) (x153 : Unit) : Pm (Fl (Unit) (Unit)) :=
 (Pm.bind (Pm.bind (Pm.bind (Pm.bind (Pm.bind (Pm.ret x155) fun x161 => Pm.of (fX x161)) fun x162 => Pm.bind (Pm.bind (Pm.bind (Pm.bind (Pm.bind (Pm.ret x155) fun x156 => Pm.bind (Pm.ret []) fun x157 => Pm.ret (x156 :: x157)) (pc cY)) fun x158 => Pm.of (fX x158)) fun x159 => Pm.bind (Pm.ret []) fun x160 => Pm.ret (x159 :: x160)) fun x163 => Pm.ret (x162 :: x163)) fun x164 => Pm.ret (Q.tup x164)) fun x165 => Pm.of (un2 x165)) fun (x166 : Q × Q) => (Pm.bind (Pm.bind (Pm.bind (Pm.bind (Pm.bind (Pm.bind (Pm.bind (Pm.ret x155) fun x179 => Pm.bind (Pm.ret []) fun x180 => Pm.ret (x179 :: x180)) (pc aL)) fun x181 => Pm.of (fX x181)) fun x182 => Pm.bind (Pm.ret x166.2) fun x183 => Pm.of (qNe x182 x183)) fun x184 => Pm.of (bT x184)) fun x185 => if x185 = true then Pm.ret true else (Pm.bind (Pm.bind (Pm.bind (Pm.bind (Pm.bind (Pm.bind (Pm.ret x155) fun x171 => Pm.bind (Pm.ret []) fun x172 => Pm.ret (x171 :: x172)) fun x173 => Pm.bind (Pm.of (dR [0] x173)) (pc aL)) fun x174 => Pm.of (fX x174)) fun x175 => Pm.bind (Pm.ret x166.2) fun x176 => Pm.of (qNe x175 x176)) fun x177 => Pm.of (bT x177)) fun x178 => if x178 = true then Pm.ret true else (Pm.bind (Pm.bind (Pm.bind (Pm.ret x155) fun x167 => Pm.of (fX x167)) fun x168 => Pm.bind (Pm.ret x166.1) fun x169 => Pm.of (qNe x168 x169)) fun x170 => Pm.of (bT x170)))) fun x187 => if x187 = true then (Pm.bind (Pm.ret (Q.bl false)) fun x186 => Pm.ret (.ret x186)) else (Pm.ret (.nx ()))))
def lG (pc : Nat -> List Q -> Pm Q) (a_0 : Q) : Pm (Fl Unit Unit) :=
 (Pm.bind (Pm.bind (Pm.bind (Pm.ret a_0) fun x3 => Pm.bind (Pm.bind (Pm.ret (Q.int 12)) fun x1 => Pm.bind (Pm.ret []) fun x2 => Pm.ret (x1 :: x2)) fun x4 => Pm.ret (x3 :: x4)) (pc cW)) fun (x5 : Q) => (Pm.bind (Pm.ret (Q.str "abcdefghijklm")) fun (x6 : Q) => (Pm.bind (Pm.bind (Pm.bind (Pm.ret x5) fun x29 => Pm.bind (Pm.bind (Pm.bind (Pm.ret []) fun x26 => Pm.ret (Q.tup x26)) fun x27 => Pm.bind (Pm.bind (Pm.bind (Pm.ret []) fun x23 => Pm.ret (Q.lst x23)) fun x24 => Pm.bind (Pm.bind (Pm.ret Q.non) fun x21 => Pm.bind (Pm.bind (Pm.ret (Q.bl true)) fun x19 => Pm.bind (Pm.bind (Pm.ret (Q.str "")) fun x17 => Pm.bind (Pm.bind (Pm.ret (Q.dK [])) fun x15 => Pm.bind (Pm.bind (Pm.bind (Pm.ret x5) fun x12 => Pm.of (gV x12)) fun x13 => Pm.bind (Pm.bind (Pm.bind (Pm.bind (Pm.ret x5) fun x7 => Pm.bind (Pm.ret []) fun x8 => Pm.ret (x7 :: x8)) fun x9 => Pm.ret (Q.tup x9)) fun x10 => Pm.bind (Pm.ret []) fun x11 => Pm.ret (x10 :: x11)) fun x14 => Pm.ret (x13 :: x14)) fun x16 => Pm.ret (x15 :: x16)) fun x18 => Pm.ret (x17 :: x18)) fun x20 => Pm.ret (x19 :: x20)) fun x22 => Pm.ret (x21 :: x22)) fun x25 => Pm.ret (x24 :: x25)) fun x28 => Pm.ret (x27 :: x28)) fun x30 => Pm.ret (x29 :: x30)) fun x31 => Pm.ret (Q.lst x31)) fun (x32 : Q) => (Pm.bind (fI "list" x32 (Pm.bind (Pm.bind (Pm.bind (Pm.bind (Pm.bind (Pm.ret x6) fun x35 => Pm.bind (Pm.ret none) fun x36 => Pm.bind (Pm.bind (Pm.ret (Q.int 12)) fun x33 => Pm.bind (Pm.of (jJ x33)) fun x34 => Pm.ret (some x34)) fun x37 => Pm.of (qSl x35 x36 x37)) fun x38 => Pm.of (dD x38)) fun x40 => lcP some (fun (x39 : Q) => (Pm.ret true)) (fun (x39 : Q) => (Pm.bind (Pm.bind (Pm.ret (Q.str "infix")) fun x46 => Pm.bind (Pm.bind (Pm.bind (Pm.bind (Pm.ret x39) fun x41 => Pm.bind (Pm.ret []) fun x42 => Pm.ret (x41 :: x42)) fun x43 => Pm.ret (Q.tup x43)) fun x44 => Pm.bind (Pm.ret []) fun x45 => Pm.ret (x44 :: x45)) fun x47 => Pm.ret (x46 :: x47)) fun x48 => Pm.ret (Q.tup x48))) x40) fun x49 => Pm.of (nK x49)) fun x50 => Pm.of (dS x32 x50))) fun (x51 : Q) => (Pm.bind (fI "list" x51 (Pm.bind (Pm.bind (Pm.bind (Pm.bind (Pm.ret x6) fun x52 => Pm.of (dD x52)) fun x54 => lcP some (fun (x53 : Q) => (Pm.ret true)) (fun (x53 : Q) => (Pm.bind (Pm.bind (Pm.ret (Q.str "infix")) fun x60 => Pm.bind (Pm.bind (Pm.bind (Pm.bind (Pm.ret x53) fun x55 => Pm.bind (Pm.ret []) fun x56 => Pm.ret (x55 :: x56)) fun x57 => Pm.ret (Q.tup x57)) fun x58 => Pm.bind (Pm.ret []) fun x59 => Pm.ret (x58 :: x59)) fun x61 => Pm.ret (x60 :: x61)) fun x62 => Pm.ret (Q.tup x62))) x54) fun x63 => Pm.of (nK x63)) fun x64 => Pm.of (dS x51 x64))) fun (x65 : Q) => (Pm.bind (fI "list" x65 (Pm.bind (Pm.bind (Pm.bind (Pm.bind (Pm.bind (Pm.ret (Q.str "prefix")) fun x93 => Pm.bind (Pm.bind (Pm.bind (Pm.bind (Pm.ret (Q.str "-")) fun x88 => Pm.bind (Pm.ret []) fun x89 => Pm.ret (x88 :: x89)) fun x90 => Pm.ret (Q.tup x90)) fun x91 => Pm.bind (Pm.ret []) fun x92 => Pm.ret (x91 :: x92)) fun x94 => Pm.ret (x93 :: x94)) fun x95 => Pm.ret (Q.tup x95)) fun x96 => Pm.bind (Pm.bind (Pm.bind (Pm.bind (Pm.ret (Q.str "infix")) fun x83 => Pm.bind (Pm.bind (Pm.bind (Pm.bind (Pm.ret (Q.str "-")) fun x78 => Pm.bind (Pm.ret []) fun x79 => Pm.ret (x78 :: x79)) fun x80 => Pm.ret (Q.tup x80)) fun x81 => Pm.bind (Pm.ret []) fun x82 => Pm.ret (x81 :: x82)) fun x84 => Pm.ret (x83 :: x84)) fun x85 => Pm.ret (Q.tup x85)) fun x86 => Pm.bind (Pm.bind (Pm.bind (Pm.bind (Pm.ret (Q.str "infix")) fun x73 => Pm.bind (Pm.bind (Pm.bind (Pm.bind (Pm.ret (Q.str "+")) fun x68 => Pm.bind (Pm.bind (Pm.ret (Q.str "-")) fun x66 => Pm.bind (Pm.ret []) fun x67 => Pm.ret (x66 :: x67)) fun x69 => Pm.ret (x68 :: x69)) fun x70 => Pm.ret (Q.tup x70)) fun x71 => Pm.bind (Pm.ret []) fun x72 => Pm.ret (x71 :: x72)) fun x74 => Pm.ret (x73 :: x74)) fun x75 => Pm.ret (Q.tup x75)) fun x76 => Pm.bind (Pm.ret []) fun x77 => Pm.ret (x76 :: x77)) fun x87 => Pm.ret (x86 :: x87)) fun x97 => Pm.ret (x96 :: x97)) fun x98 => Pm.ret (Q.tup x98)) fun x99 => Pm.of (dS x65 x99))) fun (x100 : Q) => (Pm.bind (fI "list" x100 (Pm.bind (Pm.bind (Pm.bind (Pm.bind (Pm.bind (Pm.ret (Q.str "prefix")) fun x128 => Pm.bind (Pm.bind (Pm.bind (Pm.bind (Pm.ret (Q.str "-")) fun x123 => Pm.bind (Pm.ret []) fun x124 => Pm.ret (x123 :: x124)) fun x125 => Pm.ret (Q.tup x125)) fun x126 => Pm.bind (Pm.ret []) fun x127 => Pm.ret (x126 :: x127)) fun x129 => Pm.ret (x128 :: x129)) fun x130 => Pm.ret (Q.tup x130)) fun x131 => Pm.bind (Pm.bind (Pm.bind (Pm.bind (Pm.ret (Q.str "postfix")) fun x118 => Pm.bind (Pm.bind (Pm.bind (Pm.bind (Pm.ret (Q.str "-")) fun x113 => Pm.bind (Pm.ret []) fun x114 => Pm.ret (x113 :: x114)) fun x115 => Pm.ret (Q.tup x115)) fun x116 => Pm.bind (Pm.ret []) fun x117 => Pm.ret (x116 :: x117)) fun x119 => Pm.ret (x118 :: x119)) fun x120 => Pm.ret (Q.tup x120)) fun x121 => Pm.bind (Pm.bind (Pm.bind (Pm.bind (Pm.ret (Q.str "closed")) fun x108 => Pm.bind (Pm.bind (Pm.bind (Pm.bind (Pm.ret (Q.str "[")) fun x103 => Pm.bind (Pm.bind (Pm.ret (Q.str "]")) fun x101 => Pm.bind (Pm.ret []) fun x102 => Pm.ret (x101 :: x102)) fun x104 => Pm.ret (x103 :: x104)) fun x105 => Pm.ret (Q.tup x105)) fun x106 => Pm.bind (Pm.ret []) fun x107 => Pm.ret (x106 :: x107)) fun x109 => Pm.ret (x108 :: x109)) fun x110 => Pm.ret (Q.tup x110)) fun x111 => Pm.bind (Pm.ret []) fun x112 => Pm.ret (x111 :: x112)) fun x122 => Pm.ret (x121 :: x122)) fun x132 => Pm.ret (x131 :: x132)) fun x133 => Pm.ret (Q.tup x133)) fun x134 => Pm.of (dS x100 x134))) fun (x135 : Q) => (Pm.seq (Pm.bind (Pm.bind (Pm.bind (Pm.ret (Q.int 25)) fun x141 => Pm.bind (Pm.bind (Pm.bind (Pm.ret x5) fun x138 => Pm.bind (Pm.bind (Pm.ret []) fun x137 => Pm.ret (Q.tup x137)) fun x139 => Pm.of (qNe x138 x139)) fun x140 => Pm.of (wJ x140)) fun x142 => Pm.of (wK x141 x142)) fun x143 => Pm.of (sU x143)) fun x151 => nA some (pA pc a_0 x5) x151 x135) (fun (x152 : Q) => (Pm.seq (Pm.bind (Pm.bind (Pm.ret x152) fun x154 => Pm.of (dD x154)) fun x188 => nA some (fT pc) x188 ()) (fun (x189 : Unit) => (Pm.bind (Pm.bind (Pm.bind (Pm.bind (Pm.ret x5) fun x190 => Pm.bind (Pm.ret []) fun x191 => Pm.ret (x190 :: x191)) (pc aL)) fun x192 => Pm.bind (Pm.ret (Q.bl true)) fun x193 => Pm.of (qIs x192 x193)) fun x194 => Pm.ret (.ret x194)))))))))))))
def oS (pc : Nat -> List Q -> Pm Q) (qs : List Q) : Pm (Fl Unit Unit) := match qs with
 | [a_0] => lG pc a_0
 | _ => .bad
theorem aAq {cl : Cll} {pc : Nat -> List Q -> Pm Q} (ih : ∀ f,FnS (frT f) (cl f) (pc f)) (a_0 : Q) : SS' false (fun _ : Unit => []) none [.fz a_0, .no, .no, .no, .no, .no, .no, .no, .no] (gQ cl) (lG pc a_0) (fun _ : Unit => [.no, .no, .no, .no, .no, .no, .no, .no, .no]) :=
 (cN (oD 1 trivial (cB (ih cW) (aD (aE 0 rfl) (aD bJ aP)))) (fun x5 => (cN (oD 2 trivial bW) (fun x6 => (cN (aAg 3 trivial (pY (by decide) (aD (aE 1 rfl) (aD (bL (by decide) aP) (aD (pY (by decide) aP).toS (aD aED (aD lU (aD bW (aD aIf.toS (aD (sE pH (aE 1 rfl).toW).toS (aD (bL (by decide) (aD (aE 1 rfl) aP)) aP))))))))))) (fun x32 => (cN (jH 3 rfl trivial (dN wN (mY (vs := [4]) (i_e (tQ (aE 2 rfl).toW pD (lI bJ.toW))).toW (tg1 4) (fun x39 => iX) (fun x39 => (bL (by decide) (aD bW (aD (bL (by decide) (aD (aE 4 rfl) aP)) aP))))).toW)) (fun x51 => (cN (jH 3 rfl trivial (dN wN (mY (vs := [4]) (i_e (aE 2 rfl)).toW (tg1 4) (fun x53 => iX) (fun x53 => (bL (by decide) (aD bW (aD (bL (by decide) (aD (aE 4 rfl) aP)) aP))))).toW)) (fun x65 => (cN (jH 3 rfl trivial (bL (by decide) (aD (bL (by decide) (aD bW (aD (bL (by decide) (aD bW aP)) aP))) (aD (bL (by decide) (aD bW (aD (bL (by decide) (aD bW aP)) aP))) (aD (bL (by decide) (aD bW (aD (bL (by decide) (aD bW (aD bW aP))) aP))) aP))))) (fun x100 => (cN (jH 3 rfl trivial (bL (by decide) (aD (bL (by decide) (aD bW (aD (bL (by decide) (aD bW aP)) aP))) (aD (bL (by decide) (aD bW (aD (bL (by decide) (aD bW aP)) aP))) (aD (bL (by decide) (aD bW (aD (bL (by decide) (aD bW (aD bW aP))) aP))) aP))))) (fun x135 => (iO (xY (Γ0 := fun (x136 : Q) => [.fz a_0, .fz x5, .no, .ow x136, .no, .no, .no, .no, .no]) (z := x135) trivial (aJ6 (bE aIS bJ.toW (dN aIR (bE wM (aE 1 rfl).toW (bL (by decide) aP).toW).toW).toW).toW) (.eq (.eq (.no (.eq (.no (.no (.no (.no (.no .nil))))))))) (tg1 5) (fun x144 x136 => (lE (f := fun (x150 : Q) => x150) (jH 3 rfl trivial (cB (ih dU) (aD (aE 0 rfl) (aD (aE 1 rfl) aP)))) (fun x150 => (.eq (.eq (.no (.eq (.no (.no (.no (.no (.no .nil))))))))))))) (fun x152 => (aBA 3 rfl (iO (xY (Γ0 := fun (x153 : Unit) => [.no, .fz x5, .no, .no, .no, .no, .no, .no, .no]) (z := ()) trivial (i_e (aE 3 rfl)) (.no (.eq (.no (.no (.no (.no (.no (.no (.no .nil))))))))) (tg1 6) (fun x155 x153 => (cN (vA (tg2 7 8) trivial (bL (by decide) (aD (dN pI (aE 6 rfl).toW) (aD (dN pI (cB (ih cY) (aD (aE 6 rfl) aP)).toW) aP)))) (fun x166 => (jU trivial (lC (t_b (bE wM (dN pI (cB (ih aL) (aD (aE 6 rfl) aP)).toW).toW (aE 8 rfl).toW).toW) (lC (t_b (bE wM (dN pI (aE9 (ih aL) (aD (aE 6 rfl) aP)).toW).toW (aE 8 rfl).toW).toW) (t_b (bE wM (dN pI (aE 6 rfl).toW).toW (aE 7 rfl).toW).toW))) (eI trivial lU) (nS (z := ()) (.no (.eq (.no (.no (.no (.no (.no (.no (.no .nil))))))))))))))) (fun x189 => (eI trivial (bE aKV (cB (ih aL) (aD (aE 1 rfl) aP)).toW lU.toW)))))))))))))))))))))
theorem yZ {cl : Cll} {pc : Nat -> List Q -> Pm Q} (ih : ∀ f,FnS (frT f) (cl f) (pc f)) : FnS false (fun ws h => if ws.length = 1 then gK (gQ cl (bH 9 ws) h) else .bad) (fun qs => if qs.length = 1 then (oS pc qs).bind cH else .bad) :=
 iM (P := oS pc) (ΓL := fun _ : Unit => []) (ΓN := fun _ : Unit => [.no, .no, .no, .no, .no, .no, .no, .no, .no]) fun qs hq => match qs,hq with
  | [a_0],_ => aAq ih a_0
def PT : tK := fun f => match f with
 | 0 => some (fun pc _ qs => if qs.length = 1 then (qS pc qs).bind cH else .bad)
 | 1 => some (fun pc _ qs => if qs.length = 1 then (rY pc qs).bind cH else .bad)
 | 2 => some (fun pc _ qs => if qs.length = 1 then (lY pc qs).bind cH else .bad)
 | 3 => some (fun pc _ qs => if qs.length = 1 then (jK pc qs).bind cH else .bad)
 | 4 => some (fun pc _ qs => if qs.length = 1 then (lD pc qs).bind cH else .bad)
 | 5 => some (fun pc _ qs => if qs.length = 1 then (hU pc qs).bind cH else .bad)
 | 7 => some (fun _ => iU)
 | 8 => some (fun pc _ qs => if qs.length = 2 then (qT pc qs).bind cH else .bad)
 | 11 => some (fun _ => eX)
 | 12 => some (fun pc _ qs => if qs.length = 1 then (rZ pc qs).bind cH else .bad)
 | 13 => some (fun pc _ qs => if qs.length = 2 then (lZ pc qs).bind cH else .bad)
 | 14 => some (fun pc _ qs => if qs.length = 1 then (oS pc qs).bind cH else .bad)
 | _ => none
theorem nO : ∀ (k f : Nat),FnS (frT f) (aW T k f) (aK PT k f)
 | 0,f => aDw
 | k + 1,f => match f with
  | 0 => eC (n := 2) (np := 1) (m := hY) rfl rfl (aAE (nO k))
  | 1 => eC (n := 1) (np := 1) (m := jN) rfl rfl (aBH (nO k))
  | 2 => eC (n := 4) (np := 1) (m := eO) rfl rfl (vW (nO k))
  | 3 => eC (n := 1) (np := 1) (m := dG) rfl rfl (tE (nO k))
  | 4 => eC (n := 2) (np := 1) (m := eH) rfl rfl (uQ (nO k))
  | 5 => eC (n := 7) (np := 1) (m := cO) rfl rfl (qU (nO k))
  | 6 => mZ rfl
  | 7 => yV rfl (aAT k)
  | 8 => eC (n := 2) (np := 2) (m := eU) rfl rfl (aAF (nO k))
  | 9 => mZ rfl
  | 10 => mZ rfl
  | 11 => yV rfl (uH k)
  | 12 => eC (n := 8) (np := 1) (m := jO) rfl rfl (aBI (nO k))
  | 13 => eC (n := 9) (np := 2) (m := eP) rfl rfl (vX (nO k))
  | 14 => eC (n := 9) (np := 1) (m := gQ) rfl rfl (yZ (nO k))
  | 15 => mZ rfl
  | f + 16 => mZ rfl
theorem aAB {k : Nat} {a_0 : Q} : aK PT (k + 1) hW [a_0] = (mH (aK PT k) a_0).bind cH := rfl
theorem aBD {k : Nat} {a_0 : Q} : aK PT (k + 1) jM [a_0] = (oA (aK PT k) a_0).bind cH := rfl
theorem fP {k : Nat} {a_0 : Q} : aK PT (k + 1) bB [a_0] = (dA (aK PT k) a_0).bind cH := rfl
theorem tD {k : Nat} {a_0 : Q} : aK PT (k + 1) bN [a_0] = (gL (aK PT k) a_0).bind cH := rfl
theorem uN {k : Nat} {a_0 : Q} : aK PT (k + 1) bG [a_0] = (iC (aK PT k) a_0).bind cH := rfl
theorem eJ {k : Nat} {a_0 : Q} : aK PT (k + 1) aL [a_0] = (cD (aK PT k) a_0).bind cH := rfl
theorem aAD {k : Nat} {a_0 a_1 : Q} : aK PT (k + 1) aZ [a_0,a_1] = (mJ (aK PT k) a_0 a_1).bind cH := rfl
theorem mE {k : Nat} {a_0 : Q} : aK PT (k + 1) cY [a_0] = (hM (aK PT k) a_0).bind cH := rfl
theorem vS {k : Nat} {a_0 a_1 : Q} : aK PT (k + 1) dU [a_0,a_1] = (iQ (aK PT k) a_0 a_1).bind cH := rfl
theorem yR {k : Nat} {a_0 : Q} : aK PT (k + 1) eE [a_0] = (lG (aK PT k) a_0).bind cH := rfl
theorem aAC {k : Nat} {qs : List Q} : aK PT (k + 1) aU qs = iU k qs := rfl
theorem tP {k : Nat} {qs : List Q} : aK PT (k + 1) cW qs = eX k qs := rfl
end LW
end
section
namespace LW
open PV PySem PySem.Spec PyProof.Rows L2
theorem aCW (k : Nat) {n : Int} {K : Rs Q -> Nat -> Prop} {c : Nat} (h1 : 0 < n) (h2 : n < 1073741824) (hc : c < 1000000000) (h : ∀ r : Nat,(r : Int) < n -> K (.ok (.int r)) (c + 1)) : aK PT (k + 1) aU [.src, .int n] K c := by
 rw [aAC]
 exact ⟨⟨h1,h2,hc⟩,h⟩
theorem aG1 (k : Nat) {l : List Q} {K : Rs Q -> Nat -> Prop} {c : Nat} (h1 : 0 < l.length) (h2 : l.length < 1073741824) (hc : c < 1000000000) (h : ∀ x ∈ l,K (.ok x) (c + 1)) : aK PT (k + 2) aZ [.src, .lst l] K c := by
 rw [aAD]
 simp only [mJ,aA,aI,aDY,aC]
 refine aCW k (by omega) (by omega) hc fun r hr => ?_
 have hr' : r < l.length := by omega
 simp only [gS,zZ (List.getElem?_eq_getElem hr'),aC,aA,dF]
 exact h _ (List.getElem_mem hr')
end LW
end
section
namespace LW
open PV PySem PySem.Spec PyProof.Rows L2
theorem aDS (hr : ∀ {h : Hh} {i : Nat},Sr h i 0 -> ∃ h',Ux [i] h h' /\ aW T 199 eE [.ref i] h = .ok (.bl true) h') : xX := by
 intro ns _
 refine ⟨[], ?_⟩
 rw [jL (d := ⟨2,1,sQ⟩) rfl]
 obtain ⟨n,hn,en⟩ : ∃ n : Nat,n <= 3 /\ ∀ h,(mOp tX (mC (.int 1)) (mOp tZ (mF1 cG (mV 0)) (mC (.int 3)))) [some (.fl (ns.map .int)),none] h = .ok (.int n) h := by
  refine ⟨(if (if (3 : Int) < ns.length then 3 else (ns.length : Int)) > 1 then (if (3 : Int) < ns.length then 3 else (ns.length : Int)) else 1).toNat, ?_,fun h => ?_⟩
  ·split <;> (try split) <;> omega
  ·simp
   split <;> (try split) <;> omega
 have key := aGC (mi := kP (mOp tX (mC (.int 1)) (mOp tZ (mF1 cG (mV 0)) (mC (.int 3))))) (t := .nm 1) (me := bA (aW T 199) eE (aB [(bA (aW T 199) jY (aB [(mV 0),(mV 1)]))])) (vs := [1]) (σ := [some (.fl (ns.map .int)),none]) (h := []) (h1 := []) (src := qP 0 n) (ws := (List.range n).map fun (i : Nat) => D.int (0 + (i : Nat))) (fun _ => .bl true)
  (tY (en []) (by omega)) (fun j => sY j) (by simp only [List.length_map,List.length_range]; exact szl (by omega)) (fun w hw => by
   obtain ⟨j,hj,rfl⟩ := List.mem_map.mp hw
   have hj := List.mem_range.mp hj
   obtain ⟨a,b,es⟩ := aDl 198 (h := []) (ns := ns) (j := j) (by omega)
   refine ⟨_,rfl, ?_,rfl⟩
   obtain ⟨h',u,er⟩ := hr (h := [] ++ [.lst [.int a, .int b, .int 0]]) (i := 0) ⟨a,b,0,rfl,by omega,by omega⟩
   have gl := aDz (h := []) u (w := .bl true) (by simp)
   have es' := aGr (h := []) (h' := []) (ws := [.int a, .int b, .int 0]) (by simp) rfl
   simp [dM,es,es'] 
   simp at er gl
   rw [er,gl])
 have ea : ∀ l : List D,kM (.tl (l.map fun _ => D.bl true)) [] = .ok (.bl true) [] := fun l => aBx
 simp only [sQ,bH,aDN,aGE]
 simp only [List.map_cons,List.map_nil,List.length_cons,List.length_nil,if_true]
 erw [key]
 rw [R.bind_ok,ea]
 rfl
end LW
end
section
namespace LW
open PV PySem PySem.Spec PyProof.Rows L2
theorem aFz (hp : aK PT 199 eE [.src] (fun r _ => r = .ok (.bl true)) 0) : xX := aDS fun e => aCO (nO 199 eE) hp e
end LW
end
section
namespace LW
open PV PySem PySem.Spec PyProof.Rows L2
def wA : Q -> Bool
 | .tup _ => true
 | _ => false
def aGw : Q -> Bool
 | .str _ => true
 | _ => false
def dQ : Q -> Bool
 | .non => true
 | .bl _ => true
 | .int _ => true
 | .str _ => true
 | .tup _ => true
 | .lst _ => true
 | .dK _ => true
 | _ => false
theorem sM {q : Q} (h : dQ q = true) : bU q (.ty "tuple") = some (.bl (wA q)) := by cases q <;> first | rfl | cases h
theorem isi_str {q : Q} (h : dQ q = true) : bU q (.ty "str") = some (.bl (aGw q)) := by cases q <;> first | rfl | cases h
def aEv (w : Str) : Bool := decide (1 <= w.length) && decide (w.length <= 8) && w.cps.toList.all fun c => decide ((" " : Str).cps.toList < [c]) && !decide (("~" : Str).cps.toList < [c])
def W02 : List Str := gU ++ (["a","b","c","d","e","f","g","h","i","j","k","l","m"] : List Str)
theorem iK : ∀ w ∈ W02,(aEv w && decide (w ∉ (["(",")"] : List Str))) = true /\ PyData.strOk w = true /\ w.length <= 10 := by decide +kernel
theorem aBZ (k : Nat) {w : Str} (h : aEv w = true) : aK PT (k + 1) hW [.str w] = .ret (.bl true) := by
 simp only [aEv,Bool.and_eq_true,decide_eq_true_eq] at h
 obtain ⟨⟨h1,h2⟩,h3⟩ := h
 rw [aAB]
 unfold mH
 have i0 : bU (.str w) (.ty "str") = some (.bl true) := rfl
 have hz : w.length <= sizeLine := sz (by omega)
 have l0 : cJ (.str w) = some (.int w.length) := by simp only [cJ,hz,if_true]
 have c1 : qLe (.int 1) (.int w.length) = some (.bl true) := by simp only [qLe]; rw [decide_eq_true (by omega)]
 have c2 : qLe (.int w.length) (.int 8) = some (.bl true) := by simp only [qLe]; rw [decide_eq_true (by omega)]
 have s0 : dD (.str w) = some (w.cps.toList.map fun c => .str ⟨#[c]⟩) := rfl
 have hl : w.cps.toList.length <= 16777216 := by
  have : w.cps.toList.length = w.length := by simp [Str.length]
  omega
 simp only [aA,aI,i0,aC,bI,Bool.not_true,Bool.false_eq_true,if_false,l0,c1,c2,fV,seq_nx,s0]
 rw [hX (xs := w.cps.toList) (fun c => .str ⟨#[c]⟩) (fun c => .bl (decide ((" " : Str).cps.toList < [c]) && !decide (("~" : Str).cps.toList < [c]))) hl fun c hc => ⟨_,rfl,rfl,by
  have e1 : qLt (.str " ") (.str ⟨#[c]⟩) = some (.bl (decide ((" " : Str).cps.toList < [c]))) := rfl
  have e2 : qLe (.str ⟨#[c]⟩) (.str "~") = some (.bl (!decide (("~" : Str).cps.toList < [c]))) := rfl
  simp only [aA,e1,aC]
  cases decide ((" " : Str).cps.toList < [c]) with
  | false => simp [fV]
  | true => simp only [fV,aA,e2,aC,Bool.true_and]⟩]
 simp only [aA,kX,h3,aC,dF]
theorem aCX (k : Nat) {w : Str} (h : w ∈ W02) : aK PT (k + 2) jM [.str w] = .ret (.bl true) := by
 obtain ⟨h1,h2,_⟩ := iK w h
 rw [Bool.and_eq_true,decide_eq_true_eq] at h1
 have e1 := aBZ k h1.1
 have e2 : qNi (.str w) (.kt ((["(",")"] : List Str).map Q.str)) = some (.bl true) := by
  have e3 : aO bD (.kt ((["(",")"] : List Str).map Q.str)) = some (.tuple ((["(",")"] : List Str).map PyData.str)) := rfl
  have e4 : aO bD (.str w) = some (.str w) := rfl
  have e5 : SeqAt.shaped (.str w) = true := by simp [SeqAt.shaped,PyData.canLay0,PyData.depth,h2]
  have e6 : SeqAt.shaped (.tuple ((["(",")"] : List Str).map PyData.str)) = true := by decide +kernel
  have e7 : (((["(",")"] : List Str).map PyData.str).any fun z => PyData.eqv z (.str w)) = false := by
   have := h1.2
   simp only [List.mem_cons,List.not_mem_nil,or_false,not_or] at this
   simp [PyData.eqv,Ne.symm this.1,Ne.symm this.2]
  simp only [qNi,hO,e3,e4,e5,e6,e7,Bool.and_self,if_true,Option.map_some,Bool.not_false]
 rw [aBD]
 simp only [oA,aA,aI,e1,fV,e2,aC,dF]
def opB (o : Opr) : Bool := decide ((if o.kind = "closed" then 2 else 1) <= o.words.length)
/-- an operator's form,whatever the number of its words -/
structure G02 (o : Opr) : Prop where
 kd : o.kind ∈ kinds
 l3 : o.words.length <= 3
 w0 : ∀ x ∈ o.words,x ∈ W02
theorem aEF {s : Str} (h : s ∈ kinds) : qNi (.str s) (.kt ((["closed","infix","postfix","prefix"] : List Str).map Q.str)) = some (.bl false) := by
 simp only [kinds,List.mem_cons,List.not_mem_nil,or_false] at h
 rcases h with rfl | rfl | rfl | rfl <;> kernel_rfl
theorem uD (k : Nat) {e : Q} (h : dQ e = true) (n : wA e = false) : aK PT (k + 1) bB [e] = .ret (.bl false) := by
 rw [fP]
 unfold dA
 simp only [aA,aI,sM h,aC,bI,n,Bool.not_false,if_true]
 simp
theorem aD1 (k : Nat) {es : List Q} (n : es.length ≠ 2) : aK PT (k + 1) bB [.tup es] = .ret (.bl false) := by
 have i0 : bU (.tup es) (.ty "tuple") = some (.bl true) := rfl
 have l0 : cJ (.tup es) = some (.int es.length) := rfl
 have n0 : qNe (.int es.length) (.int 2) = some (.bl true) := by
  rw [aBh,decide_eq_false (by omega)]; rfl
 rw [fP]
 unfold dA
 simp only [aA,aI,i0,l0,n0,aC,bI,Bool.not_true,Bool.false_eq_true,if_false,if_true]
 simp
theorem aD2 (k : Nat) {a b : Q} (h : dQ a = true) (n : aGw a = false) : aK PT (k + 1) bB [.tup [a,b]] = .ret (.bl false) := by
 have i0 : bU (.tup [a,b]) (.ty "tuple") = some (.bl true) := rfl
 have l0 : cJ (.tup [a,b]) = some (.int 2) := rfl
 have n0 : qNe (.int 2) (.int 2) = some (.bl false) := rfl
 have x0 : qIx (.tup [a,b]) (.int 0) = some a := rfl
 rw [fP]
 unfold dA
 simp only [aA,aI,i0,l0,n0,x0,isi_str h,n,aC,bI,Bool.not_true,Bool.not_false,Bool.false_eq_true,if_false,if_true]
 simp
theorem aD3 (k : Nat) {s : Str} {b : Q} (hs : s ∈ kinds) (h : dQ b = true) (n : wA b = false) : aK PT (k + 1) bB [.tup [.str s,b]] = .ret (.bl false) := by
 have i0 : bU (.tup [.str s,b]) (.ty "tuple") = some (.bl true) := rfl
 have l0 : cJ (.tup [.str s,b]) = some (.int 2) := rfl
 have n0 : qNe (.int 2) (.int 2) = some (.bl false) := rfl
 have x0 : qIx (.tup [.str s,b]) (.int 0) = some (.str s) := rfl
 have i1 : bU (.str s) (.ty "str") = some (.bl true) := rfl
 rw [fP]
 unfold dA
 simp only [aA,aI,i0,l0,n0,x0,i1,aEF hs,sM h,n,aC,bI,Bool.not_true,Bool.not_false,Bool.false_eq_true,if_false,if_true,seq_nx,sZ]
 simp
theorem wL (k : Nat) {o : Opr} (g : G02 o) : aK PT (k + 3) bB [o.q] = .ret (.bl (opB o)) := by
 have i0 : bU (.tup [.str o.kind, .tup (o.words.map .str)]) (.ty "tuple") = some (.bl true) := rfl
 have l0 : cJ (.tup [.str o.kind, .tup (o.words.map .str)]) = some (.int 2) := rfl
 have n0 : qNe (.int 2) (.int 2) = some (.bl false) := rfl
 have x0 : qIx (.tup [.str o.kind, .tup (o.words.map .str)]) (.int 0) = some (.str o.kind) := rfl
 have i1 : bU (.str o.kind) (.ty "str") = some (.bl true) := rfl
 have i2 : bU (.tup (o.words.map .str)) (.ty "tuple") = some (.bl true) := rfl
 have l1 : cJ (.tup (o.words.map .str)) = some (.int o.words.length) := by rw [<- List.length_map (f := Q.str)]; rfl
 have l3 := g.l3
 have c2 : qLe (.int o.words.length) (.int 3) = some (.bl true) := by simp only [qLe]; rw [decide_eq_true (by omega)]
 have c1 : ∀ n : Nat,qLe (.int n) (.int o.words.length) = some (.bl (decide (n <= o.words.length))) := fun n => by simp only [qLe]; congr 2; exact decide_eq_decide.mpr (by omega)
 rw [fP,show o.q = .tup [.str o.kind, .tup (o.words.map .str)] from rfl]
 unfold dA
 simp only [aA,aI,i0,l0,n0,x0,i1,i2,aEF g.kd,aC,bI,Bool.not_true,Bool.not_false,Bool.false_eq_true,if_false,if_true,seq_nx,sZ,nJ]
 rw [hX (xs := o.words) Q.str (fun _ => .bl true) (by omega) fun w hw => ⟨_,rfl,rfl,by simp only [aA,aCX k (g.w0 w hw)]⟩]
 have al : (o.words.all fun _ => true) = true := by simp
 simp only [aA,kX,al,aC,bI,Bool.not_true,Bool.false_eq_true,if_false,seq_nx,aFE]
 unfold opB
 by_cases hk : o.kind = "closed"
 ·have := c1 2
  simp only [hk,decide_true,if_true,aA,l1,aC]
  rw [show (Q.int 2) = Q.int ((2 : Nat) : Int) from rfl,this]
  by_cases hl : 2 <= o.words.length
  ·simp [hl,fV,c2]
  ·simp [hl,fV]
 ·have := c1 1
  simp only [hk,decide_false,Bool.false_eq_true,if_false,aA,l1,aC]
  rw [show (Q.int 1) = Q.int ((1 : Nat) : Int) from rfl,this]
  by_cases hl : 1 <= o.words.length
  ·simp [hl,fV,c2]
  ·simp [hl,fV]
theorem aFD {κ : Type} [DecidableEq κ] {l : List (κ × Q)} {k : κ} {v : Q} : (gM l k v).length = l.length + (if k ∈ l.map (·.1) then 0 else 1) /\ ∀ x,x ∈ (gM l k v).map (·.1) ↔ x = k \/ x ∈ l.map (·.1) := by
 unfold gM
 by_cases h : k ∈ l.map (·.1)
 ·have h2 : l.any (fun kv => decide (kv.1 = k)) = true := by
   obtain ⟨p,hp,e⟩ := List.mem_map.mp h
   exact List.any_eq_true.mpr ⟨p,hp,by simpa using e⟩
  rw [if_pos h2,if_pos h]
  have e : (l.map fun kv => if kv.1 = k then (kv.1,v) else kv).map (·.1) = l.map (·.1) := by
   rw [List.map_map]
   refine List.map_congr_left fun x _ => ?_
   simp only [Function.comp_apply]
   split <;> rfl
  refine ⟨by rw [List.length_map]; omega,fun x => ?_⟩
  rw [e]
  exact ⟨.inr,fun z => z.elim (fun z => z ▸ h) id⟩
 ·have h2 : ¬ l.any (fun kv => decide (kv.1 = k)) = true := fun z => by
   obtain ⟨p,hp,e⟩ := List.any_eq_true.mp z
   exact h (List.mem_map.mpr ⟨p,hp,by simpa using e⟩)
  rw [if_neg h2,if_neg h]
  refine ⟨by simp,fun x => ?_⟩
  simp only [List.map_append,List.map_cons,List.map_nil,List.mem_append,List.mem_singleton]
  exact ⟨fun z => z.elim .inr .inl,fun z => z.elim .inr .inl⟩
theorem yX {κ : Type} [DecidableEq κ] : ∀ {ks : List κ} {l : List (κ × Q)},(ks.foldl (fun acc k => gM acc k (.bl true)) l).length <= l.length + ks.length /\ ((ks.foldl (fun acc k => gM acc k (.bl true)) l).length = l.length + ks.length ↔ ks.Nodup /\ ∀ k ∈ ks,k ∉ l.map (·.1))
 | [],l => by simp
 | k :: ks,l => by
  obtain ⟨i1,i2⟩ := yX (ks := ks) (l := gM l k (.bl true))
  obtain ⟨p1,p2⟩ := aFD (l := l) (k := k) (v := .bl true)
  rw [List.foldl_cons,List.length_cons]
  by_cases h : k ∈ l.map (·.1)
  ·rw [if_pos h] at p1
   refine ⟨by omega,⟨fun z => by omega,fun z => absurd h (z.2 k (by simp))⟩⟩
  ·rw [if_neg h] at p1
   refine ⟨by omega, ?_⟩
   rw [show l.length + (ks.length + 1) = (gM l k (.bl true)).length + ks.length by omega,i2,List.nodup_cons]
   constructor
   ·rintro ⟨a,b⟩
    exact ⟨⟨fun z => b k z ((p2 k).mpr (.inl rfl)),a⟩,fun x hx => by
     rcases List.mem_cons.mp hx with rfl | hx
     ·exact h
     ·exact fun z => b x hx ((p2 x).mpr (.inr z))⟩
   ·rintro ⟨⟨a,b⟩,c⟩
    refine ⟨b,fun x hx z => ?_⟩
    rcases (p2 x).mp z with rfl | z
    ·exact a hx
    ·exact c x (by simp [hx]) z
theorem uX (k : Nat) {xs : List Str} (hl : xs.length <= 1000) : aK PT (k + 1) bG [.lst (xs.map .str)] = .ret (.bl (decide xs.Nodup)) := by
 rw [uN]
 unfold iC
 have l0 : cJ (.lst (xs.map .str)) = some (.int xs.length) := by rw [<- List.length_map (f := Q.str)]; rfl
 simp only [aA,aI,l0,aC,uC]
 rw [aDo (xs := xs) Q.str (fun x => (.inr x : Key)) (fun _ => .bl true) (by omega) fun x _ => ⟨_,_,rfl,rfl,rfl,rfl,rfl⟩]
 have e : (xs.foldl (fun acc x => gM acc (.inr x : Key) (.bl true)) []) = ((xs.map (fun x => (.inr x : Key))).foldl (fun acc k => gM acc k (.bl true)) []) := by rw [List.foldl_map]
 obtain ⟨_,f⟩ := yX (ks := xs.map (fun x => (.inr x : Key))) (l := [])
 rw [List.length_map] at f
 simp only [aA,e,cJ,aC,aBg,dF]
 congr 2
 rw [decide_eq_decide]
 constructor
 ·intro z
  have := f.mp (by simp only [List.length_nil]; omega)
  exact (List.pairwise_map.mp this.1).imp fun h z => h (by rw [z])
 ·intro z
  have := f.mpr ⟨List.pairwise_map.mpr (z.imp fun h z => h (by simpa using z)),by simp⟩
  simp only [List.length_nil] at this
  omega
theorem aD4 (k : Nat) {o : Opr} (g : G02 o) : aK PT (k + 1) bN [o.q] = .ret (.bl o.S) := by
 have x0 : qIx o.q (.int 0) = some (.str o.kind) := rfl
 have e1 := zY (x := o.kind) (ss := ["prefix","closed"]) (jB _ g.kd) (by decide +kernel)
 simp only [List.map_cons,List.map_nil] at e1
 rw [tD]
 simp only [gL,aA,aI,x0,e1,aC,dF]
 rfl
def hdW (o : Opr) : Str := o.words.headD ""
def lat (os : List Opr) : List Str := os.flatMap fun o => o.words.tail
def vZ (os : List Opr) : Bool := decide (lat os).Nodup && !((lat os).any fun w => decide (w ∈ os.map hdW)) && (decide ((os.filter fun o => o.S).map hdW).Nodup && decide ((os.filter fun o => !o.S).map hdW).Nodup)
theorem aA7 {α β : Type} {f : α -> Q} {g : β -> Q} {ys : α -> List β} {pt : Q -> Pm Bool} {pi1 : Q -> Pm (List Q)} {pt1 : Q -> Q -> Pm Bool} {pe : Q -> Q -> Pm Q} (h1 : ∀ q,pt q = .ret true) (h3 : ∀ p q,pt1 p q = .ret true) (h4 : ∀ p y,pe p (g y) = .ret (g y)) :
  ∀ {xs : List α} {acc : List Q},(∀ x ∈ xs,pi1 (f x) = .ret ((ys x).map g) /\ (ys x).length <= 100) -> acc.length + xs.length * 100 <= 16777216 -> jC some (aBN pt pi1 some pt1 pe) (xs.map f) acc = .ret (acc ++ xs.flatMap fun x => (ys x).map g)
 | [],acc,_,_ => by simp [jC]
 | x :: xs,acc,h2,hl => by
  have e : (x :: xs).length * 100 = 100 + xs.length * 100 := by rw [List.length_cons,Nat.add_mul]; omega
  rw [e] at hl
  obtain ⟨a1,a2⟩ := h2 x (by simp)
  have hz : ((ys x).map g).length <= sizeLine := by rw [List.length_map]; exact sz (by omega)
  have inner := yE (un := some) (pt := pt1 (f x)) (pe := pe (f x)) (xs := ys x) g (fun _ => true) g (acc := acc) (by omega) (fun y _ => ⟨g y,rfl,h3 _ _,fun _ => h4 _ y⟩)
  rw [List.filter_eq_self.mpr fun _ _ => rfl] at inner
  simp only [List.map_cons,jC,aC,aA,aBN,h1,pC,if_true,a1,hz,inner]
  rw [aA7 h1 h3 h4 (fun y hy => h2 y (by simp [hy])) (by simp only [List.length_append,List.length_map]; omega)]
  simp
theorem aDX {x : Str} {ss : List Str} (hx : PyData.strOk x = true) (hs : ∀ s ∈ ss,PyData.strOk s = true) : qIn (.str x) (.lst (ss.map .str)) = some (.bl (decide (x ∈ ss))) := by
 have e1 : aO bD (.str x) = some (.str x) := rfl
 have e2 : aO bD (.lst (ss.map .str)) = some (.list (ss.map .str)) := by
  show (aJ (aO 65) (ss.map .str)).map PyData.list = _
  rw [dW (xs := ss) (f := aO 65) (g := Q.str) (k := PyData.str) fun x _ => rfl]
  rfl
 have s1 := (fW hx (Nat.le_refl _)).pn.shaped (by omega)
 have s2 : SeqAt.shaped (.list (ss.map PyData.str)) = true := by
  have c1 := eQ (ds := ss.map PyData.str) fun d hd => by
   obtain ⟨s,hm,rfl⟩ := List.mem_map.mp hd
   simp [PyData.canLay0,hs s hm]
  have c2 := gC (ds := ss.map PyData.str) (n := 0) fun d hd => by
   obtain ⟨s,hm,rfl⟩ := List.mem_map.mp hd
   simp [PyData.depth]
  simp [SeqAt.shaped,PyData.canLay0,PyData.depth,c1]
  omega
 have e3 : ((ss.map PyData.str).any fun z => PyData.eqv z (.str x)) = decide (x ∈ ss) := by
  rw [Bool.eq_iff_iff]
  simp [PyData.eqv]
 have e4 : hO (.str x) (.lst (ss.map .str)) = some (decide (x ∈ ss)) := by
  simp only [hO,e1,e2,s1,s2,Bool.and_self,if_true,e3]
 simp [qIn,e4]
theorem aGI (k : Nat) {v : Q} (h : dQ v = true) (n : wA v = false) : aK PT (k + 1) aL [v] = .ret (.bl false) := by
 rw [eJ]
 unfold cD
 simp only [aA,aI,sM h,n,aC,bI,Bool.not_false,if_true]
 simp
theorem aGJ (k : Nat) {es : List Q} (h : 12 < es.length) : aK PT (k + 1) aL [.tup es] = .ret (.bl false) := by
 have i0 : bU (.tup es) (.ty "tuple") = some (.bl true) := rfl
 have l0 : cJ (.tup es) = some (.int es.length) := rfl
 have g0 : qGt (.int es.length) (.int 12) = some (.bl true) := by simp only [qGt]; rw [decide_eq_true (by omega)]
 rw [eJ]
 unfold cD
 simp only [aA,aI,i0,l0,g0,aC,bI,Bool.not_true,Bool.false_eq_true,if_false,if_true]
 simp
theorem aGK (k : Nat) {es : List Q} {b : Q -> Bool} (h : es.length <= 12) (hb : ∀ e ∈ es,aK PT k bB [e] = .ret (.bl (b e))) (hx : es.all b = false) : aK PT (k + 1) aL [.tup es] = .ret (.bl false) := by
 have i0 : bU (.tup es) (.ty "tuple") = some (.bl true) := rfl
 have l0 : cJ (.tup es) = some (.int es.length) := rfl
 have g0 : qGt (.int es.length) (.int 12) = some (.bl false) := by simp only [qGt]; rw [decide_eq_false (by omega)]
 rw [eJ]
 unfold cD
 simp only [aA,aI,i0,l0,g0,aC,bI,Bool.not_true,Bool.false_eq_true,if_false,nJ]
 rw [aCx (fun e => .bl (b e)) (by omega) fun e he => ⟨e,rfl,rfl,by simp only [aA,hb e he]⟩]
 simp only [aA,kX,hx,aC,bI,Bool.not_false,if_true]
 simp
theorem aEG {o : Opr} (g : G02 o) : ∀ w ∈ o.words,PyData.strOk w = true := fun w hw => (iK w (g.w0 w hw)).2.1
theorem sS {o : Opr} (b : opB o = true) : o.words = hdW o :: o.words.tail := by
 simp only [opB,decide_eq_true_eq] at b
 match h : o.words with
 | [] => rw [h] at b; split at b <;> simp at b
 | w :: l => simp [hdW,h]
theorem aFl {os : List Opr} (g : ∀ o ∈ os,G02 o) : (lat os).length <= 3 * os.length := by
 induction os with
 | nil => simp [lat]
 | cons o os ih =>
  have := ih fun x hx => g x (by simp [hx])
  have l := (g o (by simp)).l3
  simp only [lat,List.flatMap_cons,List.length_append,List.length_cons,List.length_tail] at this ⊢
  omega
theorem aCH (k : Nat) {os : List Opr} (hl : os.length <= 12) (g : ∀ o ∈ os,G02 o) (b : ∀ o ∈ os,opB o = true) : aK PT (k + 4) aL [bP os] = .ret (.bl (vZ os)) := by
 have i0 : bU (bP os) (.ty "tuple") = some (.bl true) := rfl
 have l0 : cJ (bP os) = some (.int os.length) := by rw [<- List.length_map (f := Opr.q)]; rfl
 have g0 : qGt (.int os.length) (.int 12) = some (.bl false) := by simp only [qGt]; rw [decide_eq_false (by omega)]
 have s0 : dD (bP os) = some (os.map Opr.q) := rfl
 have ll := aFl g
 have ix : ∀ o ∈ os,qIx o.q (.int 1) = some (.tup (o.words.map .str)) /\ qIx (.tup (o.words.map .str)) (.int 0) = some (.str (hdW o)) /\ qSl (.tup (o.words.map .str)) (some 1) none = some (.tup (o.words.tail.map .str)) := fun o ho => by
  have e := sS (b o ho)
  refine ⟨rfl, ?_, ?_⟩
  ·generalize hdW o = w at *
   rw [e]
   simp
  ·rw [aAa,List.map_tail]
 have ok : ∀ w ∈ lat os,PyData.strOk w = true := fun w hw => by
  obtain ⟨o,ho,hm⟩ := List.mem_flatMap.mp hw
  exact aEG (g o ho) w (List.mem_of_mem_tail hm)
 have ok1 : ∀ w ∈ os.map hdW,PyData.strOk w = true := fun w hw => by
  obtain ⟨o,ho,rfl⟩ := List.mem_map.mp hw
  have e := sS (b o ho)
  exact aEG (g o ho) _ (by rw [e]; simp)
 rw [eJ]
 unfold cD
 simp only [aA,aI,i0,l0,g0,aC,bI,Bool.not_true,Bool.false_eq_true,if_false,s0]
 rw [hX (xs := os) Opr.q (fun _ => .bl true) (by omega) fun o ho => ⟨_,rfl,rfl,by simp only [aA,wL k (g o ho),b o ho]⟩]
 have al : (os.all fun _ => true) = true := by simp
 simp only [aA,kX,al,aC,bI,Bool.not_true,Bool.false_eq_true,if_false,seq_nx,aI]
 rw [hX (xs := os) Opr.q (fun o => .str (hdW o)) (by omega) fun o ho => ⟨_,rfl,rfl,by
  obtain ⟨a1,a2,a3⟩ := ix o ho
  simp only [aA,a1,aC,a2]⟩]
 simp only [aA]
 have d2 : ∀ {pt : Q -> Pm Bool} {pi1 : Q -> Pm (List Q)} {pt1 : Q -> Q -> Pm Bool} {pe : Q -> Q -> Pm Q},(∀ q,pt q = .ret true) -> (∀ p q,pt1 p q = .ret true) -> (∀ p y,pe p (.str y) = .ret (.str y)) -> (∀ o ∈ os,pi1 o.q = .ret (o.words.tail.map .str)) -> zH some pt pi1 some pt1 pe (os.map Opr.q) = .ret (.lst ((lat os).map .str)) := fun {pt pi1 pt1 pe} a1 a2 a3 a4 => by
  have hz : (os.map Opr.q).length <= sizeLine := by rw [List.length_map]; exact sz (by omega)
  simp only [zH,hz,if_true]
  rw [aA7 (ys := fun o : Opr => o.words.tail) (g := Q.str) a1 a2 a3 (fun o ho => ⟨a4 o ho,by have := (g o ho).l3; rw [List.length_tail]; omega⟩) (by simp only [List.length_nil]; omega)]
  simp only [aA,List.nil_append,lat,List.map_flatMap]
 rw [d2 (fun _ => rfl) (fun _ _ => rfl) (fun _ _ => rfl) fun o ho => by
  obtain ⟨a1,a2,a3⟩ := ix o ho
  simp only [aA,a1,aC,nQ,a3,nJ]]
 have q1 : aK PT (k + 3) bG [.lst ((lat os).map .str)] = .ret (.bl (decide (lat os).Nodup)) := uX (k + 2) (by omega)
 have q2 : ∀ p : Opr -> Bool,aK PT (k + 3) bG [.lst ((os.filter p).map fun o => .str (hdW o))] = .ret (.bl (decide ((os.filter p).map hdW).Nodup)) := fun p => by
  have := uX (k + 2) (xs := (os.filter p).map hdW) (by have := List.length_filter_le p os; rw [List.length_map]; omega)
  rw [List.map_map] at this
  exact this
 have st : ∀ o ∈ os,aK PT (k + 3) bN [o.q] = .ret (.bl o.S) := fun o ho => aD4 (k + 2) (g o ho)
 generalize aK PT (k + 3) = pc at *
 have f1 : (Q.lst (os.map fun o => .str (hdW o))) = .lst ((os.map hdW).map .str) := by rw [List.map_map]; rfl
 simp only [aA,aI,q1,aC,bI,uC,f1]
 rw [hX (xs := lat os) Q.str (fun w => .bl (decide (w ∈ os.map hdW))) (by omega) fun w hw => ⟨_,rfl,rfl,by simp only [aA,aDX (ok w hw) ok1,aC]⟩]
 rw [qB (xs := os) Opr.q (fun o => o.S) (fun o => .str (hdW o)) (by omega) fun o ho => ⟨_,rfl,by simp only [aA,st o ho,aC,bI],fun _ => by
  obtain ⟨a1,a2,a3⟩ := ix o ho
  simp only [aA,a1,aC,a2]⟩]
 rw [qB (xs := os) Opr.q (fun o => !o.S) (fun o => .str (hdW o)) (by omega) fun o ho => ⟨_,rfl,by simp only [aA,st o ho,aC,bI],fun _ => by
  obtain ⟨a1,a2,a3⟩ := ix o ho
  simp only [aA,a1,aC,a2]⟩]
 simp only [aA,zW,aC,bI,q2,vZ]
 cases decide (lat os).Nodup <;> cases ((lat os).any fun w => decide (w ∈ os.map hdW)) <;> cases decide ((os.filter fun o => o.S).map hdW).Nodup <;> simp [fV]
end LW
end
section
namespace LW
open PV PySem PySem.Spec PyProof.Rows L2
def role (o : Opr) : Bool × Str := (o.S,hdW o)
def fM (r : Bool × Str) : Q := .tup [.bl r.1, .str r.2]
def kE (r : Bool × Str) : PyData := .tuple [.bool r.1, .str r.2]
def oN (ev : List Str) : List Opr -> List (Bool × Str) -> Bool
 | [],_ => true
 | o :: os,seen => !(decide (role o ∈ seen) || o.words.tail.any fun w => !decide (ev.count w = 1)) && oN ev os (seen ++ [role o])
theorem aBd {r : Bool × Str} (h : PyData.strOk r.2 = true /\ r.2.length <= 10) : PS 1 22 (kE r) := by
 have a : PS 0 10 (.bool r.1) := aFA.mono (Nat.le_refl _) (by omega)
 have b : PS 0 10 (.str r.2) := fW h.1 h.2
 have := kW (n := 0) (w := 10) (ds := [.bool r.1, .str r.2]) fun d hd => by
  simp only [List.mem_cons,List.not_mem_nil,or_false] at hd
  rcases hd with rfl | rfl
  ·exact a
  ·exact b
 exact this
theorem aDW {r : Bool × Str} {seen : List (Bool × Str)} (h : PyData.strOk r.2 = true /\ r.2.length <= 10) (hs : ∀ s ∈ seen,PyData.strOk s.2 = true /\ s.2.length <= 10) : qIn (fM r) (.lst (seen.map fM)) = some (.bl (decide (r ∈ seen))) := by
 have e1 : aO bD (fM r) = some (kE r) := rfl
 have e2 : aO bD (.lst (seen.map fM)) = some (.list (seen.map kE)) := by
  show (aJ (aO 65) (seen.map fM)).map PyData.list = _
  rw [dW (xs := seen) (f := aO 65) (g := fM) (k := kE) fun x _ => rfl]
  rfl
 have s1 := (aBd h).pn.shaped (by omega)
 have s2 := (pE (n := 1) (w := 22) (ds := seen.map kE) fun d hd => by
  obtain ⟨s,hm,rfl⟩ := List.mem_map.mp hd
  exact aBd (hs s hm)).pn.shaped (by omega)
 have e3 : ((seen.map kE).any fun z => PyData.eqv z (kE r)) = decide (r ∈ seen) := by
  rw [Bool.eq_iff_iff]
  simp only [List.any_map,List.any_eq_true,Function.comp_apply,decide_eq_true_eq]
  constructor
  ·rintro ⟨⟨a,b⟩,hm,e⟩
   simp only [kE,PyData.eqv,PyData.eqvAll,Bool.and_true,Bool.and_eq_true] at e
   have e1 : a = r.1 := by simpa using e.1
   have e2 : b = r.2 := by simpa using e.2
   have e3 : (a,b) = r := Prod.ext e1 e2
   exact e3 ▸ hm
  ·intro hm
   exact ⟨r,hm,by simp [kE,PyData.eqv,PyData.eqvAll]⟩
 have e4 : hO (fM r) (.lst (seen.map fM)) = some (decide (r ∈ seen)) := by
  simp only [hO,e1,e2,s1,s2,Bool.and_self,if_true,e3]
 simp [qIn,e4]
theorem aBY {ev : List Str} {w : Str} (h : PyData.strOk w = true /\ w.length <= 10) (he : ∀ s ∈ ev,PyData.strOk s = true /\ s.length <= 10) : rN (.lst (ev.map .str)) (.str w) = some (.int (ev.count w : Nat)) := by
 have e1 : aO bD (.str w) = some (.str w) := rfl
 have e2 : aO bD (.lst (ev.map .str)) = some (.list (ev.map .str)) := by
  show (aJ (aO 65) (ev.map .str)).map PyData.list = _
  rw [dW (xs := ev) (f := aO 65) (g := Q.str) (k := PyData.str) fun x _ => rfl]
  rfl
 have s1 := (fW h.1 h.2).pn.shaped (by omega)
 have s2 := (pE (n := 0) (w := 10) (ds := ev.map PyData.str) fun d hd => by
  obtain ⟨s,hm,rfl⟩ := List.mem_map.mp hd
  exact fW (he s hm).1 (he s hm).2).pn.shaped (by omega)
 have e3 : (ev.map PyData.str).countP (fun z => PyData.eqv z (.str w)) = ev.count w := by
  rw [List.countP_map,List.count]
  congr 1
 simp only [rN,e1,e2,s1,s2,Bool.and_self,if_true,e3]
theorem aGl {pc : Nat -> List Q -> Pm Q} : ∀ {os : List Opr} {acc : List Str},(∀ o ∈ os,G02 o) -> acc.length + os.length * 3 <= 1000 -> eK (β := Unit) (L := Unit) un2 (jZ pc) (os.map Opr.q) (.lst (acc.map .str)) = .ret (.nx (.lst ((acc ++ os.flatMap Opr.words).map .str)))
 | [],acc,_,_ => by simp [eK]
 | o :: os,acc,g,hl => by
  have l3 := (g o (by simp)).l3
  rw [List.length_cons,Nat.add_mul] at hl
  have u : un2 o.q = some (.str o.kind, .tup (o.words.map .str)) := rfl
  have ql : gV (.tup (o.words.map .str)) = some (.lst (o.words.map .str)) := rfl
  have ex : mS (.lst (acc.map .str)) (.lst (o.words.map .str)) = some (.lst ((acc ++ o.words).map .str)) := by
   rw [List.map_append]
   exact aCS (by simp only [List.length_map]; omega)
  have s : jZ pc (.str o.kind, .tup (o.words.map .str)) (.lst (acc.map .str)) = .ret (.nx (.lst ((acc ++ o.words).map .str))) := by
   unfold jZ
   simp only [hJ,aA,aI,ql,ex,aC]
  simp only [List.map_cons,eK,u,aC,aA,s,xA]
  rw [aGl (acc := acc ++ o.words) (fun x hx => g x (by simp [hx])) (by rw [List.length_append]; omega)]
  simp
theorem aGm {pc : Nat -> List Q -> Pm Q} {ev : List Str} (he : ∀ s ∈ ev,PyData.strOk s = true /\ s.length <= 10) : ∀ {os : List Opr} {seen : List (Bool × Str)},(∀ o ∈ os,G02 o /\ opB o = true) -> (∀ s ∈ seen,PyData.strOk s.2 = true /\ s.2.length <= 10) -> seen.length + os.length <= 1000 -> eK (β := Unit) (L := Unit) un2 (kB pc (.lst (ev.map .str))) (os.map Opr.q) (.lst (seen.map fM)) = if oN ev os seen = true then .ret (.nx (.lst ((seen ++ os.map role).map fM))) else .ret (.ret (.bl false))
 | [],seen,_,_,_ => by simp [eK,oN]
 | o :: os,seen,g,hs,hl => by
  obtain ⟨go,bo⟩ := g o (by simp)
  rw [List.length_cons] at hl
  have wo := sS bo
  have ww : ∀ w ∈ o.words,PyData.strOk w = true /\ w.length <= 10 := fun w hw => (iK w (go.w0 w hw)).2
  have wh : PyData.strOk (role o).2 = true /\ (role o).2.length <= 10 := ww _ (by rw [show (role o).2 = hdW o from rfl,wo]; simp)
  have u : un2 o.q = some (.str o.kind, .tup (o.words.map .str)) := rfl
  have e1 := zY (x := o.kind) (ss := ["prefix","closed"]) (jB _ go.kd) (by decide +kernel)
  simp only [List.map_cons,List.map_nil] at e1
  have e1 : qIn (.str o.kind) (.tup [.str "prefix", .str "closed"]) = some (.bl o.S) := e1
  have e2 : qIx (.tup (o.words.map .str)) (.int 0) = some (.str (hdW o)) := by
   generalize hdW o = w at *
   rw [wo]
   simp
  have e3 : (Q.tup [.bl o.S, .str (hdW o)]) = fM (role o) := rfl
  have e4 := aDW wh hs
  have e5 : qSl (.tup (o.words.map .str)) (some 1) none = some (.tup (o.words.tail.map .str)) := by rw [aAa,List.map_tail]
  have hl3 := go.l3
  have ap : dS (.lst (seen.map fM)) (fM (role o)) = some (.lst ((seen ++ [role o]).map fM)) := by
   rw [List.map_append]
   exact oB (fun us h => by cases h) (by rw [List.length_map]; omega)
  have lc : ∀ {pt : Q -> Pm Bool} {pe : Q -> Pm Q},(∀ q,pt q = .ret true) -> (∀ w ∈ o.words.tail,pe (.str w) = .ret (.bl (!decide (ev.count w = 1)))) -> lcP some pt pe (o.words.tail.map .str) = .ret (.lst (o.words.tail.map fun w => .bl (!decide (ev.count w = 1)))) := fun {pt pe} a1 a2 => hX Q.str (fun w => .bl (!decide (ev.count w = 1))) (by rw [List.length_tail]; omega) fun w hw => ⟨_,rfl,a1 _,a2 w hw⟩
  have s : kB pc (.lst (ev.map .str)) (.str o.kind, .tup (o.words.map .str)) (.lst (seen.map fM)) = if (decide (role o ∈ seen) || o.words.tail.any fun w => !decide (ev.count w = 1)) = true then .ret (.ret (.bl false)) else .ret (.nx (.lst ((seen ++ [role o]).map fM))) := by
   unfold kB
   simp only [aA,aI,e1,e2,aC,e3,e4,bI]
   cases hz : decide (role o ∈ seen) with
   | true => simp
   | false =>
    simp only [Bool.false_eq_true,if_false,aA,nQ,aC,e5,nJ]
    rw [lc (fun _ => rfl) fun w hw => by
     have c := aBY (ww w (List.mem_of_mem_tail hw)) he
     have n : qNe (.int (ev.count w : Nat)) (.int 1) = some (.bl (!decide (ev.count w = 1))) := by
      rw [aBh]
      congr 3
      exact decide_eq_decide.mpr (by omega)
     simp only [aA,aFy,c,n,aC,aI]]
    simp only [aA,zW,aC,bI,Bool.false_or]
    cases (o.words.tail.any fun w => !decide (ev.count w = 1)) with
    | true => simp
    | false => simp only [Bool.false_eq_true,if_false,seq_nx,hJ,aA,ap,aC]
  simp only [List.map_cons,eK,u,aC,aA,s,oN]
  cases hz : (decide (role o ∈ seen) || o.words.tail.any fun w => !decide (ev.count w = 1)) with
  | true => simp
  | false =>
   simp only [Bool.false_eq_true,if_false,aA,xA,Bool.not_false,Bool.true_and]
   rw [aGm he (fun x hx => g x (by simp [hx])) (fun x hx => by
    rcases List.mem_append.mp hx with hx | hx
    ·exact hs x hx
    ·rw [List.mem_singleton.mp hx]; exact wh) (by rw [List.length_append]; simp; omega)]
   simp
theorem aE5 (k : Nat) {v : Q} (h : dQ v = true) (n : wA v = false) : aK PT (k + 1) cY [v] = .ret (.bl false) := by
 rw [mE]
 unfold hM
 simp only [aA,aI,sM h,n,aC,bI,Bool.not_false,if_true]
 simp
theorem aE6 (k : Nat) {es : List Q} (h : 12 < es.length) : aK PT (k + 1) cY [.tup es] = .ret (.bl false) := by
 have i0 : bU (.tup es) (.ty "tuple") = some (.bl true) := rfl
 have l0 : cJ (.tup es) = some (.int es.length) := rfl
 have g0 : qGt (.int es.length) (.int 12) = some (.bl true) := by simp only [qGt]; rw [decide_eq_true (by omega)]
 rw [mE]
 unfold hM
 simp only [aA,aI,i0,l0,g0,aC,bI,Bool.not_true,Bool.false_eq_true,if_false,if_true]
 simp
theorem aE7 (k : Nat) {es : List Q} {b : Q -> Bool} (h : es.length <= 12) (hb : ∀ e ∈ es,aK PT k bB [e] = .ret (.bl (b e))) (hx : es.all b = false) : aK PT (k + 1) cY [.tup es] = .ret (.bl false) := by
 have i0 : bU (.tup es) (.ty "tuple") = some (.bl true) := rfl
 have l0 : cJ (.tup es) = some (.int es.length) := rfl
 have g0 : qGt (.int es.length) (.int 12) = some (.bl false) := by simp only [qGt]; rw [decide_eq_false (by omega)]
 rw [mE]
 unfold hM
 simp only [aA,aI,i0,l0,g0,aC,bI,Bool.not_true,Bool.false_eq_true,if_false,nJ]
 rw [aCx (fun e => .bl (b e)) (by omega) fun e he => ⟨e,rfl,rfl,by simp only [aA,hb e he]⟩]
 simp only [aA,kX,hx,aC,bI,Bool.not_false,if_true]
 simp
theorem aE8 (k : Nat) {os : List Opr} (hl : os.length <= 12) (g : ∀ o ∈ os,G02 o) (b : ∀ o ∈ os,opB o = true) : aK PT (k + 4) cY [bP os] = .ret (.bl (oN (os.flatMap Opr.words) os [])) := by
 have i0 : bU (bP os) (.ty "tuple") = some (.bl true) := rfl
 have l0 : cJ (bP os) = some (.int os.length) := by rw [<- List.length_map (f := Opr.q)]; rfl
 have g0 : qGt (.int os.length) (.int 12) = some (.bl false) := by simp only [qGt]; rw [decide_eq_false (by omega)]
 have s0 : dD (bP os) = some (os.map Opr.q) := rfl
 rw [mE]
 unfold hM
 simp only [aA,aI,i0,l0,g0,aC,bI,Bool.not_true,Bool.false_eq_true,if_false,s0]
 rw [hX (xs := os) Opr.q (fun _ => .bl true) (by omega) fun o ho => ⟨_,rfl,rfl,by simp only [aA,wL k (g o ho),b o ho]⟩]
 have al : (os.all fun _ => true) = true := by simp
 simp only [aA,kX,al,aC,bI,Bool.not_true,Bool.false_eq_true,if_false,seq_nx,aI]
 have he : ∀ s ∈ os.flatMap Opr.words,PyData.strOk s = true /\ s.length <= 10 := fun s hs => by
  obtain ⟨o,ho,hm⟩ := List.mem_flatMap.mp hs
  exact (iK s ((g o ho).w0 s hm)).2
 have d1 := aGl (pc := aK PT (k + 3)) (os := os) (acc := []) g (by simp; omega)
 have d2 := aGm (pc := aK PT (k + 3)) he (os := os) (seen := []) (fun o ho => ⟨g o ho,b o ho⟩) (by simp) (by simp; omega)
 simp only [List.map_nil,List.nil_append] at d1 d2
 rw [sJ (by simp; omega),d1]
 simp only [seq_nx,aA]
 rw [sJ (by simp; omega),d2]
 cases oN (os.flatMap Opr.words) os [] <;> simp
theorem yT {ev : List Str} : ∀ {os : List Opr} {seen : List (Bool × Str)},oN ev os seen = true ↔ (os.map role).Nodup /\ (∀ o ∈ os,role o ∉ seen) /\ ∀ o ∈ os,∀ w ∈ o.words.tail,ev.count w = 1
 | [],seen => by simp [oN]
 | o :: os,seen => by
  simp only [oN,Bool.and_eq_true,Bool.not_eq_true',Bool.or_eq_false_iff,decide_eq_false_iff_not,List.any_eq_false,Bool.not_eq_true',yT (os := os),List.map_cons,List.nodup_cons,List.mem_map,List.forall_mem_cons,List.mem_append,List.mem_singleton]
  constructor
  ·rintro ⟨⟨a,b⟩,c,d,e⟩
   refine ⟨⟨fun ⟨x,hx,h⟩ => d x hx (.inr h),c⟩,⟨a,fun x hx h => d x hx (.inl h)⟩,fun w hw => ?_,e⟩
   have := b w hw
   simpa using this
  ·rintro ⟨⟨a,b⟩,⟨c,d⟩,e,f⟩
   exact ⟨⟨c,fun w hw => by simpa using e w hw⟩,b,fun x hx h => h.elim (d x hx) fun h => a ⟨x,hx,h⟩,f⟩
theorem yQ {os : List Opr} (b : ∀ o ∈ os,opB o = true) (w : Str) : (os.flatMap Opr.words).count w = (os.map hdW).count w + (lat os).count w := by
 induction os with
 | nil => rfl
 | cons o os ih =>
  have e := sS (b o (by simp))
  have ih := ih fun x hx => b x (by simp [hx])
  have e2 : o.words.count w = [hdW o].count w + o.words.tail.count w := by
   rw [<- List.count_append]
   congr 1
  simp only [List.flatMap_cons,List.count_append,lat,List.map_cons] at ih ⊢
  rw [show hdW o :: os.map hdW = [hdW o] ++ os.map hdW from rfl,List.count_append]
  omega
theorem aGH {os : List Opr} (b : ∀ o ∈ os,opB o = true) : vZ os = oN (os.flatMap Opr.words) os [] := by
 rw [Bool.eq_iff_iff,yT]
 simp only [vZ,Bool.and_eq_true,decide_eq_true_eq,Bool.not_eq_true',List.any_eq_false]
 have r1 : (os.map role).Nodup ↔ ((os.filter fun o => o.S).map hdW).Nodup /\ ((os.filter fun o => !o.S).map hdW).Nodup := by
  unfold List.Nodup
  rw [List.pairwise_map,List.pairwise_map,List.pairwise_map,List.pairwise_filter,List.pairwise_filter,<- List.pairwise_and_iff]
  constructor <;> intro h <;> refine h.imp fun {x y} h => ?_
  ·exact ⟨fun sx sy e => h (Prod.ext (by simp [role,sx,sy]) e),fun sx sy e => h (Prod.ext (by simp only [Bool.not_eq_true'] at sx sy; simp [role,sx,sy]) e)⟩
  ·intro e
   have e1 : x.S = y.S := congrArg Prod.fst e
   have e2 : hdW x = hdW y := congrArg Prod.snd e
   cases hz : x.S with
   | true => exact h.1 hz (by rw [<- e1]; exact hz) e2
   | false => exact h.2 (by rw [hz]; rfl) (by rw [<- e1,hz]; rfl) e2
 have r2 : ((lat os).Nodup /\ ∀ w ∈ lat os,w ∉ os.map hdW) ↔ ∀ o ∈ os,∀ w ∈ o.words.tail,(os.flatMap Opr.words).count w = 1 := by
  have r3 : (∀ o ∈ os,∀ w ∈ o.words.tail,(os.flatMap Opr.words).count w = 1) ↔ ∀ w ∈ lat os,(os.map hdW).count w + (lat os).count w = 1 := by
   constructor
   ·intro h w hw
    obtain ⟨o,ho,hm⟩ := List.mem_flatMap.mp hw
    rw [<- yQ b]
    exact h o ho w hm
   ·intro h o ho w hm
    rw [yQ b]
    exact h w (List.mem_flatMap.mpr ⟨o,ho,hm⟩)
  rw [r3,List.nodup_iff_count]
  constructor
  ·rintro ⟨h1,h2⟩ w hw
   have a := h1 w
   have b := List.count_pos_iff.mpr hw
   have c := List.count_eq_zero.mpr (h2 w hw)
   omega
  ·intro h
   refine ⟨fun w => ?_,fun w hw z => ?_⟩
   ·by_cases hw : w ∈ lat os
    ·have := h w hw; omega
    ·rw [List.count_eq_zero.mpr hw]; omega
   ·have a := h w hw
    have b := List.count_pos_iff.mpr hw
    have c := List.count_pos_iff.mpr z
    omega
 constructor
 ·rintro ⟨⟨h1,h2⟩,h3,h4⟩
  exact ⟨r1.mpr ⟨h3,h4⟩,fun o _ => by simp,r2.mp ⟨h1,fun w hw z => by have := h2 w hw; simp [z] at this⟩⟩
 ·rintro ⟨h1,_,h2⟩
  obtain ⟨h3,h4⟩ := r1.mp h1
  obtain ⟨h5,h6⟩ := r2.mpr h2
  exact ⟨⟨h5,fun w hw => by simpa using h6 w hw⟩,h3,h4⟩
end LW
end
section
namespace LW
open PV PySem PySem.Spec PyProof.Rows L2
theorem nE {es : List Q} (h : ∀ e ∈ es,∀ n,hA n e = false) : ∀ n,hA n (.tup es) = false
 | 0 => rfl
 | n + 1 => by
  simp only [hA,List.any_eq_false]
  exact fun e he => by rw [h e he n]; simp
theorem tS {es : List Q} : ∀ n,hA n (.lst es) = false
 | 0 => rfl
 | n + 1 => rfl
theorem qA {s : Str} : ∀ n,hA n (.str s) = false
 | 0 => rfl
 | n + 1 => rfl
theorem aDA : ∀ n,hA n .non = false
 | 0 => rfl
 | n + 1 => rfl
theorem zC {o : Opr} : ∀ n,hA n o.q = false := nE fun e he => by
 simp only [List.mem_cons,List.not_mem_nil,or_false] at he
 rcases he with rfl | rfl
 ·exact qA
 ·exact nE fun e he => by
   obtain ⟨s,_,rfl⟩ := List.mem_map.mp he
   exact qA
theorem aFC {o : Opr} (h : G02 o) : PS 2 60 o.py := by
 have h1 : PS 1 8 (.str o.kind) := (fW (jB _ h.kd) (nW _ h.kd)).mono (by omega) (by omega)
 have h2 : PS 1 33 (.tuple (o.words.map .str)) := (kW (n := 0) (w := 10) fun d hd => by
  obtain ⟨x,hx,rfl⟩ := List.mem_map.mp hd
  exact fW (iK x (h.w0 x hx)).2.1 (iK x (h.w0 x hx)).2.2).mono (by omega) (by have := h.l3; simp only [List.length_map]; omega)
 exact (mR h1 (mR h2 zT)).mono (by omega) (by omega)
/-- what is no operator -/
structure J02 (e : Q) : Prop where
 op : ∀ k,aK PT (k + 1) bB [e] = .ret (.bl false)
 no : ∀ o : Opr,e ≠ o.q
 py : ∃ d,aO 65 e = some d /\ PS 4 900 d
 nd : ∀ n,hA n e = false
def El (e : Q) : Prop := (∃ o,e = o.q /\ G02 o) \/ J02 e
theorem El.py {e : Q} (h : El e) : ∃ d,aO 65 e = some d /\ PS 4 900 d := by
 rcases h with ⟨o,rfl,g⟩ | h
 ·exact ⟨o.py,uJ (n := 62),(aFC g).mono (by omega) (by omega)⟩
 ·exact h.py
theorem El.nd {e : Q} (h : El e) : ∀ n,hA n e = false := by
 rcases h with ⟨o,rfl,g⟩ | h
 ·exact zC
 ·exact h.nd
/-- the values -/
def V02 (v : Q) : Prop := (∃ es,v = .tup es /\ es.length <= 13 /\ ∀ e ∈ es,El e) \/ (dQ v = true /\ wA v = false /\ ∃ s,fX v = some (.str s))
theorem aC1 {v : Q} {d : PyData} {n l : Nat} (hd : hA bD v = false) (e : aO bD v = some d) (p : PN n l d) (hn : n <= 64) (hl : l <= 16777216) : fX v = some (.str d.shown) := by
 unfold fX
 rw [hd]
 exact aD0 e p hn hl
theorem aF9 {es : List Q} (h : ∀ e ∈ es,El e) : ∃ ds,aJ (aO 65) es = some ds /\ ds.length = es.length /\ ∀ d ∈ ds,PS 4 900 d := by
 induction es with
 | nil => exact ⟨[],rfl,rfl,by simp⟩
 | cons e es ih =>
  obtain ⟨d,e1,p1⟩ := (h e (by simp)).py
  obtain ⟨ds,e2,l2,p2⟩ := ih fun x hx => h x (by simp [hx])
  refine ⟨d :: ds,aCC e1 e2,by simp [l2],fun x hx => ?_⟩
  rcases List.mem_cons.mp hx with rfl | hx
  ·exact p1
  ·exact p2 x hx
theorem V02.rep {v : Q} (h : V02 v) : ∃ s,fX v = some (.str s) := by
 rcases h with ⟨es,rfl,hl,h⟩ | ⟨_,_,h⟩
 ·obtain ⟨ds,e,l,p⟩ := aF9 h
  have e2 : aO bD (.tup es) = some (.tuple ds) := by
   show (aJ (aO 65) es).map PyData.tuple = _
   rw [e]; rfl
  have p2 := (kW p).pn
  exact ⟨_,aC1 (nE (fun e he => (h e he).nd) _) e2 p2 (by omega) (by have : ds.length * 901 <= 13 * 901 := Nat.mul_le_mul_right _ (by omega); omega)⟩
 ·exact h
theorem aFx {es : List Q} (h : ∀ e ∈ es,∃ o,e = Opr.q o /\ G02 o /\ opB o = true) : ∃ os : List Opr,es = os.map Opr.q /\ ∀ o ∈ os,G02 o /\ opB o = true := by
 induction es with
 | nil => exact ⟨[],rfl,by simp⟩
 | cons e es ih =>
  obtain ⟨o,rfl,g⟩ := h e (by simp)
  obtain ⟨os,rfl,gs⟩ := ih fun x hx => h x (by simp [hx])
  exact ⟨o :: os,rfl,fun x hx => by
   rcases List.mem_cons.mp hx with rfl | hx
   ·exact g
   ·exact gs x hx⟩
theorem aFw {a b : Opr} (h : a.q = b.q) : a = b := by
 obtain ⟨k,w⟩ := a
 obtain ⟨k2,w2⟩ := b
 simp only [Opr.q,Q.tup.injEq,List.cons.injEq,Q.str.injEq,and_true] at h
 obtain ⟨h1,h2⟩ := h
 rw [h1,(List.map_inj_right (f := Q.str) fun a b h => by simpa using h).mp h2]
open Classical in
/-- the program's answer is the law's -/
theorem V02.same {v : Q} (h : V02 v) (k : Nat) : ∃ b,aK PT (k + 4) aL [v] = .ret (.bl b) /\ aK PT (k + 4) cY [v] = .ret (.bl b) := by
 rcases h with ⟨es,rfl,hl,h⟩ | ⟨h1,h2,_⟩
 ·by_cases h12 : 12 < es.length
  ·exact ⟨false,aGJ (k + 3) h12,aE6 (k + 3) h12⟩
  ·by_cases ha : ∀ e ∈ es,∃ o,e = Opr.q o /\ G02 o /\ opB o = true
   ·obtain ⟨os,rfl,g⟩ := aFx ha
    rw [List.length_map] at h12
    have a := aCH k (os := os) (by omega) (fun o ho => (g o ho).1) (fun o ho => (g o ho).2)
    have b := aE8 k (os := os) (by omega) (fun o ho => (g o ho).1) (fun o ho => (g o ho).2)
    rw [<- aGH fun o ho => (g o ho).2] at b
    exact ⟨_,a,b⟩
   ·have hb : ∀ e ∈ es,aK PT (k + 3) bB [e] = .ret (.bl (decide (∃ o,e = Opr.q o /\ G02 o /\ opB o = true))) := fun e he => by
     rcases h e he with ⟨o,rfl,g⟩ | j
     ·rw [wL k g]
      congr 2
      cases hz : opB o with
      | true => exact (decide_eq_true ⟨o,rfl,g,hz⟩).symm
      | false =>
       refine (decide_eq_false fun ⟨o2,e2,_,b2⟩ => ?_).symm
       rw [aFw e2,b2] at hz
       cases hz
     ·rw [j.op (k + 2),decide_eq_false fun ⟨o,e2,_⟩ => j.no o e2]
    have hx : es.all (fun e => decide (∃ o,e = Opr.q o /\ G02 o /\ opB o = true)) = false := by
     rw [List.all_eq_false]
     refine Classical.byContradiction fun hn => ha fun e he => ?_
     refine Classical.byContradiction fun hm => hn ⟨e,he, ?_⟩
     rw [decide_eq_true_eq]
     exact hm
    exact ⟨false,aGK (k + 3) (by omega) hb hx,aE7 (k + 3) (by omega) hb hx⟩
 ·exact ⟨false,aGI (k + 3) h1 h2,aE5 (k + 3) h1 h2⟩
theorem aKU {b : Bool} : ∃ s,fX (.bl b) = some (.str s) := by
 cases b
 ·exact ⟨"False",by kernel_rfl⟩
 ·exact ⟨"True",by kernel_rfl⟩
theorem aHT {pc : Nat -> List Q -> Pm Q} {v : Q} {b : Bool} (h : V02 v) (F1 : pc aL [v] = .ret (.bl b)) (F2 : pc cY [v] = .ret (.bl b)) : fT pc v () = .ret (.nx ()) := by
 obtain ⟨S,eS⟩ := h.rep
 obtain ⟨B,eB⟩ := aKU (b := b)
 have pm : dR [0] [v] = some [v] := rfl
 simp only [fT,aA,aI,eS,aC,F2,eB,sZ,F1,aFG,decide_true,Bool.not_true,bI,Bool.false_eq_true,if_false,pm]
theorem aIo : J02 .non := ⟨fun k => uD k rfl rfl,fun o h => (by cases h),⟨_,rfl,aFB.mono (by omega) (by omega)⟩,aDA⟩
theorem aIq {s : Str} (h : PyData.strOk s = true /\ s.length <= 10) : J02 (.str s) := ⟨fun k => uD k rfl rfl,fun o h => (by cases h),⟨_,rfl,(fW h.1 h.2).mono (by omega) (by omega)⟩,qA⟩
theorem aDT {ws : List Str} (h : ∀ w ∈ ws,w ∈ W02) (hl : ws.length <= 3) : (∀ n,aO (n + 2) (.lst (ws.map .str)) = some (.list (ws.map .str))) /\ PS 1 33 (.list (ws.map .str)) := by
 constructor
 ·intro n
  show (aJ (aO (n + 1)) (ws.map .str)).map PyData.list = _
  rw [dW (xs := ws) (f := aO (n + 1)) (g := Q.str) (k := PyData.str) fun x _ => rfl]
  rfl
 ·exact (pE (n := 0) (w := 10) fun d hd => by
   obtain ⟨x,hx,rfl⟩ := List.mem_map.mp hd
   exact fW (iK x (h x hx)).2.1 (iK x (h x hx)).2.2).mono (by omega) (by simp only [List.length_map]; omega)
theorem aJ8 {s : Str} {ws : List Str} (hs : s ∈ kinds) (h : ∀ w ∈ ws,w ∈ W02) (hl : ws.length <= 3) : J02 (.tup [.str s, .lst (ws.map .str)]) := by
 obtain ⟨a,b⟩ := aDT h hl
 refine ⟨fun k => aD3 k hs rfl rfl,fun o h => (by simp [Opr.q] at h),⟨.tuple [.str s, .list (ws.map .str)], ?_, ?_⟩,nE fun e he => ?_⟩
 ·show (aJ (aO 64) [.str s, .lst (ws.map .str)]).map PyData.tuple = _
  have := a 62
  simp only [aJ,this,Option.map_some]
  rfl
 ·have h1 : PS 1 8 (.str s) := (fW (jB _ hs) (nW _ hs)).mono (by omega) (by omega)
  exact (mR h1 (mR b zT)).mono (by omega) (by omega)
 ·simp only [List.mem_cons,List.not_mem_nil,or_false] at he
  rcases he with rfl | rfl
  ·exact qA
  ·exact tS
theorem aJ7 {o : Opr} (g : G02 o) : J02 (.lst [.str o.kind, .tup (o.words.map .str)]) := by
 have h2 : aO 65 (.lst [.str o.kind, .tup (o.words.map .str)]) = some (.list [.str o.kind, .tuple (o.words.map .str)]) := by
  have : aO 64 (.tup (o.words.map .str)) = some (.tuple (o.words.map .str)) := by
   show (aJ (aO 63) (o.words.map .str)).map PyData.tuple = _
   rw [dW (xs := o.words) (f := aO 63) (g := Q.str) (k := PyData.str) fun x _ => rfl]
   rfl
  show (aJ (aO 64) [.str o.kind, .tup (o.words.map .str)]).map PyData.list = _
  simp only [aJ,this,Option.map_some]
  rfl
 have h1 : PS 1 33 (.str o.kind) := (fW (jB _ g.kd) (nW _ g.kd)).mono (by omega) (by omega)
 have h3 : PS 1 33 (.tuple (o.words.map .str)) := (kW (n := 0) (w := 10) fun d hd => by
  obtain ⟨x,hx,rfl⟩ := List.mem_map.mp hd
  exact fW (iK x (g.w0 x hx)).2.1 (iK x (g.w0 x hx)).2.2).mono (by omega) (by have := g.l3; simp only [List.length_map]; omega)
 refine ⟨fun k => uD k rfl rfl,fun o h => (by cases h),⟨_,h2, ?_⟩,tS⟩
 exact (pE (n := 1) (w := 33) fun d hd => by
  simp only [List.mem_cons,List.not_mem_nil,or_false] at hd
  rcases hd with rfl | rfl
  ·exact h1
  ·exact h3).mono (by omega) (by simp)
theorem aIp {ops : List Opr} (O : OpsOk ops) (hl : ops.length <= 12) : J02 (bP ops) := by
 refine ⟨fun k => ?_,fun o h => ?_,⟨_,uK (n := 61),(aCR O).mono (by omega) (by omega)⟩,nE fun e he => ?_⟩
 ·by_cases h : ops.length = 2
  ·match ops,h with
   | [a,b],_ => exact aD2 k rfl rfl
  ·exact aD1 k (by rw [List.length_map]; exact h)
 ·match ops with
  | [] => simp [bP,Opr.q] at h
  | a :: l => simp [bP,Opr.q] at h
 ·obtain ⟨o,_,rfl⟩ := List.mem_map.mp he
  exact zC
theorem sV {qs : List Q} {r : Nat} {v : Q} (h : r < qs.length) : mM (.lst qs) (.int r) v = some (.lst (qs.set r v)) := by
 have e : ixN qs.length (r : Int) = some r := by
  unfold ixN
  rw [if_pos (by omega),if_pos (by omega)]
  rfl
 simp only [mM,e]
theorem aCU {qs : List Q} {r : Nat} {o : Opr} (h : r < qs.length) : qK (.lst qs) (.int r) o.q = some (.lst (qs.set r o.q)) := by
 have e : ixN qs.length (r : Int) = some r := by
  unfold ixN
  rw [if_pos (by omega),if_pos (by omega)]
  rfl
 simp only [qK,Opr.q,e]
theorem aDZ {qs : List Q} {r : Nat} {z : Q} (hz : qs[r]? = some z) (hr : r < 1000000) : rP (.lst qs) (.int r) = some (z, .lst (qs.eraseIdx r)) := by
 have hl := aH hz
 have e : seqIndex? (r : Int) qs.length = some r := by
  unfold seqIndex?
  have h0 : ¬ ((r : Int) < 0) := by omega
  simp [h0,hl]
 have h1 : -(2 ^ 63) <= (r : Int) /\ (r : Int) < 2 ^ 63 := by omega
 simp only [rP,e,h1,hz,and_self,if_true]
theorem oX {L : List Q} {i : Nat} {v : Q} (h : ∀ e ∈ L,El e) (hv : El v) : ∀ e ∈ L.set i v,El e := fun e he => by
 rcases List.mem_or_eq_of_mem_set he with he | rfl
 ·exact h e he
 ·exact hv
theorem aAH (k : Nat) {ops : List Opr} (O : OpsOk ops) (g : ∀ o ∈ ops,G02 o) (hw : ∀ o ∈ ops,0 < o.words.length) (hne : 0 < ops.length) (hl : ops.length <= 12) {K : Rs Q -> Nat -> Prop} {c : Nat} (hc : c + 100 < 1000000000) (hk : ∀ es c',c' <= c + 10 -> es.length <= 13 -> (∀ e ∈ es,El e) -> K (.ok (.tup es)) c') : aK PT (k + 3) dU [.src,bP ops] K c := by
 rw [vS]
 have D : ∀ {n : Int} {K : Rs Q -> Nat -> Prop} {c : Nat},0 < n -> n < 1073741824 -> c < 1000000000 -> (∀ r : Nat,(r : Int) < n -> K (.ok (.int r)) (c + 1)) -> aK PT (k + 2) aU [.src, .int n] K c := fun h1 h2 h3 h => aCW (k + 1) h1 h2 h3 h
 have P : ∀ {l : List Q} {K : Rs Q -> Nat -> Prop} {c : Nat},0 < l.length -> l.length < 1073741824 -> c < 1000000000 -> (∀ x ∈ l,K (.ok x) (c + 1)) -> aK PT (k + 2) aZ [.src, .lst l] K c := fun h1 h2 h3 h => aG1 k h1 h2 h3 h
 generalize aK PT (k + 2) = pc at *
 unfold iQ
 have qL : gV (bP ops) = some (.lst (ops.map Opr.q)) := rfl
 have ln : cJ (.lst (ops.map Opr.q)) = some (.int ops.length) := by rw [<- List.length_map (f := Opr.q)]; rfl
 have lm : (ops.map Opr.q).length = ops.length := List.length_map _
 have el : ∀ e ∈ ops.map Opr.q,El e := fun e he => by
  obtain ⟨o,ho,rfl⟩ := List.mem_map.mp he
  exact .inl ⟨o,rfl,g o ho⟩
 simp only [aA,aI,qL,aC]
 rw [gO]
 refine D (by omega) (by omega) (by omega) fun way hway => ?_
 simp only [gS,aA,aI,aC,l2,ln]
 rw [gO]
 refine D (by omega) (by omega) (by omega) fun at_ hat => ?_
 simp only [gS,aA,aI,aC]
 rw [gO]
 refine D (by omega) (by omega) (by omega) fun to hto => ?_
 have hat' : at_ < ops.length := by omega
 have hto' : to < ops.length := by omega
 have ea : (ops.map Opr.q)[at_]? = some (ops[at_]).q := by rw [List.getElem?_map,List.getElem?_eq_getElem hat']; rfl
 have eb : (ops.map Opr.q)[to]? = some (ops[to]).q := by rw [List.getElem?_map,List.getElem?_eq_getElem hto']; rfl
 have ga := g _ (List.getElem_mem hat')
 have gb := g _ (List.getElem_mem hto')
 have wa := hw _ (List.getElem_mem hat')
 have wb := hw _ (List.getElem_mem hto')
 have xa := zZ ea
 have xb := zZ eb
 generalize ops[at_] = a at *
 generalize ops[to] = b at *
 have ua : un2 a.q = some (.str a.kind, .tup (a.words.map .str)) := rfl
 have xw : qIx b.q (.int 1) = some (.tup (b.words.map .str)) := rfl
 have ql : ∀ us : List Q,gV (.tup us) = some (.lst us) := fun us => rfl
 have lw : cJ (.tup (a.words.map .str)) = some (.int a.words.length) := by rw [<- List.length_map (f := Q.str)]; rfl
 have la := ga.l3
 simp only [gS,aA,aI,aC,sZ,xa,ua,aBg,bI]
 by_cases h0 : (way : Int) = 0
 ·have ap : dS (.lst (ops.map Opr.q)) a.q = some (.lst (ops.map Opr.q ++ [a.q])) := oB (fun us h => by cases h) (by omega)
  simp only [h0,decide_true,if_true,hJ,aA,xa,aC,ap,seq_nx,eA,dF,dZ]
  refine hk _ _ (by omega) (by simp; omega) fun e he => ?_
  rcases List.mem_append.mp he with he | he
  ·exact el e he
  ·rw [List.mem_singleton.mp he]; exact .inl ⟨a,rfl,ga⟩
 by_cases h1 : (way : Int) = 1
 ·simp only [h0,h1,decide_true,decide_false,Bool.false_eq_true,if_false,if_true,hJ,aA,aDZ ea (by omega),aC,seq_nx,eA,dF,dZ]
  refine hk _ _ (by omega) (by rw [List.length_eraseIdx]; split <;> omega) fun e he => el e (List.mem_of_mem_eraseIdx he)
 by_cases h2 : (way : Int) = 2
 ·have s1 := aCU (qs := ops.map Opr.q) (r := at_) (o := b) (by omega)
  have s2 := aCU (qs := (ops.map Opr.q).set at_ b.q) (r := to) (o := a) (by rw [List.length_set]; omega)
  simp only [h0,h1,h2,decide_true,decide_false,Bool.false_eq_true,if_false,if_true,aA,xa,xb,aC,aIO,s1,s2,seq_nx,eA,dF,dZ]
  refine hk _ _ (by omega) (by simp only [List.length_set]; omega) (oX (oX el (.inl ⟨b,rfl,gb⟩)) (.inl ⟨a,rfl,ga⟩))
 by_cases h3 : (way : Int) = 3
 ·simp only [h0,h1,h2,h3,decide_true,decide_false,Bool.false_eq_true,if_false,if_true,aA,aI,gO,pL]
  refine P (by simp) (by simp) (by omega) fun x hx => ?_
  have hx' : ∃ s,x = .str s /\ s ∈ kinds := by
   simp only [List.mem_cons,List.not_mem_nil,or_false] at hx
   rcases hx with rfl | rfl | rfl | rfl <;> exact ⟨_,rfl,by decide⟩
  obtain ⟨s,rfl,hs⟩ := hx'
  have st := sV (qs := ops.map Opr.q) (r := at_) (v := .tup [.str s, .tup (a.words.map .str)]) (by omega)
  simp only [gS,aA,aC,st,pJ,eA,dF,dZ]
  exact hk _ _ (by omega) (by simp only [List.length_set]; omega) (oX el (.inl ⟨⟨s,a.words⟩,rfl,⟨hs,ga.l3,ga.w0⟩⟩))
 by_cases h4 : (way : Int) = 4
 ·simp only [h0,h1,h2,h3,h4,decide_true,decide_false,Bool.false_eq_true,if_false,if_true,aA,aI,lw,aC,gO,pL]
  refine D (by omega) (by omega) (by omega) fun pl hpl => ?_
  have hpl' : pl < a.words.length := by omega
  have t1 : qSl (.tup (a.words.map .str)) none (some (pl : Int)) = some (.tup ((a.words.take pl).map .str)) := by rw [aCV (by rw [List.length_map]; omega),List.map_take]
  have t2 : iJ (.int (pl : Nat)) (.int 1) = some (.int ((pl + 1 : Nat) : Int)) := by simp [iJ]
  have t3 : qSl (.tup (a.words.map .str)) (some ((pl + 1 : Nat) : Int)) none = some (.tup ((a.words.drop (pl + 1)).map .str)) := by simp only [qSl,aCk,List.map_drop]
  simp only [gS,aA,aI,nQ,aC,t1,xb,xw,ql]
  simp only [gO,pL]
  refine P (by rw [List.length_map]; omega) (by rw [List.length_map]; have := gb.l3; omega) (by omega) fun x hx => ?_
  obtain ⟨w,hwm,rfl⟩ := List.mem_map.mp hx
  have d1 : iJ (.tup ((a.words.take pl).map .str)) (.tup [.str w]) = some (.tup ((a.words.take pl).map .str ++ [.str w])) := uW (by simp only [List.length_map,List.length_take,List.length_cons,List.length_nil]; omega)
  have d2 : iJ (.tup ((a.words.take pl).map .str ++ [.str w])) (.tup ((a.words.drop (pl + 1)).map .str)) = some (.tup ((a.words.take pl ++ [w] ++ a.words.drop (pl + 1)).map .str)) := by
   rw [uW (by simp only [List.length_append,List.length_map,List.length_take,List.length_drop,List.length_cons,List.length_nil]; omega)]
   simp
  have st := sV (qs := ops.map Opr.q) (r := at_) (v := .tup [.str a.kind, .tup ((a.words.take pl ++ [w] ++ a.words.drop (pl + 1)).map .str)]) (by omega)
  simp only [gS,aA,aI,aC,d1,t2,nQ,t3,d2,st,pJ,eA,dF,dZ]
  refine hk _ _ (by omega) (by simp only [List.length_set]; omega) (oX el (.inl ⟨⟨a.kind,a.words.take pl ++ [w] ++ a.words.drop (pl + 1)⟩,rfl,⟨ga.kd, ?_,fun x hx => ?_⟩⟩))
  ·simp only [List.length_append,List.length_take,List.length_drop,List.length_cons,List.length_nil]; omega
  ·simp only [List.mem_append,List.mem_singleton] at hx
   rcases hx with (hx | rfl) | hx
   ·exact ga.w0 x (List.mem_of_mem_take hx)
   ·exact gb.w0 x hwm
   ·exact ga.w0 x (List.mem_of_mem_drop hx)
 by_cases h5 : (way : Int) = 5
 ·have t1 : qSl (.tup (a.words.map .str)) none (some 1) = some (.tup ((a.words.take 1).map .str)) := by
   have := aCV (qs := a.words.map Q.str) (n := 1) (by rw [List.length_map]; omega)
   rw [List.map_take]; exact this
  have t3 : qSl (.tup (a.words.map .str)) (some 1) (some 2) = some (.tup (((a.words.drop 1).take 1).map .str)) := by
   have := aDn (qs := a.words.map Q.str) (a := 1) (b := 2) (by omega)
   rw [List.map_take,List.map_drop]
   simp only [qSl]
   rw [show ((1 : Int)) = ((1 : Nat) : Int) from rfl,show ((2 : Int)) = ((2 : Nat) : Int) from rfl,this]
  simp only [h0,h1,h2,h3,h4,h5,decide_true,decide_false,Bool.false_eq_true,if_false,if_true,aA,aI,nQ,aC,t1,xb,xw,ql,gO,pL]
  refine P (by rw [List.length_map]; omega) (by rw [List.length_map]; have := gb.l3; omega) (by omega) fun x hx => ?_
  obtain ⟨w,hwm,rfl⟩ := List.mem_map.mp hx
  have d1 : iJ (.tup ((a.words.take 1).map .str)) (.tup [.str w]) = some (.tup ((a.words.take 1).map .str ++ [.str w])) := uW (by simp only [List.length_map,List.length_take,List.length_cons,List.length_nil]; omega)
  have d2 : iJ (.tup ((a.words.take 1).map .str ++ [.str w])) (.tup (((a.words.drop 1).take 1).map .str)) = some (.tup ((a.words.take 1 ++ [w] ++ (a.words.drop 1).take 1).map .str)) := by
   rw [uW (by simp only [List.length_append,List.length_map,List.length_take,List.length_drop,List.length_cons,List.length_nil]; omega)]
   simp
  have st := sV (qs := ops.map Opr.q) (r := at_) (v := .tup [.str a.kind, .tup ((a.words.take 1 ++ [w] ++ (a.words.drop 1).take 1).map .str)]) (by omega)
  simp only [gS,aA,aI,aC,d1,nQ,t3,d2,st,pJ,eA,dF,dZ]
  refine hk _ _ (by omega) (by simp only [List.length_set]; omega) (oX el (.inl ⟨⟨a.kind,a.words.take 1 ++ [w] ++ (a.words.drop 1).take 1⟩,rfl,⟨ga.kd, ?_,fun x hx => ?_⟩⟩))
  ·simp only [List.length_append,List.length_take,List.length_drop,List.length_cons,List.length_nil]; omega
  ·simp only [List.mem_append,List.mem_singleton] at hx
   rcases hx with (hx | rfl) | hx
   ·exact ga.w0 x (List.mem_of_mem_take hx)
   ·exact gb.w0 x hwm
   ·exact ga.w0 x (List.mem_of_mem_drop (List.mem_of_mem_take hx))
 ·simp only [h0,h1,h2,h3,h4,h5,decide_false,Bool.false_eq_true,if_false,aA,aI,ql,aC,gO,pL]
  refine P (by simp) (by simp) (by omega) fun x hx => ?_
  have hx' : El x := by
   simp only [List.mem_cons,List.not_mem_nil,or_false] at hx
   rcases hx with rfl | rfl | rfl | rfl | rfl
   ·exact .inr aIo
   ·exact .inl ⟨⟨a.kind,[]⟩,rfl,⟨ga.kd,by simp,by simp⟩⟩
   ·exact .inr (aJ8 ga.kd ga.w0 ga.l3)
   ·exact .inr (aJ7 ga)
   ·exact .inr (aIq (by decide +kernel))
  have st := sV (qs := ops.map Opr.q) (r := at_) (v := x) (by omega)
  simp only [gS,aA,aC,st,pJ,eA,dF,dZ]
  exact hk _ _ (by omega) (by simp only [List.length_set]; omega) (oX el hx')
def dJ : List Str := ["a","b","c","d","e","f","g","h","i","j","k","l","m"]
theorem aCA : dD (.str "abcdefghijklm") = some (dJ.map .str) := by kernel_rfl
theorem aCB : qSl (.str "abcdefghijklm") none (some 12) = some (.str "abcdefghijkl") := by kernel_rfl
theorem aBO : dD (.str "abcdefghijkl") = some ((dJ.take 12).map .str) := by kernel_rfl
theorem aDJ {w : Str} (h : w ∈ dJ) : El (.tup [.str "infix", .tup [.str w]]) := by
 refine .inl ⟨⟨"infix",[w]⟩,rfl,⟨(by decide : ("infix" : Str) ∈ kinds),by simp,fun x hx => ?_⟩⟩
 rw [List.mem_singleton.mp hx]
 exact List.mem_append_right _ h
theorem tA {es : List Q} (hl : es.length <= 13) (h : ∀ e ∈ es,El e) : V02 (.tup es) := .inl ⟨es,rfl,hl,h⟩
theorem aIj {o : Opr} (h : o.kind ∈ kinds /\ o.words.length <= 3 /\ ∀ x ∈ o.words,x ∈ W02) : El o.q := .inl ⟨o,rfl,⟨h.1,h.2.1,h.2.2⟩⟩
theorem aFp {ops : List Opr} (O : OpsOk ops) (hl : ops.length <= 12) : ∃ s,fX (.lst (ops.map Opr.q)) = some (.str s) := by
 have e2 : aO bD (.lst (ops.map Opr.q)) = some (.list (ops.map Opr.py)) := by
  show (aJ (aO 65) (ops.map Opr.q)).map PyData.list = _
  rw [dW (xs := ops) (f := aO 65) (g := Opr.q) (k := Opr.py) fun x _ => uJ (n := 62)]
  rfl
 have p := (pE (n := 2) (w := 60) (ds := ops.map Opr.py) fun d hd => by
  obtain ⟨o,ho,rfl⟩ := List.mem_map.mp hd
  exact aCQ (O.ok o ho)).pn
 exact ⟨_,aC1 (tS _) e2 p (by omega) (by rw [List.length_map]; omega)⟩
theorem xH {b : Bool} {os : List Opr} (h : ∀ o ∈ os,opB o = true) : cV b os = (os.filter fun o => decide (o.S = b)).map hdW := by
 induction os with
 | nil => rfl
 | cons o os ih =>
  have ih := ih fun x hx => h x (by simp [hx])
  have e := sS (h o (by simp))
  have e2 : o.words.head? = some (hdW o) := by
   generalize hdW o = w at *
   rw [e]; rfl
  unfold cV at ih ⊢
  rw [List.filterMap_cons]
  by_cases hz : o.S = b
  ·rw [if_pos hz,e2,List.filter_cons_of_pos (by simpa using hz),List.map_cons,ih]
  ·rw [if_neg hz,List.filter_cons_of_neg (by simpa using hz),ih]
theorem aIF {ops : List Opr} (O : OpsOk ops) (b : ∀ o ∈ ops,opB o = true) : vZ ops = true := by
 have n1 := O.nd true
 have n2 := O.nd false
 rw [xH b] at n1 n2
 have f1 : (ops.filter fun o => decide (o.S = true)) = ops.filter fun o => o.S := List.filter_congr fun o _ => by simp
 have f2 : (ops.filter fun o => decide (o.S = false)) = ops.filter fun o => !o.S := List.filter_congr fun o _ => by cases o.S <;> rfl
 rw [f1] at n1
 rw [f2] at n2
 have l1 : (lat ops).Nodup := O.lt
 have l2 : ∀ w ∈ lat ops,w ∉ ops.map hdW := fun w hw z => by
  obtain ⟨o,ho,rfl⟩ := List.mem_map.mp z
  refine O.ld _ hw o.S ?_
  rw [xH b]
  exact List.mem_map.mpr ⟨o,List.mem_filter.mpr ⟨ho,by simp⟩,rfl⟩
 simp only [vZ,Bool.and_eq_true,decide_eq_true_eq,Bool.not_eq_true',List.any_eq_false]
 exact ⟨⟨l1,fun w hw => by simpa using l2 w hw⟩,n1,n2⟩
def kH (ws : List Str) : Q := .tup (ws.map fun w => .tup [.str "infix", .tup [.str w]])
theorem aHW {ws : List Str} (h : ∀ w ∈ ws,w ∈ dJ) (hl : ws.length <= 13) : V02 (kH ws) := tA (by rw [List.length_map]; exact hl) fun e he => by
 obtain ⟨w,hw,rfl⟩ := List.mem_map.mp he
 exact aDJ (h w hw)
def opP : Opr := ⟨"prefix",["-"]⟩
def opI : Opr := ⟨"infix",["-"]⟩
def kU : Opr := ⟨"infix",["+","-"]⟩
def opT : Opr := ⟨"postfix",["-"]⟩
def opC : Opr := ⟨"closed",["[","]"]⟩
theorem aFb : ∀ o ∈ [opP,opI,kU,opT,opC],o.kind ∈ kinds /\ o.words.length <= 3 /\ ∀ x ∈ o.words,x ∈ W02 := by
 have h : (decide (opP.kind ∈ kinds /\ opP.words.length <= 3 /\ ∀ x ∈ opP.words,x ∈ W02) && decide (opI.kind ∈ kinds /\ opI.words.length <= 3 /\ ∀ x ∈ opI.words,x ∈ W02) && decide (kU.kind ∈ kinds /\ kU.words.length <= 3 /\ ∀ x ∈ kU.words,x ∈ W02) && decide (opT.kind ∈ kinds /\ opT.words.length <= 3 /\ ∀ x ∈ opT.words,x ∈ W02) && decide (opC.kind ∈ kinds /\ opC.words.length <= 3 /\ ∀ x ∈ opC.words,x ∈ W02)) = true := by decide +kernel
 simp only [Bool.and_eq_true,decide_eq_true_eq] at h
 obtain ⟨⟨⟨⟨h1,h2⟩,h3⟩,h4⟩,h5⟩ := h
 intro o ho
 simp only [List.mem_cons,List.not_mem_nil,or_false] at ho
 rcases ho with rfl | rfl | rfl | rfl | rfl <;> assumption
theorem aDg {os : List Opr} (hl : os.length <= 13) (h : ∀ o ∈ os,o ∈ [opP,opI,kU,opT,opC]) : V02 (bP os) := tA (by rw [List.length_map]; exact hl) fun e he => by
 obtain ⟨o,ho,rfl⟩ := List.mem_map.mp he
 exact aIj (aFb o (h o ho))
def gW (ops : List Opr) : List Q := [bP ops, .tup [], .lst [], .non, .bl true, .str "", .dK [], .lst (ops.map Opr.q), .tup [bP ops]]
theorem aEw {ops : List Opr} (O : OpsOk ops) (hl : ops.length <= 12) (vo : V02 (bP ops)) : ∀ v ∈ gW ops,V02 v := fun v hv => by
 simp only [gW,List.mem_cons,List.not_mem_nil,or_false] at hv
 rcases hv with rfl | rfl | rfl | rfl | rfl | rfl | rfl | rfl | rfl
 ·exact vo
 ·exact tA (by simp) fun e he => by cases he
 ·exact .inr ⟨rfl,rfl,"[]",by kernel_rfl⟩
 ·exact .inr ⟨rfl,rfl,"None",by kernel_rfl⟩
 ·exact .inr ⟨rfl,rfl,"True",by kernel_rfl⟩
 ·exact .inr ⟨rfl,rfl,"''",by kernel_rfl⟩
 ·exact .inr ⟨rfl,rfl,"{}",by kernel_rfl⟩
 ·exact .inr ⟨rfl,rfl,aFp O hl⟩
 ·exact tA (by simp) fun e he => by rw [List.mem_singleton.mp he]; exact .inr (aIp O hl)
theorem aKs : wK (.int 25) (.int 0) = some (.int (0 : Nat)) := by kernel_rfl
theorem aIC : wK (.int 25) (.int 1) = some (.int (25 : Nat)) := by kernel_rfl
theorem aCv : aK PT 199 eE [.src] (fun r _ => r = .ok (.bl true)) 0 := by
 rw [show (199 : Nat) = 198 + 1 from rfl,yR]
 unfold lG
 simp only [aA,aI,gO,tP]
 refine ⟨⟨by decide,by decide,by decide,by decide⟩,fun ops hy O hl => ?_⟩
 have hol : ops.length <= 12 := by omega
 have g : ∀ o ∈ ops,G02 o := fun o ho => ⟨(O.ok o ho).kd,(O.ok o ho).l3,fun x hx => List.mem_append_left _ (hy o ho x hx)⟩
 have hw : ∀ o ∈ ops,0 < o.words.length := fun o ho => (O.ok o ho).l1
 have bo : ∀ o ∈ ops,opB o = true := fun o ho => by
  have h1 := (O.ok o ho).l1
  have h2 := (O.ok o ho).l2
  simp only [opB,decide_eq_true_eq]
  split
  ·exact h2 (by assumption)
  ·exact h1
 have vo : V02 (bP ops) := tA (by rw [List.length_map]; omega) fun e he => by
  obtain ⟨o,ho,rfl⟩ := List.mem_map.mp he
  exact .inl ⟨o,rfl,g o ho⟩
 have ch : ∀ {K : Rs Q -> Nat -> Prop} {c : Nat},0 < ops.length -> c + 100 < 1000000000 -> (∀ es c',c' <= c + 10 -> es.length <= 13 -> (∀ e ∈ es,El e) -> K (.ok (.tup es)) c') -> aK PT 198 dU [.src,bP ops] K c := fun hne hc hk => aAH 195 O g hw hne hol hc hk
 have sm : ∀ v,V02 v -> ∃ b,aK PT 198 aL [v] = .ret (.bl b) /\ aK PT 198 cY [v] = .ret (.bl b) := fun v h => h.same 194
 have last : aK PT 198 aL [bP ops] = .ret (.bl true) := by
  have a := aCH 194 hol g bo
  rw [aIF O bo] at a
  exact a
 generalize aK PT 198 = pc at *
 have ql : gV (bP ops) = some (.lst (ops.map Opr.q)) := rfl
 have ev : ([bP ops, .tup [], .lst [], .non, .bl true, .str "", .dK [], .lst (ops.map Opr.q), .tup [bP ops]] : List Q) = gW ops := rfl
 have lc : ∀ {ws : List Str} {pt : Q -> Pm Bool} {pe : Q -> Pm Q},ws.length <= 100 -> (∀ q,pt q = .ret true) -> (∀ w : Str,pe (.str w) = .ret (.tup [.str "infix", .tup [.str w]])) -> lcP some pt pe (ws.map .str) = .ret (.lst (ws.map fun w => .tup [.str "infix", .tup [.str w]])) := fun {ws pt pe} h a b => hX Q.str (fun w => .tup [.str "infix", .tup [.str w]]) (by omega) fun w _ => ⟨_,rfl,a _,b w⟩
 have ap : ∀ (us : List Q) (ws : List Q),us.length <= 100 -> dS (.lst us) (.tup ws) = some (.lst (us ++ [.tup ws])) := fun us ws h => oB (fun us h => by cases h) (by omega)
 have n0 : qNe (bP ops) (.tup []) = some (.bl (!decide (ops = []))) := aFF (b := []) O ⟨by simp,fun b => by simp [cV],by simp [dO],by simp [dO]⟩
 simp only [gS,aA,aI,ql,ev,aC,hJ,aCB,aBO,nQ]
 rw [lc (by decide) (fun _ => rfl) fun w => by simp only [aA]]
 have v1 := ap (gW ops) ((dJ.take 12).map fun w => .tup [.str "infix", .tup [.str w]]) (by simp [gW])
 simp only [gS,aA,aI,eA,aC,v1,hJ,aCA]
 rw [lc (by decide) (fun _ => rfl) fun w => by simp only [aA]]
 have v2 := ap (gW ops ++ [kH (dJ.take 12)]) (dJ.map fun w => .tup [.str "infix", .tup [.str w]]) (by simp [gW])
 have v3 := ap (gW ops ++ [kH (dJ.take 12)] ++ [kH dJ]) ([opP,opI,kU].map Opr.q) (by simp [gW])
 have v4 := ap (gW ops ++ [kH (dJ.take 12)] ++ [kH dJ] ++ [bP [opP,opI,kU]]) ([opP,opT,opC].map Opr.q) (by simp [gW])
 have e1 : (Q.tup ((dJ.take 12).map fun w => .tup [.str "infix", .tup [.str w]])) = kH (dJ.take 12) := rfl
 have e2 : (Q.tup (dJ.map fun w => .tup [.str "infix", .tup [.str w]])) = kH dJ := rfl
 have e3 : (Q.tup [.tup [.str "prefix", .tup [.str "-"]], .tup [.str "infix", .tup [.str "-"]], .tup [.str "infix", .tup [.str "+", .str "-"]]]) = .tup ([opP,opI,kU].map Opr.q) := rfl
 have e4 : (Q.tup [.tup [.str "prefix", .tup [.str "-"]], .tup [.str "postfix", .tup [.str "-"]], .tup [.str "closed", .tup [.str "[", .str "]"]]]) = .tup ([opP,opT,opC].map Opr.q) := rfl
 have e5 : (Q.tup ([opP,opI,kU].map Opr.q)) = bP [opP,opI,kU] := rfl
 have e6 : (Q.tup ([opP,opT,opC].map Opr.q)) = bP [opP,opT,opC] := rfl
 rw [e2] at v2
 rw [e5] at v3
 rw [e6] at v4
 rw [e5] at e3
 rw [e6] at e4
 have all : ∀ v ∈ gW ops ++ [kH (dJ.take 12)] ++ [kH dJ] ++ [bP [opP,opI,kU]] ++ [bP [opP,opT,opC]],V02 v := fun v hv => by
  simp only [List.mem_append,List.mem_singleton] at hv
  rcases hv with (((hv | rfl) | rfl) | rfl) | rfl
  ·exact aEw O hol vo v hv
  ·exact aHW (fun w hw => List.mem_of_mem_take hw) (by decide)
  ·exact aHW (fun w hw => hw) (by decide)
  ·exact aDg (by decide) fun o ho => by simp only [List.mem_cons,List.not_mem_nil,or_false] at ho ⊢; rcases ho with rfl | rfl | rfl <;> simp
  ·exact aDg (by decide) fun o ho => by simp only [List.mem_cons,List.not_mem_nil,or_false] at ho ⊢; rcases ho with rfl | rfl | rfl <;> simp
 have l13 : (gW ops ++ [kH (dJ.take 12)] ++ [kH dJ] ++ [bP [opP,opI,kU]] ++ [bP [opP,opT,opC]]).length = 13 := rfl
 simp only [gS,aA,aI,eA,aC,e1,e2,v2,hJ,e3,v3,e4,v4,n0]
 generalize gW ops ++ [kH (dJ.take 12)] ++ [kH dJ] ++ [bP [opP,opI,kU]] ++ [bP [opP,opT,opC]] = V at all l13 ⊢
 obtain ⟨n,m,hn,hn2,i1,i2,i3⟩ : ∃ (n : Nat) (m : Int),n <= 25 /\ (0 < n -> 0 < ops.length) /\ wJ (.bl (!decide (ops = []))) = some (.int m) /\ wK (.int 25) (.int m) = some (.int n) /\ sU (.int n) = some ((List.range n).map fun i : Nat => Q.int i) := by
  by_cases h : ops = []
  ·refine ⟨0,0,by omega,fun z => absurd z (by omega), ?_,aKs,by simp [sU]⟩
   rw [decide_eq_true h]; rfl
  ·refine ⟨25,1,by omega,fun _ => List.length_pos_iff.mpr h, ?_,aIC,by simp [sU]⟩
   rw [decide_eq_false h]; rfl
 simp only [i1,i2,i3,aC,aA]
 rw [pL]
 refine aFc (xs := List.range n) (fun i : Nat => Q.int i) (fun i s c' => ∃ vs : List Q,s = .lst vs /\ (∀ v ∈ vs,V02 v) /\ vs.length = 13 + i /\ c' <= 1000 + 10 * i) (by rw [List.length_range]; omega) ⟨V,rfl,all,l13,by omega⟩ ?_ ?_
 ·rintro i x s c' hx ⟨vs,rfl,h1,h2,h3⟩
  have hi : i < n := by
   have := List.getElem?_eq_some_iff.mp hx
   obtain ⟨h,_⟩ := this
   simpa using h
  refine ⟨_,rfl,fun K' hK' => ?_⟩
  unfold pA
  simp only [hJ,aA,aI]
  rw [gO]
  refine ch (hn2 (by omega)) (by omega) fun es c2 hc2 hl2 he => ?_
  have a := oB (qs := vs) (x := .tup es) (fun us h => by cases h) (by omega)
  simp only [gS,a,aC,aA,dZ]
  refine hK' _ _ ⟨_,rfl,fun v hv => ?_,by rw [List.length_append]; simp; omega,by omega⟩
  rcases List.mem_append.mp hv with hv | hv
  ·exact h1 v hv
  ·rw [List.mem_singleton.mp hv]; exact tA hl2 he
 ·rintro s c' ⟨vs,rfl,h1,h2,_⟩
  rw [List.length_range] at h2
  have lp : nA (L := Unit) some (fT pc) vs () = .ret (.nx ()) := by
   have := aDy (L := Unit) (un := some) (pb := fT pc) (s := ()) (xs := vs) (fun x => x) (fun _ => true) (.bl false) (by omega) fun v h => ⟨v,rfl,by
    obtain ⟨b,b1,b2⟩ := sm v (h1 v h)
    rw [aHT (h1 v h) b1 b2]
    rfl⟩
   simpa using this
  have is1 : qIs (.bl true) (.bl true) = some (.bl true) := rfl
  simp only [gS,pJ,aA,uC,aC,lp,seq_nx,last,is1,dF,dZ]
theorem plain : xX := aFz aCv
end LW
end
section
namespace LW
open PV PySem PySem.Spec PyProof.Rows L2
def gx (K : PySem.W.Frag) : Gx := ⟨K,fun f => match f with
 | 0 => some (He.ga K "is_token")
 | 1 => some (He.ga K "is_word")
 | 2 => some (He.ga K "is_operator")
 | 3 => some (He.ga K "starts_operand")
 | 4 => some (He.ga K "are_distinct")
 | 5 => some (He.ga K "is_operator_list")
 | 6 => some (He.ga K "_law_source")
 | 7 => some (He.ga K "_law_draw")
 | 8 => some (He.ga K "_law_pick")
 | 9 => some (He.ga K "_law_words")
 | 10 => some (He.ga K "_law_operator")
 | 11 => some (He.ga K "_law_operators")
 | 12 => some (He.ga K "_law_due")
 | 13 => some (He.ga K "_law_changed")
 | 14 => some (He.ga K "_law_right")
 | 15 => some (He.ga K "law")
 | _ => none,fun c => (caL K).lookup c,[]⟩
theorem aCp {P : Program} {w : World} {K : PySem.W.Frag} {h : Heap} {mg : Str -> Option Value} (base : Heap) (X : K.In h) (G : h.Ns mainGlobals mg) (c : He.SaysD fa fn K) (d : ck K = true) : ∀ k,FS P w K mg base (gx K) k (aW T k)
 | 0 => by
  obtain ⟨_,F0⟩ := c.def_ 0 (d := pU) rfl
  obtain ⟨_,F1⟩ := c.def_ 1 (d := rB) rfl
  obtain ⟨_,F2⟩ := c.def_ 2 (d := lS) rfl
  obtain ⟨_,F3⟩ := c.def_ 3 (d := iZ) rfl
  obtain ⟨_,F4⟩ := c.def_ 4 (d := kN) rfl
  obtain ⟨_,F5⟩ := c.def_ 5 (d := gZ) rfl
  obtain ⟨_,F6⟩ := c.def_ 6 (d := mX) rfl
  obtain ⟨_,F7⟩ := c.def_ 7 (d := pV) rfl
  obtain ⟨_,F8⟩ := c.def_ 8 (d := pW) rfl
  obtain ⟨_,F9⟩ := c.def_ 9 (d := oM) rfl
  obtain ⟨_,F10⟩ := c.def_ 10 (d := kO) rfl
  obtain ⟨_,F11⟩ := c.def_ 11 (d := jV) rfl
  obtain ⟨_,F12⟩ := c.def_ 12 (d := rC) rfl
  obtain ⟨_,F13⟩ := c.def_ 13 (d := lT) rfl
  obtain ⟨_,F14⟩ := c.def_ 14 (d := oL) rfl
  obtain ⟨_,F15⟩ := c.def_ 15 (d := yB) rfl
  exact ⟨cI F0 (He.glo_ok X G (c.fact 0 (f := .glo "is_token") rfl)) rfl,
   cI F1 (He.glo_ok X G (c.fact 1 (f := .glo "is_word") rfl)) rfl,
   cI F2 (He.glo_ok X G (c.fact 2 (f := .glo "is_operator") rfl)) rfl,
   cI F3 (He.glo_ok X G (c.fact 3 (f := .glo "starts_operand") rfl)) rfl,
   cI F4 (He.glo_ok X G (c.fact 4 (f := .glo "are_distinct") rfl)) rfl,
   cI F5 (He.glo_ok X G (c.fact 5 (f := .glo "is_operator_list") rfl)) rfl,
   cI F6 (He.glo_ok X G (c.fact 6 (f := .glo "_law_source") rfl)) rfl,
   cI F7 (He.glo_ok X G (c.fact 7 (f := .glo "_law_draw") rfl)) rfl,
   cI F8 (He.glo_ok X G (c.fact 8 (f := .glo "_law_pick") rfl)) rfl,
   cI F9 (He.glo_ok X G (c.fact 9 (f := .glo "_law_words") rfl)) rfl,
   cI F10 (He.glo_ok X G (c.fact 10 (f := .glo "_law_operator") rfl)) rfl,
   cI F11 (He.glo_ok X G (c.fact 11 (f := .glo "_law_operators") rfl)) rfl,
   cI F12 (He.glo_ok X G (c.fact 12 (f := .glo "_law_due") rfl)) rfl,
   cI F13 (He.glo_ok X G (c.fact 13 (f := .glo "_law_changed") rfl)) rfl,
   cI F14 (He.glo_ok X G (c.fact 14 (f := .glo "_law_right") rfl)) rfl,
   cI F15 (He.glo_ok X G (c.fact 15 (f := .glo "law") rfl)) rfl,
   He.str_ok X G (c.fact 16 (f := .str "CLOSED" "closed") rfl),
   PV.tupS_ok (a := 0) (xs := (["(",")"] : List Str)) rfl (He.glo_ok X G (c.fact 17 (f := .glo "GROUP_WORDS") rfl)) (He.ba d).1,
   PV.tupS_ok (a := 0) (xs := (["closed","infix","postfix","prefix"] : List Str)) rfl (He.glo_ok X G (c.fact 18 (f := .glo "KINDS") rfl)) (He.ba (He.ba d).2).1,
   He.int_ok X G (c.fact 19 (f := .int "MOST_CHARACTERS" 8) rfl),
   He.int_ok X G (c.fact 20 (f := .int "MOST_OPERATORS" 12) rfl),
   He.int_ok X G (c.fact 21 (f := .int "MOST_WORDS" 3) rfl),
   He.str_ok X G (c.fact 22 (f := .str "PREFIX" "prefix") rfl),
   He.free_ok X G (c.fact 23 (f := .free "abs") rfl),
   He.free_ok X G (c.fact 24 (f := .free "all") rfl),
   He.free_ok X G (c.fact 25 (f := .free "any") rfl),
   He.free_ok X G (c.fact 26 (f := .free "int") rfl),
   He.free_ok X G (c.fact 27 (f := .free "isinstance") rfl),
   He.free_ok X G (c.fact 28 (f := .free "len") rfl),
   He.free_ok X G (c.fact 29 (f := .free "list") rfl),
   He.free_ok X G (c.fact 30 (f := .free "max") rfl),
   He.free_ok X G (c.fact 31 (f := .free "min") rfl),
   He.free_ok X G (c.fact 32 (f := .free "range") rfl),
   He.free_ok X G (c.fact 33 (f := .free "repr") rfl),
   He.free_ok X G (c.fact 34 (f := .free "str") rfl),
   He.free_ok X G (c.fact 35 (f := .free "tuple") rfl)⟩
 | k + 1 => by
  have ih := aCp (P := P) (w := w) base X G c d k
  obtain ⟨_,F0⟩ := c.def_ 0 (d := pU) rfl
  obtain ⟨_,F1⟩ := c.def_ 1 (d := rB) rfl
  obtain ⟨_,F2⟩ := c.def_ 2 (d := lS) rfl
  obtain ⟨_,F3⟩ := c.def_ 3 (d := iZ) rfl
  obtain ⟨_,F4⟩ := c.def_ 4 (d := kN) rfl
  obtain ⟨_,F5⟩ := c.def_ 5 (d := gZ) rfl
  obtain ⟨_,F6⟩ := c.def_ 6 (d := mX) rfl
  obtain ⟨_,F7⟩ := c.def_ 7 (d := pV) rfl
  obtain ⟨_,F8⟩ := c.def_ 8 (d := pW) rfl
  obtain ⟨_,F9⟩ := c.def_ 9 (d := oM) rfl
  obtain ⟨_,F10⟩ := c.def_ 10 (d := kO) rfl
  obtain ⟨_,F11⟩ := c.def_ 11 (d := jV) rfl
  obtain ⟨_,F12⟩ := c.def_ 12 (d := rC) rfl
  obtain ⟨_,F13⟩ := c.def_ 13 (d := lT) rfl
  obtain ⟨_,F14⟩ := c.def_ 14 (d := oL) rfl
  obtain ⟨_,F15⟩ := c.def_ 15 (d := yB) rfl
  exact ⟨bY (N := pO) (mm := hY) F0 (He.glo_ok X G (c.fact 0 (f := .glo "is_token") rfl)) rfl aAK rfl ih rfl (by decide) aAQ,
   bY (N := qY) (mm := jN) F1 (He.glo_ok X G (c.fact 1 (f := .glo "is_word") rfl)) rfl aB2 rfl ih rfl (by decide) aB5,
   bY (N := lP) (mm := eO) F2 (He.glo_ok X G (c.fact 2 (f := .glo "is_operator") rfl)) rfl wO rfl ih rfl (by decide) wW,
   bY (N := iY) (mm := dG) F3 (He.glo_ok X G (c.fact 3 (f := .glo "starts_operand") rfl)) rfl tF rfl ih rfl (by decide) tG,
   bY (N := kJ) (mm := eH) F4 (He.glo_ok X G (c.fact 4 (f := .glo "are_distinct") rfl)) rfl vC rfl ih rfl (by decide) vH,
   bY (N := gX) (mm := cO) F5 (He.glo_ok X G (c.fact 5 (f := .glo "is_operator_list") rfl)) rfl qV rfl ih rfl (by decide) qW,
   bY (N := mW) (mm := hG) F6 (He.glo_ok X G (c.fact 6 (f := .glo "_law_source") rfl)) rfl xU rfl ih rfl (by decide) xV,
   bY (N := pP) (mm := gG) F7 (He.glo_ok X G (c.fact 7 (f := .glo "_law_draw") rfl)) rfl aAL rfl ih rfl (by decide) aAR,
   bY (N := pQ) (mm := eU) F8 (He.glo_ok X G (c.fact 8 (f := .glo "_law_pick") rfl)) rfl aAM rfl ih rfl (by decide) aAS,
   bY (N := oI) (mm := iN) F9 (He.glo_ok X G (c.fact 9 (f := .glo "_law_words") rfl)) rfl aAj rfl ih rfl (by decide) aAm,
   bY (N := kL) (mm := cP) F10 (He.glo_ok X G (c.fact 10 (f := .glo "_law_operator") rfl)) rfl vD rfl ih rfl (by decide) vI,
   bY (N := jS) (mm := eR) F11 (He.glo_ok X G (c.fact 11 (f := .glo "_law_operators") rfl)) rfl uF rfl ih rfl (by decide) uG,
   bY (N := qZ) (mm := jO) F12 (He.glo_ok X G (c.fact 12 (f := .glo "_law_due") rfl)) rfl aB3 rfl ih rfl (by decide) aB6,
   bY (N := lQ) (mm := eP) F13 (He.glo_ok X G (c.fact 13 (f := .glo "_law_changed") rfl)) rfl wQ rfl ih rfl (by decide) wX,
   bY (N := oH) (mm := gQ) F14 (He.glo_ok X G (c.fact 14 (f := .glo "_law_right") rfl)) rfl aAi rfl ih rfl (by decide) aAl,
   bY (N := xW) (mm := sQ) F15 (He.glo_ok X G (c.fact 15 (f := .glo "law") rfl)) rfl aC2 rfl ih rfl (by decide) aC6,
   He.str_ok X G (c.fact 16 (f := .str "CLOSED" "closed") rfl),
   PV.tupS_ok (a := 0) (xs := (["(",")"] : List Str)) rfl (He.glo_ok X G (c.fact 17 (f := .glo "GROUP_WORDS") rfl)) (He.ba d).1,
   PV.tupS_ok (a := 0) (xs := (["closed","infix","postfix","prefix"] : List Str)) rfl (He.glo_ok X G (c.fact 18 (f := .glo "KINDS") rfl)) (He.ba (He.ba d).2).1,
   He.int_ok X G (c.fact 19 (f := .int "MOST_CHARACTERS" 8) rfl),
   He.int_ok X G (c.fact 20 (f := .int "MOST_OPERATORS" 12) rfl),
   He.int_ok X G (c.fact 21 (f := .int "MOST_WORDS" 3) rfl),
   He.str_ok X G (c.fact 22 (f := .str "PREFIX" "prefix") rfl),
   He.free_ok X G (c.fact 23 (f := .free "abs") rfl),
   He.free_ok X G (c.fact 24 (f := .free "all") rfl),
   He.free_ok X G (c.fact 25 (f := .free "any") rfl),
   He.free_ok X G (c.fact 26 (f := .free "int") rfl),
   He.free_ok X G (c.fact 27 (f := .free "isinstance") rfl),
   He.free_ok X G (c.fact 28 (f := .free "len") rfl),
   He.free_ok X G (c.fact 29 (f := .free "list") rfl),
   He.free_ok X G (c.fact 30 (f := .free "max") rfl),
   He.free_ok X G (c.fact 31 (f := .free "min") rfl),
   He.free_ok X G (c.fact 32 (f := .free "range") rfl),
   He.free_ok X G (c.fact 33 (f := .free "repr") rfl),
   He.free_ok X G (c.fact 34 (f := .free "str") rfl),
   He.free_ok X G (c.fact 35 (f := .free "tuple") rfl)⟩
theorem facts {P : Program} {w : World} {K : PySem.W.Frag} {h : Heap} {mg : Str -> Option Value} {f : Addr} (X : K.In h) (G : h.Ns mainGlobals mg) (hfa : mg ("law" : Str) = some (.ref f)) (c : He.SaysD fa fn K) (d : ck K = true) :
  ∃ fd : FuncData,(∀ (s : Shared) (v : Value),BindsTo s fd ⟨[v],[]⟩ [("_law_script",v)]) /\ ∀ base : Heap,K.In base -> base.Ns mainGlobals mg -> FnG P w K mg base (CX P w) 203 f fd ["_law_script"] (qN (gx K) 1 (aW T 200 yD)) := by
 obtain ⟨fd,F⟩ := c.def_ 15 (d := yB) rfl
 have e := hfa.symm.trans (He.glo_ok X G (c.fact 15 (f := .glo "law") rfl))
 cases e
 have b := FunD.bindsA (ps := ["_law_script"]) F aGg
 refine ⟨fd,fun s v => b s [v] rfl,fun base _ _ => ?_⟩
 exact aCn (N := xW) (mm := sQ) F aC2 rfl (aCp base X G c d 199) rfl (by decide) aC6
theorem law_sp (pl : xX) {K : PySem.W.Frag} (H : Hp) (a : Addr) (ns : List Int) (hl : ns.length <= 63) (hS : SqF K H a (ns.map V.int)) : qN (gx K) 1 (aW T 200 yD) [.ref a] H (fun v _ => v = .bl true) fun _ _ _ => False := by
 obtain ⟨h,e⟩ := pl ns hl
 refine ⟨[.fl (ns.map D.int)],[],[],[],rfl,⟨.ref a,[],rfl,rfl,⟨a,ns.map V.int,rfl,hS,zE ns⟩,rfl⟩,⟨rfl,List.nodup_nil,fun i c e => (by cases e),fun p hp => (by cases hp)⟩, ?_⟩
 rw [e]
 exact fun _ _ _ _ v q _ => q
end LW
end
section
open PySem PySem.W PySem.Calls PyProof.Rows
theorem LW.walk : WalkO LW.HH.vw LW.HH.names (XL LW.HH.vw []) (PV.hookY LW.HH.nH LW.lamN LW.fa LW.fn LW.ck).says LW.RW.toRowW LW.HH.dd [] fun f vs => PySem.call f vs := by
 refine PV.walkG (l := PySem.Challenge.rw_operatortables_k02_operator_lists_of_any) (n := 63) (k := 203) (x := "_law_script") rfl (by decide) LW.HH.h_df ⟨rfl,by decide,by decide⟩ ?F
 intro w mg fa h Y G hmg0
 obtain ⟨K,KX,c,cd⟩ := Y
 have hmg : mg ("law" : PySem.Str) = some (.ref fa) := LW.HH.h_n ▸ hmg0
 obtain ⟨fd,hb,hF⟩ := LW.facts (P := LW.RW.prog) (w := w) KX G hmg c cd
 exact ⟨K,fd,_,KX,hb,fun H a ns hl hS => LW.law_sp LW.plain H a ns hl hS,hF⟩
theorem PySem.Challenge.cw_operatortables_k02_operator_lists_of_any_holds : PySem.Challenge.rw_operatortables_k02_operator_lists_of_any.Holds := by
 w_on; o_law
 refine LW.HH.head ?hw LW.walk
 case hw => w_witness2
end
