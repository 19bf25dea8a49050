import PyProof.Rows.All
import Wide.All
import OpenK.AllK
import Wide.FinOn
import HandS.Head0
import HandS.Head1
import HandS.Head2
import HandS.HeadEnd
import HandS.HeadHook1
import HandS.HeadHook2
import HandS.Exc
import HandS.Lambda
import HandS.ExcField
import HandS.EndTab
import HandS.Words
import Open.Tops
import KE.KStateDown
import Lean
import PySem.Challenge.RW_operatortables_k06_trees_of_any_value
import HandS.ForMost
import HandS.TupAny
import HandS.Deep
import HandS.Style
import HandS.TupLe
import HandS.IsInst
import HandS.TupLen
import HandS.RaiseMore
import HandS.Conv
import HandS.More
import KE.GoesMore
import HandS.Zip
import HandS.TryOnly
import HandS.Small
import HandS.Defaults
import HandS.CallSlots
import HandS.Ends
import HandS.DictComp
import KE.KDictList
import HandS.TryMany
import HandS.ExcInit
import HandS.ExcIs
import HandS.ClsMeth
import KE.KExcIs
import KE.KDictPairs
import KE.KDictCopyH
import HandS.DeepEq
import KE.SortData
import HandS.Comp
import KE.SortKeyHeap
import KE.KSortKey
import KE.KLam
import KE.KRevSl
import HandS.TupMul
import HandS.TupSets
import PyProof.SumAny
import HandS.FStr
import HandS.DictEq
import PyProof.ReprLen
import PyProof.P3Eq
set_option Elab.async false
set_option linter.all false
set_option maxRecDepth 100000
set_option maxHeartbeats 0
section
namespace PV
open PySem PySem.Spec PyProof.Rows L2
/-- the tables of some defs -/
def aKA (K : PySem.W.Frag) (xs : List Str) : List (Addr × Addr) := xs.filterMap (PySem.W.tabIn K)
def asX (n : Nat) : List Addr := (List.range n).reverse ++ [cStatics]
def frX (g : Addr -> Option Obj) (n : Nat) (tn : List Str) : PySem.W.Frag := match (aKA (He.frG g (asX n)) tn).map (·.2) with
 | ts => He.frG g ((asX n).filter fun a => !ts.contains a)
def aBn (n : Nat) (tn : List Str) (fa : List He.Fa) (fn : List He.DefD) (ck : PySem.W.Frag -> Bool) (g : Addr -> Option Obj) : He.AlD × Bool := (He.obsD fa fn (frX g n tn),ck (frX g n tn))
theorem aIX {h : Heap} {n : Nat} {tn : List Str} : (frX h.get? n tn).In h := He.frG_in
def hookY (n : Nat) (tn : List Str) (fa : List He.Fa) (fn : List He.DefD) (ck : PySem.W.Frag -> Bool) : PySem.W.Hook where
 α := He.AlD × Bool
 obs := fun s => aBn n tn fa fn ck s.heap.get?
 val := fun _ => (He.valD fn,true)
 says := fun _ h => ∃ K : PySem.W.Frag,K.In h /\ He.SaysD fa fn K /\ ck K = true
 of := fun _ _ e => ⟨_,aIX,(Prod.mk.inj e).1,(Prod.mk.inj e).2⟩
 keeps := fun _ _ _ ⟨K,hK,c,d⟩ k => ⟨K,PySem.W.Frag.In.keeps hK k,c,d⟩
theorem aHS {n : Nat} {tn : List Str} {fa : List He.Fa} {fn : List He.DefD} {ck : PySem.W.Frag -> Bool} {g : Addr -> Option Obj} {s : Shared} (h : ∀ a,g a = s.heap.get? a) : aBn n tn fa fn ck g = (hookY n tn fa fn ck).obs s := by
 have e : g = s.heap.get? := funext h
 rw [e]
 rfl
/-- the observations,part by part -/
theorem aER {n : Nat} {tn : List Str} {fa : List He.Fa} {fn : List He.DefD} {ck : PySem.W.Frag -> Bool} {g : Addr -> Option Obj} (h1 : (fa.all fun f => f.ok (frX g n tn)) = true) (h2 : (fn.all fun d => d.ok (frX g n tn)) = true) (h3 : (fn.map fun d => He.fnW (frX g n tn) d.at_) = fn.map He.DefD.val) (h4 : ck (frX g n tn) = true) : aBn n tn fa fn ck g = (He.valD fn,true) := by
 simp only [aBn,He.obsD,He.valD,h1,h2,h3,h4,Bool.and_self]
end PV
namespace PV
section
open PySem PySem.W PySem.Calls PyProof.Rows HandSHeadRun
theorem aF9 {p q : Program} {loose : List Str} {Xt : Shared -> Bool} {α : Type} {Yf : Shared -> α} {Ya : World -> α} {N M : Nat} {s : World -> OsState -> SharedT}
  (e : opening p = plainProg p.main.scope.names) (hN : Nat.ble 600 N = true) (f : ∀ s,fenceModules? p s = some s) (le : Nat.ble M N = true)
  (run : ∀ (w : World) (os : OsState),topRun treeTable p w (boot_heap w.params).objs.size (bootAnn w) M ⟨boot_heap w.params,#[],boot_drawn,boot_toks,os⟩ (topStub p) = some (s w os).abs)
  (l1 : ∀ (w : World) (os : OsState),looksF p (boot_heap w.params) (s w os).abs = true) (l2 : ∀ (w : World) (os : OsState),openSeen q loose (importedModules p.main.body) Xt true (s w os).abs = openGood q loose) (l3 : ∀ (w : World) (os : OsState),Yf (s w os).abs = Ya w) :
  LeftO p q loose Xt Yf Ya N true := fun w => by
 obtain ⟨⟨h,gs,d,k,os⟩,a,a'⟩ := Option.map_eq_some_iff.mp (boot_open e hN f w)
 obtain ⟨rfl,rfl,rfl,rfl⟩ : h = boot_heap w.params /\ gs = Array.mk [] /\ d = boot_drawn /\ k = boot_toks := by simpa using a'
 have r := topRun_mono (N - M) _ _ _ _ (run w os)
 rw [show M + (N - M) = N by have := Nat.le_of_ble_eq_true le; omega] at r
 have l1' : (staticsOk (importedModules p.main.body) (boot_heap w.params) (s w os).abs.heap && namesBound p (s w os).abs.heap && gensDone (s w os).abs && laidKept (boot_heap w.params) (s w os).abs.heap) = true := l1 w os
 have t : topFrom treeTable p w N ⟨boot_heap w.params,Array.mk [],boot_drawn,boot_toks,os⟩ = some (s w os).abs := by
  unfold topFrom
  dsimp only
  rw [boot_ns]
  show (topRun treeTable p w (boot_heap w.params).objs.size (bootAnn w) N ⟨boot_heap w.params,#[],boot_drawn,boot_toks,os⟩ (topStub p)).bind _ = _
  rw [r]
  show (match staticsOk (importedModules p.main.body) (boot_heap w.params) (s w os).abs.heap && namesBound p (s w os).abs.heap && gensDone (s w os).abs && laidKept (boot_heap w.params) (s w os).abs.heap with | true => some (s w os).abs | false => none) = _
  rw [l1']
 unfold openEnds
 rw [a]
 show (topFrom treeTable p w N _).map _ = _
 rw [t]
 exact congrArg some (Prod.ext (l2 w os) (l3 w os))
theorem aCn {r : OpenRow} {q : Program} {H : Hook} {ob : SharedT -> H.α} {M : Nat} {loose : List PySem.Str} {d : DefRec} {kwd : List (PySem.Str × PySem.Expr)} {s : World -> OsState -> SharedT} (ho : ∀ s : SharedT,ob s = H.obs s.abs)
  (e : opening r.prog = plainProg r.prog.main.scope.names) (f : ∀ s,fenceModules? r.prog s = some s)
  (run : ∀ (w : World) (os : OsState),topRun treeTable r.prog w (boot_heap w.params).objs.size (bootAnn w) M ⟨boot_heap w.params,#[],boot_drawn,boot_toks,os⟩ (topStub r.prog) = some (s w os).abs)
  (l1 : ∀ (w : World) (os : OsState),looksF r.prog (boot_heap w.params) (s w os).abs = true)
  (l2 : ∀ (w : World) (os : OsState),seenQ q loose (importedModules r.prog.main.body) (fun s => xlAt q [] s && recOk r.toRowW.records s) (s w os).abs = openGood q loose)
  (l3 : ∀ (w : World) (os : OsState),ob (s w os) = H.val w)
  (hdef : defOf q r.name = some (d,kwd)) (hp : r.prog.theDef r.name = some (d.params,d.body,d.scope)) (hk : kwWritten? d.params.kwonlyargs d.params.kw_defaults = some kwd)
  (hwr : (!r.writes || r.records.isEmpty) = true) (k1 : r.wellSaid = true) (ok : (chainsOk q && opensWell r.prog && (frees r.toRowW && r.within.isEmpty)) = true) (hb : r.prog.bare) (hw : r.toRowW.promised)
  (call : WalkO q loose (XL q []) H.says r.toRowW d kwd fun f vs => PySem.call f vs) : r.Holds := by
 have left : LeftO r.prog q loose (fun s => xlAt q [] s && recOk r.toRowW.records s) H.obs H.val (M + 600) true :=
  aF9 (M := M) e (Nat.ble_eq_true_of_le (by omega)) f (Nat.ble_eq_true_of_le (by omega)) run l1 (fun w os => by rw [seenQ_eq]; exact l2 w os) fun w os => by rw [<- ho]; exact l3 w os
 exact holds_open (r := r) (q := q) (loose := loose) (XP := XL q []) (YP := H.says) (d := d) (kwd := kwd) left H.of H.keeps (fun s z => xl_of s (Bool.and_eq_true_iff.mp z).1) XL.keeps hdef hp hk (fun s z => recFacts_of (Bool.and_eq_true_iff.mp z).2) hwr k1 ok hb hw call
end
end PV
end
section
namespace LW
open PV PySem PySem.Spec PyProof.Rows L2
def top (i : Nat) : Stmt := PySem.Challenge.pw_operatortables_k06_trees_of_any_value.main.body.getD i (.Pass ⟨0,0,0,0⟩)
abbrev fS : Stmt := top 5
abbrev fR : Stmt := top 6
abbrev eG : Stmt := top 7
abbrev kL : Stmt := top 8
abbrev fX : Stmt := top 9
abbrev eH : Stmt := top 11
abbrev cM : Stmt := top 15
abbrev fT : Stmt := top 16
abbrev dO : Stmt := top 18
abbrev fU : Stmt := top 19
abbrev fV : Stmt := top 20
abbrev eL : Stmt := top 21
abbrev dA : Stmt := top 22
abbrev cN : Stmt := top 23
abbrev gN : Stmt := top 24
abbrev eJ : Stmt := top 25
abbrev fW : Stmt := top 26
abbrev eI : Stmt := top 27
abbrev gM : Stmt := top 28
abbrev dG : Stmt := top 29
abbrev eK : Stmt := top 30
abbrev oT : Stmt := top 31
def qW : He.DefD := ⟨("is_token",none),"is_token","is_token",defArgs fS,defBody fS,defScope fS,[],[]⟩
def qV : He.DefD := ⟨("has_left",none),"has_left","has_left",defArgs fR,defBody fR,defScope fR,[],[]⟩
def pD : He.DefD := ⟨("has_right",none),"has_right","has_right",defArgs eG,defBody eG,defScope eG,[],[]⟩
def yG : He.DefD := ⟨("arity",none),"arity","arity",defArgs kL,defBody kL,defScope kL,[],[]⟩
def rA : He.DefD := ⟨("words_of",none),"words_of","words_of",defArgs fX,defBody fX,defScope fX,[],[]⟩
def pE : He.DefD := ⟨("is_number",none),"is_number","is_number",defArgs eH,defBody eH,defScope eH,[],[]⟩
def kR : He.DefD := ⟨("is_identifier",none),"is_identifier","is_identifier",defArgs cM,defBody cM,defScope cM,[],[]⟩
def tI : He.DefD := ⟨("is_tree",none),"is_tree","is_tree",defArgs fT,defBody fT,defScope fT,[],[]⟩
def nQ : He.DefD := ⟨("_law_source",none),"_law_source","_law_source",defArgs dO,defBody dO,defScope dO,[],[]⟩
def qX : He.DefD := ⟨("_law_draw",none),"_law_draw","_law_draw",defArgs fU,defBody fU,defScope fU,[],[]⟩
def qY : He.DefD := ⟨("_law_pick",none),"_law_pick","_law_pick",defArgs fV,defBody fV,defScope fV,[],[]⟩
def pI : He.DefD := ⟨("_law_words",none),"_law_words","_law_words",defArgs eL,defBody eL,defScope eL,[],[]⟩
def lF : He.DefD := ⟨("_law_operator",none),"_law_operator","_law_operator",defArgs dA,defBody dA,defScope dA,[],[]⟩
def kS : He.DefD := ⟨("_law_operators",none),"_law_operators","_law_operators",defArgs cN,defBody cN,defScope cN,[],[]⟩
def tK : He.DefD := ⟨("_law_has",none),"_law_has","_law_has",defArgs gN,defBody gN,defScope gN,[],[]⟩
def pG : He.DefD := ⟨("_law_holes",none),"_law_holes","_law_holes",defArgs eJ,defBody eJ,defScope eJ,[],[]⟩
def qZ : He.DefD := ⟨("_law_tree",none),"_law_tree","_law_tree",defArgs fW,defBody fW,defScope fW,[],[]⟩
def pF : He.DefD := ⟨("_law_grown",none),"_law_grown","_law_grown",defArgs eI,defBody eI,defScope eI,[],[]⟩
def tJ : He.DefD := ⟨("_law_due",none),"_law_due","_law_due",defArgs gM,defBody gM,defScope gM,[],[]⟩
def mH : He.DefD := ⟨("_law_changed",none),"_law_changed","_law_changed",defArgs dG,defBody dG,defScope dG,[],[]⟩
def pH : He.DefD := ⟨("_law_right",none),"_law_right","_law_right",defArgs eK,defBody eK,defScope eK,[],[]⟩
def aAy : He.DefD := ⟨("law",none),"law","law",defArgs oT,defBody oT,defScope oT,[],[]⟩
def fn : List He.DefD := [qW,qV,pD,yG,rA,pE,kR,tI,nQ,qX,qY,pI,lF,kS,tK,pG,qZ,pF,tJ,mH,pH,aAy]
def caL (K : PySem.W.Frag) : List (Nat × Addr) := []
def lamN : List Str := []
def fa : List He.Fa := [.glo "is_token", .glo "has_left", .glo "has_right", .glo "arity", .glo "words_of", .glo "is_number", .glo "is_identifier", .glo "is_tree", .glo "_law_source", .glo "_law_draw", .glo "_law_pick", .glo "_law_words", .glo "_law_operator", .glo "_law_operators", .glo "_law_has", .glo "_law_holes", .glo "_law_tree", .glo "_law_grown", .glo "_law_due", .glo "_law_changed", .glo "_law_right", .glo "law", .str "GROUP" "(", .str "IDENTIFIER_CHARACTERS" "abcdefghijklmnopqrstuvwxyz0123456789", .str "INFIX" "infix", .int "MOST_CHARACTERS" 8, .str "POSTFIX" "postfix", .str "PREFIX" "prefix", .free "abs", .free "all", .free "bool", .free "int", .free "isinstance", .free "len", .free "list", .free "max", .free "min", .free "range", .free "repr", .free "str", .free "sum", .free "tuple"]
abbrev RW : PySem.W.OpenRow := PySem.W.OpenLaw.row PySem.Challenge.rw_operatortables_k06_trees_of_any_value
def ck (K : PySem.W.Frag) : Bool := true
end LW
end
section
open PySem PySem.W PySem.Calls PyProof.Rows
open_shared LW.sf for PySem.Challenge.pw_operatortables_k06_trees_of_any_value leaving 0
end
section
noncomputable section
namespace LW.HH
open LW PV PySem PySem.W PySem.Calls PyProof.Rows HandSHeadRun
def p0 : Pos := { line := 0,col := 0,endLine := 0,endCol := 0 }
def pK : Pos := { line := 137,col := 0,endLine := 138,endCol := 116 }
def bd : List Stmt := behindTheImports RW.prog
def Sb (w : World) (os : OsState) : SharedT := { tree := LW.sf.tree_4 w.params,n := 15,life := { },gens := #[],drawn := { },toks := 187,os := os }
def Sf (w : World) (os : OsState) : SharedT := { tree := LW.sf.tree_141 w.params,n := 147,life := { },gens := #[],drawn := { },toks := 376,os := os }
theorem aIG (w : World) : bootAnn w = some (Value.ref 6) := by kernel_rfl
theorem aK4 (w : World) : (boot_heap w.params).objs.size = 11 := by kernel_rfl
theorem go (w : World) (os : OsState) : topGo treeTable RW.prog w 11 (some (Value.ref 6)) 12 ⟨boot_heap w.params,#[],boot_drawn,boot_toks,os⟩ (topStub RW.prog) = some ((Sb w os).abs,⟨denote treeTable (Code.body bd LW.sf.env_1),Code.body bd LW.sf.env_1,p0,[topFrame p0]⟩) := by kernel_rfl
theorem bl (w : World) (os : OsState) : segRun treeTable RW.prog w 11 (some (Value.ref 6)) 1 1 (Sb w os).abs (blockOf bd LW.sf.env_1 (Code.body bd LW.sf.env_1) p0 [topFrame p0]) = some (.next,(Sb w os).abs,Code.body bd LW.sf.env_1,p0) := by kernel_rfl
theorem fin (w : World) (os : OsState) : topRun treeTable RW.prog w 11 (some (Value.ref 6)) 10 (Sf w os).abs (restOf [] LW.sf.env_1 (Code.body bd LW.sf.env_1) pK [topFrame p0]) = some (Sf w os).abs := by kernel_rfl
theorem aKW : LW.sf.sts_4 ++ (LW.sf.sts_70 ++ []) = bd := by kernel_rfl
theorem run (w : World) (os : OsState) : topRun treeTable RW.prog w (boot_heap w.params).objs.size (bootAnn w) (12 + (1 + (Nat.add 378 (Nat.add 345 10)))) ⟨boot_heap w.params,#[],boot_drawn,boot_toks,os⟩ (topStub RW.prog) = some (Sf w os).abs := by
 rw [aK4,aIG]
 refine go_top (go w os) (piece_block (bl w os) ?_)
 have c := LW.sf.chain RW.prog bd w os [] 10 _ (fin w os)
 rw [aKW] at c
 exact c
def aJf : List PySem.Str := ["MOST_CHARACTERS","INFIX","POSTFIX","PREFIX","is_token","has_left","has_right","arity","words_of","is_number","GROUP","IDENTIFIER_CHARACTERS","is_identifier","is_tree","_law_source"]
def aJg : List PySem.Str := ["_law_draw","_law_pick","_law_words","_law_operator","_law_operators","_law_has","_law_holes","_law_tree","_law_grown","_law_due","_law_changed","_law_right"]
def names : List PySem.Str := aJf ++ aJg
def vw : Program := PySem.W.view RW.prog [31]
theorem l1 (w : World) (os : OsState) : looksF RW.prog (boot_heap w.params) (Sf w os).abs = true := by kernel_rfl
theorem l2 (w : World) (os : OsState) : seenQ vw names (importedModules RW.prog.main.body) (fun s => xlAt vw [] s && recOk RW.toRowW.records s) (Sf w os).abs = openGood vw names := by kernel_rfl
abbrev nH : Nat := 147
theorem o1 (w : World) (os : OsState) : (fa.all fun f => f.ok (frX (getT (Sf w os)) nH lamN)) = true := by kernel_rfl
theorem o2 (w : World) (os : OsState) : (fn.all fun d => d.ok (frX (getT (Sf w os)) nH lamN)) = true := by kernel_rfl
theorem o3 (w : World) (os : OsState) : (fn.map fun d => He.fnW (frX (getT (Sf w os)) nH lamN) d.at_) = fn.map He.DefD.val := by kernel_rfl
theorem o4 (w : World) (os : OsState) : ck (frX (getT (Sf w os)) nH lamN) = true := by kernel_rfl
def ob (s : SharedT) : He.AlD × Bool := aBn nH lamN fa fn ck (getT s)
theorem aLd (s : SharedT) : ob s = (hookY nH lamN fa fn ck).obs s.abs := aHS (getT_eq s)
theorem l3 (w : World) (os : OsState) : ob (Sf w os) = (hookY nH lamN fa fn ck).val w := aER (o1 w os) (o2 w os) (o3 w os) (o4 w os)
def dd : DefRec := topDef RW.prog 31
theorem h_e : opening RW.prog = plainProg RW.prog.main.scope.names := by kernel_rfl
theorem h_f (s : Shared) : fenceModules? RW.prog s = some s := by kernel_rfl
theorem h_d : defOf vw RW.name = some (dd,[]) := by kernel_rfl
theorem h_p : RW.prog.theDef RW.name = some (dd.params,dd.body,dd.scope) := by kernel_rfl
theorem h_k : kwWritten? dd.params.kwonlyargs dd.params.kw_defaults = some [] := by kernel_rfl
theorem aMt : (!RW.writes || RW.records.isEmpty) = true := by kernel_rfl
theorem aMu : RW.wellSaid = true := by decide +kernel
theorem aMs : (chainsOk vw && opensWell RW.prog && (frees RW.toRowW && RW.within.isEmpty)) = true := by decide +kernel
theorem h_b : RW.prog.bare := ⟨rfl,rfl,rfl,rfl,rfl,by decide +kernel⟩
theorem h_n : dd.name = ("law" : PySem.Str) := by kernel_rfl
theorem h_df : dd.params.defaults = [] := by kernel_rfl
theorem head (hw : RW.toRowW.promised) (hc : WalkO vw names (XL vw []) (hookY nH lamN fa fn ck).says RW.toRowW dd [] fun f vs => PySem.call f vs) : RW.Holds :=
 aCn (r := RW) (q := vw) (H := hookY nH lamN fa fn ck) (ob := ob) (loose := names) (d := dd) (kwd := []) (s := Sf) aLd h_e h_f run l1 l2 l3 h_d h_p h_k aMt aMu aMs h_b hw hc
end LW.HH
end
end
section
namespace PV
open PySem PySem.Spec PyProof.Rows L2
/-- a value: pure data,a list just made (tl),a tracked cell (ref),a def,a class,a built-in type -/
inductive D where
 | non | bl (b : Bool) | int (i : Int) | str (x : Str) | tup (ws : List D) | kt (ws : List D) | tl (ws : List D) | fl (ws : List D) | ref (i : Nat)
 | ty (n : String) | fn (f : Nat) | cls (c : Nat) | xc (c : Nat) (ks : List Str) (ws : List D)
 deriving Inhabited
mutual
def D.beq : D -> D -> Bool
 | .non, .non => true
 | .bl a, .bl b => a == b
 | .int a, .int b => a == b
 | .str a, .str b => decide (a = b)
 | .tup a, .tup b => D.beqs a b
 | .tl a, .tl b => D.beqs a b
 | .fl a, .fl b => D.beqs a b
 | .kt a, .kt b => D.beqs a b
 | .ref a, .ref b => a == b
 | .ty a, .ty b => decide (a = b)
 | .fn a, .fn b => a == b
 | .cls a, .cls b => a == b
 | .xc a k v, .xc b l w => (a == b && decide (k = l)) && D.beqs v w
 | _,_ => false
def D.beqs : List D -> List D -> Bool
 | [],[] => true
 | a :: as,b :: bs => D.beq a b && D.beqs as bs
 | _,_ => false
end
mutual
theorem D.beq_eq : ∀ {a b : D},D.beq a b = true -> a = b
 | .non, .non,_ => rfl
 | .bl a, .bl b,h => by simp [D.beq] at h; rw [h]
 | .int a, .int b,h => by simp [D.beq] at h; rw [h]
 | .str a, .str b,h => by simp [D.beq] at h; rw [h]
 | .tup a, .tup b,h => by simp only [D.beq] at h; rw [D.beqs_eq h]
 | .tl a, .tl b,h => by simp only [D.beq] at h; rw [D.beqs_eq h]
 | .fl a, .fl b,h => by simp only [D.beq] at h; rw [D.beqs_eq h]
 | .kt a, .kt b,h => by simp only [D.beq] at h; rw [D.beqs_eq h]
 | .ref a, .ref b,h => by simp [D.beq] at h; rw [h]
 | .ty a, .ty b,h => by simp [D.beq] at h; rw [h]
 | .fn a, .fn b,h => by simp [D.beq] at h; rw [h]
 | .cls a, .cls b,h => by simp [D.beq] at h; rw [h]
 | .non, .bl _,h => by simp [D.beq] at h
 | .non, .int _,h => by simp [D.beq] at h
 | .non, .str _,h => by simp [D.beq] at h
 | .non, .tup _,h => by simp [D.beq] at h
 | .non, .kt _,h => by simp [D.beq] at h
 | .non, .tl _,h => by simp [D.beq] at h
 | .non, .fl _,h => by simp [D.beq] at h
 | .non, .ref _,h => by simp [D.beq] at h
 | .non, .ty _,h => by simp [D.beq] at h
 | .non, .fn _,h => by simp [D.beq] at h
 | .non, .cls _,h => by simp [D.beq] at h
 | .bl _, .non,h => by simp [D.beq] at h
 | .bl _, .int _,h => by simp [D.beq] at h
 | .bl _, .str _,h => by simp [D.beq] at h
 | .bl _, .tup _,h => by simp [D.beq] at h
 | .bl _, .kt _,h => by simp [D.beq] at h
 | .bl _, .tl _,h => by simp [D.beq] at h
 | .bl _, .fl _,h => by simp [D.beq] at h
 | .bl _, .ref _,h => by simp [D.beq] at h
 | .bl _, .ty _,h => by simp [D.beq] at h
 | .bl _, .fn _,h => by simp [D.beq] at h
 | .bl _, .cls _,h => by simp [D.beq] at h
 | .int _, .non,h => by simp [D.beq] at h
 | .int _, .bl _,h => by simp [D.beq] at h
 | .int _, .str _,h => by simp [D.beq] at h
 | .int _, .tup _,h => by simp [D.beq] at h
 | .int _, .kt _,h => by simp [D.beq] at h
 | .int _, .tl _,h => by simp [D.beq] at h
 | .int _, .fl _,h => by simp [D.beq] at h
 | .int _, .ref _,h => by simp [D.beq] at h
 | .int _, .ty _,h => by simp [D.beq] at h
 | .int _, .fn _,h => by simp [D.beq] at h
 | .int _, .cls _,h => by simp [D.beq] at h
 | .str _, .non,h => by simp [D.beq] at h
 | .str _, .bl _,h => by simp [D.beq] at h
 | .str _, .int _,h => by simp [D.beq] at h
 | .str _, .tup _,h => by simp [D.beq] at h
 | .str _, .kt _,h => by simp [D.beq] at h
 | .str _, .tl _,h => by simp [D.beq] at h
 | .str _, .fl _,h => by simp [D.beq] at h
 | .str _, .ref _,h => by simp [D.beq] at h
 | .str _, .ty _,h => by simp [D.beq] at h
 | .str _, .fn _,h => by simp [D.beq] at h
 | .str _, .cls _,h => by simp [D.beq] at h
 | .tup _, .non,h => by simp [D.beq] at h
 | .tup _, .bl _,h => by simp [D.beq] at h
 | .tup _, .int _,h => by simp [D.beq] at h
 | .tup _, .str _,h => by simp [D.beq] at h
 | .tup _, .kt _,h => by simp [D.beq] at h
 | .tup _, .tl _,h => by simp [D.beq] at h
 | .tup _, .fl _,h => by simp [D.beq] at h
 | .tup _, .ref _,h => by simp [D.beq] at h
 | .tup _, .ty _,h => by simp [D.beq] at h
 | .tup _, .fn _,h => by simp [D.beq] at h
 | .tup _, .cls _,h => by simp [D.beq] at h
 | .kt _, .non,h => by simp [D.beq] at h
 | .kt _, .bl _,h => by simp [D.beq] at h
 | .kt _, .int _,h => by simp [D.beq] at h
 | .kt _, .str _,h => by simp [D.beq] at h
 | .kt _, .tup _,h => by simp [D.beq] at h
 | .kt _, .tl _,h => by simp [D.beq] at h
 | .kt _, .fl _,h => by simp [D.beq] at h
 | .kt _, .ref _,h => by simp [D.beq] at h
 | .kt _, .ty _,h => by simp [D.beq] at h
 | .kt _, .fn _,h => by simp [D.beq] at h
 | .kt _, .cls _,h => by simp [D.beq] at h
 | .tl _, .non,h => by simp [D.beq] at h
 | .tl _, .bl _,h => by simp [D.beq] at h
 | .tl _, .int _,h => by simp [D.beq] at h
 | .tl _, .str _,h => by simp [D.beq] at h
 | .tl _, .tup _,h => by simp [D.beq] at h
 | .tl _, .kt _,h => by simp [D.beq] at h
 | .tl _, .fl _,h => by simp [D.beq] at h
 | .tl _, .ref _,h => by simp [D.beq] at h
 | .tl _, .ty _,h => by simp [D.beq] at h
 | .tl _, .fn _,h => by simp [D.beq] at h
 | .tl _, .cls _,h => by simp [D.beq] at h
 | .fl _, .non,h => by simp [D.beq] at h
 | .fl _, .bl _,h => by simp [D.beq] at h
 | .fl _, .int _,h => by simp [D.beq] at h
 | .fl _, .str _,h => by simp [D.beq] at h
 | .fl _, .tup _,h => by simp [D.beq] at h
 | .fl _, .kt _,h => by simp [D.beq] at h
 | .fl _, .tl _,h => by simp [D.beq] at h
 | .fl _, .ref _,h => by simp [D.beq] at h
 | .fl _, .ty _,h => by simp [D.beq] at h
 | .fl _, .fn _,h => by simp [D.beq] at h
 | .fl _, .cls _,h => by simp [D.beq] at h
 | .ref _, .non,h => by simp [D.beq] at h
 | .ref _, .bl _,h => by simp [D.beq] at h
 | .ref _, .int _,h => by simp [D.beq] at h
 | .ref _, .str _,h => by simp [D.beq] at h
 | .ref _, .tup _,h => by simp [D.beq] at h
 | .ref _, .kt _,h => by simp [D.beq] at h
 | .ref _, .tl _,h => by simp [D.beq] at h
 | .ref _, .fl _,h => by simp [D.beq] at h
 | .ref _, .ty _,h => by simp [D.beq] at h
 | .ref _, .fn _,h => by simp [D.beq] at h
 | .ref _, .cls _,h => by simp [D.beq] at h
 | .ty _, .non,h => by simp [D.beq] at h
 | .ty _, .bl _,h => by simp [D.beq] at h
 | .ty _, .int _,h => by simp [D.beq] at h
 | .ty _, .str _,h => by simp [D.beq] at h
 | .ty _, .tup _,h => by simp [D.beq] at h
 | .ty _, .kt _,h => by simp [D.beq] at h
 | .ty _, .tl _,h => by simp [D.beq] at h
 | .ty _, .fl _,h => by simp [D.beq] at h
 | .ty _, .ref _,h => by simp [D.beq] at h
 | .ty _, .fn _,h => by simp [D.beq] at h
 | .ty _, .cls _,h => by simp [D.beq] at h
 | .fn _, .non,h => by simp [D.beq] at h
 | .fn _, .bl _,h => by simp [D.beq] at h
 | .fn _, .int _,h => by simp [D.beq] at h
 | .fn _, .str _,h => by simp [D.beq] at h
 | .fn _, .tup _,h => by simp [D.beq] at h
 | .fn _, .kt _,h => by simp [D.beq] at h
 | .fn _, .tl _,h => by simp [D.beq] at h
 | .fn _, .fl _,h => by simp [D.beq] at h
 | .fn _, .ref _,h => by simp [D.beq] at h
 | .fn _, .ty _,h => by simp [D.beq] at h
 | .fn _, .cls _,h => by simp [D.beq] at h
 | .cls _, .non,h => by simp [D.beq] at h
 | .cls _, .bl _,h => by simp [D.beq] at h
 | .cls _, .int _,h => by simp [D.beq] at h
 | .cls _, .str _,h => by simp [D.beq] at h
 | .cls _, .tup _,h => by simp [D.beq] at h
 | .cls _, .kt _,h => by simp [D.beq] at h
 | .cls _, .tl _,h => by simp [D.beq] at h
 | .cls _, .fl _,h => by simp [D.beq] at h
 | .cls _, .ref _,h => by simp [D.beq] at h
 | .cls _, .ty _,h => by simp [D.beq] at h
 | .cls _, .fn _,h => by simp [D.beq] at h
 | .xc a k v, .xc b l w,h => by simp only [D.beq,Bool.and_eq_true,beq_iff_eq,decide_eq_true_eq] at h; rw [h.1.1,h.1.2,D.beqs_eq h.2]
 | .xc _ _ _, .non,h => by simp [D.beq] at h
 | .non, .xc _ _ _,h => by simp [D.beq] at h
 | .xc _ _ _, .bl _,h => by simp [D.beq] at h
 | .bl _, .xc _ _ _,h => by simp [D.beq] at h
 | .xc _ _ _, .int _,h => by simp [D.beq] at h
 | .int _, .xc _ _ _,h => by simp [D.beq] at h
 | .xc _ _ _, .str _,h => by simp [D.beq] at h
 | .str _, .xc _ _ _,h => by simp [D.beq] at h
 | .xc _ _ _, .tup _,h => by simp [D.beq] at h
 | .tup _, .xc _ _ _,h => by simp [D.beq] at h
 | .xc _ _ _, .kt _,h => by simp [D.beq] at h
 | .kt _, .xc _ _ _,h => by simp [D.beq] at h
 | .xc _ _ _, .tl _,h => by simp [D.beq] at h
 | .tl _, .xc _ _ _,h => by simp [D.beq] at h
 | .xc _ _ _, .fl _,h => by simp [D.beq] at h
 | .fl _, .xc _ _ _,h => by simp [D.beq] at h
 | .xc _ _ _, .ref _,h => by simp [D.beq] at h
 | .ref _, .xc _ _ _,h => by simp [D.beq] at h
 | .xc _ _ _, .ty _,h => by simp [D.beq] at h
 | .ty _, .xc _ _ _,h => by simp [D.beq] at h
 | .xc _ _ _, .fn _,h => by simp [D.beq] at h
 | .fn _, .xc _ _ _,h => by simp [D.beq] at h
 | .xc _ _ _, .cls _,h => by simp [D.beq] at h
 | .cls _, .xc _ _ _,h => by simp [D.beq] at h
theorem D.beqs_eq : ∀ {a b : List D},D.beqs a b = true -> a = b
 | [],[],_ => rfl
 | a :: as,b :: bs,h => by
  simp only [D.beqs,Bool.and_eq_true] at h
  rw [D.beq_eq h.1,D.beqs_eq h.2]
 | [],_ :: _,h => by simp [D.beqs] at h
 | _ :: _,[],h => by simp [D.beqs] at h
end
mutual
theorem D.beq_refl : ∀ a : D,D.beq a a = true
 | .non => rfl
 | .bl a => by simp [D.beq]
 | .int a => by simp [D.beq]
 | .str a => by simp [D.beq]
 | .tup a => by simp only [D.beq]; exact D.beqs_refl a
 | .tl a => by simp only [D.beq]; exact D.beqs_refl a
 | .fl a => by simp only [D.beq]; exact D.beqs_refl a
 | .kt a => by simp only [D.beq]; exact D.beqs_refl a
 | .ref a => by simp [D.beq]
 | .ty a => by simp [D.beq]
 | .fn a => by simp [D.beq]
 | .cls a => by simp [D.beq]
 | .xc a k v => by simp only [D.beq,D.beqs_refl v]; simp
theorem D.beqs_refl : ∀ a : List D,D.beqs a a = true
 | [] => rfl
 | a :: as => by simp only [D.beqs,D.beq_refl a,D.beqs_refl as,Bool.and_self]
end
instance : DecidableEq D := fun a b => if h : D.beq a b = true then isTrue (D.beq_eq h) else isFalse fun e => h (e ▸ D.beq_refl a)
inductive Cl where
 | lst (ws : List D) | dK (kvs : List (Key × D)) | dT (kvs : List (List Key × D)) | ins (c : Nat) (fs : List (Str × D))
 deriving Inhabited,DecidableEq
abbrev Hh := List Cl
abbrev Sg := List (Option D)
end PV
end
section
namespace PV
open PySem PySem.Spec PyProof.Rows L2
/-- where the module's defs and classes stand -/
structure Gx where
 K : PySem.W.Frag
 fa : Nat -> Option Addr
 ca : Nat -> Option Addr
 /-- the tables of code objects that may grow,each with the name that it tells -/
 tb : List (Addr × Str)
/-- a list that is never written -/
def SqF (K : PySem.W.Frag) (H : Hp) (a : Addr) (xs : List V) : Prop := (∃ o,H a = some (.frz o (.lst xs))) \/
  ∃ (o : Obj) (its : Array Value) (n : Nat),K.lookup a = some o /\ o.cls = .type "list" /\ o.dict = none /\ o.data = .seq its n /\ its.size <= sizeLine /\ Vals xs its.toList
theorem SqF.sq {K : PySem.W.Frag} {H : Hp} {a : Addr} {xs : List V} (h : SqF K H a xs) : SqL K H a xs := by
 rcases h with h | h
 ·exact .inl (.inr h)
 ·exact .inr h
/-- a list just made,not yet kept by anyone -/
def D.isTl : D -> Bool
 | .tl _ => true
 | _ => false
/-- an exception that was caught,at a: its class,its dict -/
def ExV (cls : Value) (d : Option Addr) (a : Addr) : HO := .ext fun h => ∃ (oe : Obj) (vs : Array Value),h.get? a = some oe /\ Zc cls d oe /\ oe.data = .fields vs
/-- the attributes of an exception -/
def XdV (H : Hp) (ks : List Str) (vs : List V) (d : Option Addr) : Prop := (ks = [] /\ d = none) \/ ∃ dx,d = some dx /\ H dx = some (.xd (ks.zip vs))
mutual
def RV (g : Gx) (μ : List Addr) (H : Hp) : D -> V -> Prop
 | .non,v => v = .non
 | .bl b,v => v = .bl b
 | .int i,v => v = .int i
 | .str x,v => v = .str x
 | .ty n,v => v = .ty n
 | .fn f,v => ∃ a,g.fa f = some a /\ v = .ref a
 | .cls c,v => ∃ a,g.ca c = some a /\ v = .ref a
 | .ref i,v => ∃ a,μ[i]? = some a /\ v = .ref a
 | .xc c ks ws,v => ∃ a C d vs,v = .ref a /\ g.ca c = some C /\ H a = some (ExV (.ref C) d a) /\ ks.length = ws.length /\ XdV H ks vs d /\ RVs g μ H ws vs
 | .tup ws,v => ∃ a vs,v = .ref a /\ H a = some (.tup vs) /\ RVs g μ H ws vs
 | .kt ws,v => ∃ a vs,v = .ref a /\ SqT g.K H a vs /\ RVs g μ H ws vs
 | .fl ws,v => ∃ a vs,v = .ref a /\ SqF g.K H a vs /\ RVs g μ H ws vs
 | .tl ws,v => ∃ a vs,v = .ref a /\ H a = some (.lst vs) /\ a ∉ μ /\ RVs g μ H ws vs
def RVs (g : Gx) (μ : List Addr) (H : Hp) : List D -> List V -> Prop
 | [],vs => vs = []
 | w :: ws,vs => ∃ v r,vs = v :: r /\ w.isTl = false /\ RV g μ H w v /\ RVs g μ H ws r
end
/-- pairs by key -/
def RKs {κ : Type} (g : Gx) (μ : List Addr) (H : Hp) : List (κ × D) -> List (κ × V) -> Prop
 | [],vs => vs = []
 | w :: ws,vs => ∃ v r,vs = (w.1,v) :: r /\ w.2.isTl = false /\ RV g μ H w.2 v /\ RKs g μ H ws r
def RC (g : Gx) (μ : List Addr) (H : Hp) (a : Addr) : Cl -> Prop
 | .lst ws => ∃ vs,H a = some (.lst vs) /\ RVs g μ H ws vs
 | .dK kvs => ∃ vs,H a = some (.dK vs) /\ RKs g μ H kvs vs
 | .dT kvs => ∃ vs,H a = some (.dT vs) /\ RKs g μ H kvs vs
 | .ins c fs => ∃ C dx vs,g.ca c = some C /\ H a = some (.ins C dx vs) /\ RKs g μ H fs vs
structure RH (g : Gx) (μ : List Addr) (h : Hh) (H : Hp) : Prop where
 len : μ.length = h.length
 nd : μ.Nodup
 cell : ∀ (i : Nat) (c : Cl),h[i]? = some c -> ∃ a,μ[i]? = some a /\ RC g μ H a c
 tabs : LamX.Tabs g.tb H
def fC : HO -> Bool
 | .lst _ => true
 | .dK _ => true
 | .dT _ => true
 | .ins _ _ _ => true
 | _ => false
def tL : HO -> Bool
 | .tbl _ => true
 | _ => false
theorem vO {o : HO} (h : fC o = true) : tL o = false := by cases o <;> first | rfl | cases h
theorem aCX {o : HO} (h : tL o = true) : ∃ ps,o = .tbl ps := by cases o <;> first | exact ⟨_,rfl⟩ | cases h
/-- what is tracked is of the kinds that may be written -/
def Trk (μ : List Addr) (H : Hp) : Prop := ∀ a ∈ μ,∃ o,H a = some o /\ fC o = true
structure Ext (μ : List Addr) (H : Hp) (μ' : List Addr) (H' : Hp) : Prop where
 pre : ∃ e,μ' = μ ++ e /\ ∀ x ∈ e,H x = none
 fr' : ∀ b o,H b = some o -> b ∉ μ -> tL o = false -> H' b = some o
 lv : ∀ x ∈ μ,H' x ≠ none
 tb : ∀ b ps,H b = some (.tbl ps) -> ∃ ps',H' b = some (.tbl ps')
theorem Ext.fr {μ μ' : List Addr} {H H' : Hp} (x : Ext μ H μ' H') (b : Addr) (o : HO) (q : H b = some o) (n : b ∉ μ) (t : tL o = false := by rfl) : H' b = some o := x.fr' b o q n t
/-- nothing goes away -/
theorem Ext.kp {μ μ' : List Addr} {H H' : Hp} (x : Ext μ H μ' H') {b : Addr} {o : HO} (q : H b = some o) : H' b ≠ none := by
 by_cases hm : b ∈ μ
 ·exact x.lv b hm
 ·by_cases ht : tL o = true
  ·obtain ⟨ps,rfl⟩ := aCX ht
   obtain ⟨ps',e⟩ := x.tb b ps q
   rw [e]; simp
  ·rw [x.fr' b o q hm (by simpa using ht)]; simp
section
variable {g : Gx} {μ μ' μ1 μ2 : List Addr} {h h' : Hh} {H H' H1 H2 : Hp}
theorem RC.mut {a : Addr} {c : Cl} (r : RC g μ H a c) : ∃ o,H a = some o /\ fC o = true := by
 cases c with
 | lst ws => obtain ⟨vs,e,_⟩ := r; exact ⟨_,e,rfl⟩
 | dK ws => obtain ⟨vs,e,_⟩ := r; exact ⟨_,e,rfl⟩
 | dT ws => obtain ⟨vs,e,_⟩ := r; exact ⟨_,e,rfl⟩
 | ins c fs => obtain ⟨C,dx,vs,_,e,_⟩ := r; exact ⟨_,e,rfl⟩
theorem RH.trk (r : RH g μ h H) : Trk μ H := fun a ha => by
 obtain ⟨i,hi,e⟩ := List.getElem_of_mem ha
 have hl : i < h.length := by rw [<- r.len]; exact hi
 obtain ⟨b,eb,rc⟩ := r.cell i h[i] (List.getElem?_eq_getElem hl)
 rw [List.getElem?_eq_getElem hi,e] at eb
 cases eb
 exact rc.mut
theorem Ext.refl (t : Trk μ H) : Ext μ H μ H := ⟨⟨[],by simp,by simp⟩,fun _ _ h _ _ => h,fun x hx => by obtain ⟨o,e,_⟩ := t x hx; rw [e]; simp,fun b ps e => ⟨ps,e⟩⟩
theorem Ext.trans (a : Ext μ H μ1 H1) (b : Ext μ1 H1 μ2 H2) : Ext μ H μ2 H2 := by
 have kp := fun {b : Addr} {o : HO} (q : H b = some o) => a.kp q
 obtain ⟨⟨e1,rfl,f1⟩,r1,l1,t1⟩ := a
 obtain ⟨⟨e2,rfl,f2⟩,r2,l2,t2⟩ := b
 refine ⟨⟨e1 ++ e2,by simp,fun x hx => ?_⟩,fun b o q n nt => r2 b o (r1 b o q n nt) ?_ nt,fun x hx => l2 x (List.mem_append_left _ hx),fun b ps e => let ⟨ps1,e1⟩ := t1 b ps e; t2 b ps1 e1⟩
 ·rcases List.mem_append.mp hx with hx | hx
  ·exact f1 x hx
  ·cases q : H x with
   | none => rfl
   | some o => exact absurd (f2 x hx) (kp q)
 ·intro hm
  rcases List.mem_append.mp hm with hm | hm
  ·exact n hm
  ·rw [f1 b hm] at q; cases q
theorem Ext.get (x : Ext μ H μ' H') {i : Nat} {a : Addr} (e : μ[i]? = some a) : μ'[i]? = some a := by
 obtain ⟨⟨e1,rfl,_⟩,_,_,_⟩ := x
 rw [List.getElem?_append_left (by
  rcases Nat.lt_or_ge i μ.length with z | z
  ·exact z
  ·rw [List.getElem?_eq_none z] at e; cases e)]
 exact e
theorem Ext.notin (x : Ext μ H μ' H') {a : Addr} {o : HO} (q : H a = some o) (n : a ∉ μ) : a ∉ μ' := by
 obtain ⟨⟨e1,rfl,f1⟩,_,_,_⟩ := x
 intro hm
 rcases List.mem_append.mp hm with hm | hm
 ·exact n hm
 ·rw [f1 a hm] at q; cases q
theorem aIp {a : Addr} {vs : List V} (t : Trk μ H) (x : Ext μ H μ' H') (q : SqT g.K H a vs) : SqT g.K H' a vs := by
 rcases q with (q | ⟨o,q⟩) | q
 ·refine .inl (.inl (x.fr _ _ q fun hm => ?_))
  obtain ⟨o,e,k⟩ := t a hm
  rw [q] at e; cases e; cases k
 ·refine .inl (.inr ⟨o,x.fr _ _ q fun hm => ?_⟩)
  obtain ⟨o',e,k⟩ := t a hm
  rw [q] at e; cases e; cases k
 ·exact .inr q
theorem aIn {a : Addr} {vs : List V} (t : Trk μ H) (x : Ext μ H μ' H') (q : SqF g.K H a vs) : SqF g.K H' a vs := by
 rcases q with ⟨o,q⟩ | q
 ·refine .inl ⟨o,x.fr _ _ q fun hm => ?_⟩
  obtain ⟨o',e,k⟩ := t a hm
  rw [q] at e; cases e; cases k
 ·exact .inr q
end
mutual
theorem RV.ext {g : Gx} {μ μ' : List Addr} {H H' : Hp} (t : Trk μ H) (x : Ext μ H μ' H') : ∀ {w : D} {v : V},RV g μ H w v -> RV g μ' H' w v
 | .non,_,r => r
 | .bl _,_,r => r
 | .int _,_,r => r
 | .str _,_,r => r
 | .ty _,_,r => r
 | .fn _,_,r => r
 | .cls _,_,r => r
 | .ref i,_,r => by
  obtain ⟨a,e,q⟩ := r
  exact ⟨a,x.get e,q⟩
 | .xc c ks ws,_,r => by
  obtain ⟨a,C,d,vs,e,hC,q,hl,hd,z⟩ := r
  refine ⟨a,C,d,vs,e,hC,x.fr _ _ q fun hm => ?_,hl, ?_,RVs.ext t x z⟩
  ·obtain ⟨o,eo,k⟩ := t a hm
   rw [q] at eo; cases eo; cases k
  ·rcases hd with hd | ⟨dx,e1,e2⟩
   ·exact .inl hd
   ·refine .inr ⟨dx,e1,x.fr _ _ e2 fun hm => ?_⟩
    obtain ⟨o,eo,k⟩ := t dx hm
    rw [e2] at eo; cases eo; cases k
 | .tup ws,_,r => by
  obtain ⟨a,vs,e,q,z⟩ := r
  refine ⟨a,vs,e,x.fr _ _ q fun hm => ?_,RVs.ext t x z⟩
  obtain ⟨o,eo,k⟩ := t a hm
  rw [q] at eo; cases eo; cases k
 | .kt ws,_,r => by
  obtain ⟨a,vs,e,q,z⟩ := r
  exact ⟨a,vs,e,aIp t x q,RVs.ext t x z⟩
 | .fl ws,_,r => by
  obtain ⟨a,vs,e,q,z⟩ := r
  exact ⟨a,vs,e,aIn t x q,RVs.ext t x z⟩
 | .tl ws,_,r => by
  obtain ⟨a,vs,e,q,n,z⟩ := r
  exact ⟨a,vs,e,x.fr _ _ q n,x.notin q n,RVs.ext t x z⟩
theorem RVs.ext {g : Gx} {μ μ' : List Addr} {H H' : Hp} (t : Trk μ H) (x : Ext μ H μ' H') : ∀ {ws : List D} {vs : List V},RVs g μ H ws vs -> RVs g μ' H' ws vs
 | [],_,r => r
 | w :: ws,_,r => by
  obtain ⟨v,rr,e,nt,q,z⟩ := r
  exact ⟨v,rr,e,nt,RV.ext t x q,RVs.ext t x z⟩
end
theorem yK {l e : List Addr} {i : Nat} {a : Addr} (h : l[i]? = some a) : (l ++ e)[i]? = some a := by
 rw [List.getElem?_append_left (by
  rcases Nat.lt_or_ge i l.length with z | z
  ·exact z
  ·rw [List.getElem?_eq_none z] at h; cases h)]
 exact h
mutual
theorem RV.pre {g : Gx} {μ e : List Addr} {H : Hp} : ∀ {w : D} {v : V},w.isTl = false -> RV g μ H w v -> RV g (μ ++ e) H w v
 | .non,_,_,r => r
 | .bl _,_,_,r => r
 | .int _,_,_,r => r
 | .str _,_,_,r => r
 | .ty _,_,_,r => r
 | .fn _,_,_,r => r
 | .cls _,_,_,r => r
 | .ref i,_,_,r => by
  obtain ⟨a,e,q⟩ := r
  exact ⟨a,yK e,q⟩
 | .xc c ks ws,_,_,r => by
  obtain ⟨a,C,d,vs,e,hC,q,hl,hd,z⟩ := r
  exact ⟨a,C,d,vs,e,hC,q,hl,hd,RVs.pre z⟩
 | .tup ws,_,_,r => by
  obtain ⟨a,vs,e,q,z⟩ := r
  exact ⟨a,vs,e,q,RVs.pre z⟩
 | .fl ws,_,_,r => by
  obtain ⟨a,vs,e,q,z⟩ := r
  exact ⟨a,vs,e,q,RVs.pre z⟩
 | .kt ws,_,_,r => by
  obtain ⟨a,vs,e,q,z⟩ := r
  exact ⟨a,vs,e,q,RVs.pre z⟩
 | .tl ws,_,n,_ => by cases n
theorem RVs.pre {g : Gx} {μ e : List Addr} {H : Hp} : ∀ {ws : List D} {vs : List V},RVs g μ H ws vs -> RVs g (μ ++ e) H ws vs
 | [],_,r => r
 | w :: ws,_,r => by
  obtain ⟨v,rr,e,nt,q,z⟩ := r
  exact ⟨v,rr,e,nt,RV.pre nt q,RVs.pre z⟩
end
theorem RKs.pre {κ : Type} {g : Gx} {μ e : List Addr} {H : Hp} : ∀ {ws : List (κ × D)} {vs : List (κ × V)},RKs g μ H ws vs -> RKs g (μ ++ e) H ws vs
 | [],_,r => r
 | w :: ws,_,r => by
  obtain ⟨v,rr,e,nt,q,z⟩ := r
  exact ⟨v,rr,e,nt,q.pre nt,RKs.pre z⟩
theorem RC.pre {g : Gx} {μ e : List Addr} {H : Hp} {a : Addr} {c : Cl} (r : RC g μ H a c) : RC g (μ ++ e) H a c := by
 cases c with
 | lst ws => obtain ⟨vs,q,z⟩ := r; exact ⟨vs,q,z.pre⟩
 | dK ws => obtain ⟨vs,q,z⟩ := r; exact ⟨vs,q,z.pre⟩
 | dT ws => obtain ⟨vs,q,z⟩ := r; exact ⟨vs,q,z.pre⟩
 | ins c fs => obtain ⟨C,dx,vs,k,q,z⟩ := r; exact ⟨C,dx,vs,k,q,z.pre⟩
section
variable {g : Gx} {μ μ' : List Addr} {h : Hh} {H H' : Hp} {p a : Addr} {o : HO} {ws : List D} {vs : List V} {w : D} {v : V}
theorem RKs.ext {κ : Type} (t : Trk μ H) (x : Ext μ H μ' H') : ∀ {ws : List (κ × D)} {vs : List (κ × V)},RKs g μ H ws vs -> RKs g μ' H' ws vs
 | [],_,r => r
 | w :: ws,_,r => by
  obtain ⟨v,rr,e,nt,q,z⟩ := r
  exact ⟨v,rr,e,nt,q.ext t x,RKs.ext t x z⟩
theorem RC.ext {c : Cl} (t : Trk μ H) (x : Ext μ H μ' H') (e : H' a = H a) (r : RC g μ H a c) : RC g μ' H' a c := by
 cases c with
 | lst ws => obtain ⟨vs,q,z⟩ := r; exact ⟨vs,e.trans q,z.ext t x⟩
 | dK ws => obtain ⟨vs,q,z⟩ := r; exact ⟨vs,e.trans q,z.ext t x⟩
 | dT ws => obtain ⟨vs,q,z⟩ := r; exact ⟨vs,e.trans q,z.ext t x⟩
 | ins c fs => obtain ⟨C,dx,vs,k,q,z⟩ := r; exact ⟨C,dx,vs,k,e.trans q,z.ext t x⟩
theorem Trk.ne (t : Trk μ H) (n : H p = none) (ha : a ∈ μ) : a ≠ p := fun e => by
 obtain ⟨o,q,_⟩ := t a ha
 rw [e,n] at q; cases q
/-- something new that is not tracked -/
theorem Ext.new (t : Trk μ H) (n : H p = none) : Ext μ H μ (upd H p o) :=
 ⟨⟨[],by simp,by simp⟩,fun b u q _ _ => by rw [upd_ne (ne_of_none q n)]; exact q,fun x hx => by
  rw [upd_ne (t.ne n hx)]
  obtain ⟨o,q,_⟩ := t x hx
  rw [q]; simp,fun b ps q => ⟨ps,by rw [upd_ne (ne_of_none q n)]; exact q⟩⟩
theorem gT {α : Type} {l : List α} {i : Nat} {a : α} (e : l[i]? = some a) : a ∈ l := List.mem_of_getElem? e
theorem RH.new (r : RH g μ h H) (n : H p = none) : RH g μ h (upd H p o) :=
 ⟨r.len,r.nd,fun i c e => by
  obtain ⟨a,ea,rc⟩ := r.cell i c e
  exact ⟨a,ea,rc.ext r.trk (.new r.trk n) (upd_ne (r.trk.ne n (gT ea)))⟩,r.tabs.ext fun b u q => by rw [upd_ne (ne_of_none q n)]; exact q⟩
theorem RV.newT (r : RH g μ h H) (n : H p = none) (q : RVs g μ H ws vs) : RV g μ (upd H p (.tup vs)) (.tup ws) (.ref p) :=
 ⟨p,vs,rfl,upd_same,q.ext r.trk (.new r.trk n)⟩
theorem RV.newL (r : RH g μ h H) (n : H p = none) (q : RVs g μ H ws vs) : RV g μ (upd H p (.lst vs)) (.tl ws) (.ref p) :=
 ⟨p,vs,rfl,upd_same,fun hm => r.trk.ne n hm rfl,q.ext r.trk (.new r.trk n)⟩
/-- a cell is written -/
theorem Ext.wr {i : Nat} (t : Trk μ H) (e : μ[i]? = some a) (m : fC o = true) : Ext μ H μ (upd H a o) :=
 ⟨⟨[],by simp,by simp⟩,fun b u q nb _ => by
  rw [upd_ne (fun z => nb (by rw [z]; exact gT e))]; exact q,fun x hx => by
  by_cases hx' : x = a
  ·subst hx'; rw [upd_same]; simp
  ·rw [upd_ne hx']
   obtain ⟨o,q,_⟩ := t x hx
   rw [q]; simp,fun b ps q => ⟨ps,by
   obtain ⟨o',q',m'⟩ := t a (gT e)
   rw [upd_ne (fun z => by rw [z,q'] at q; cases q; cases m')]; exact q⟩⟩
/-- tables stay as a tracked cell is written -/
theorem aDb {T : List (Addr × Str)} {H : Hp} {a : Addr} {o' : HO} (m : ∃ u,H a = some u /\ fC u = true) (t : LamX.Tabs T H) : LamX.Tabs T (upd H a o') := fun p hp => by
 obtain ⟨u,q,k⟩ := m
 obtain ⟨ps,h1,h2,h3⟩ := t p hp
 refine ⟨ps,by rw [upd_ne (fun z => by rw [z,q] at h1; cases h1; cases k)]; exact h1,h2,fun pos cv hc => ?_⟩
 obtain ⟨c,e1,e2⟩ := h3 pos cv hc
 exact ⟨c,e1,by rw [upd_ne (fun z => by rw [z,q] at e2; cases e2; cases k)]; exact e2⟩
theorem aHF {l : List Addr} (nd : l.Nodup) {i j : Nat} {a : Addr} (hi : l[i]? = some a) (hj : l[j]? = some a) : i = j := by
 have h1 : i < l.length := by
  rcases Nat.lt_or_ge i l.length with z | z
  ·exact z
  ·rw [List.getElem?_eq_none z] at hi; cases hi
 exact (List.getElem?_inj h1 nd).mp (hi.trans hj.symm)
theorem RH.wr {i : Nat} {c : Cl} (r : RH g μ h H) (e : μ[i]? = some a) (m : fC o = true) (k : RC g μ (upd H a o) a c) : RH g μ (h.set i c) (upd H a o) := by
 refine ⟨by rw [List.length_set]; exact r.len,r.nd,fun j d ej => ?_,aDb (r.trk a (gT e)) r.tabs⟩
 by_cases hj : i = j
 ·subst hj
  by_cases hl : i < h.length
  ·rw [List.getElem?_set_self hl] at ej
   cases ej
   exact ⟨a,e,k⟩
  ·rw [List.getElem?_eq_none (by simpa using hl)] at ej; cases ej
 ·rw [List.getElem?_set_ne hj] at ej
  obtain ⟨b,eb,rc⟩ := r.cell j d ej
  refine ⟨b,eb,rc.ext r.trk (.wr r.trk e m) (upd_ne fun z => hj ?_)⟩
  subst z
  exact aHF r.nd e eb
/-- one more cell -/
theorem RH.track {c : Cl} (r : RH g μ h H) (na : a ∉ μ) (k : RC g μ H a c) : RH g (μ ++ [a]) (h ++ [c]) H := by
 refine ⟨by simp [r.len], ?_,fun i d ei => ?_,r.tabs⟩
 ·rw [List.nodup_append]
  exact ⟨r.nd,by simp,fun x hx y hy z => by
   have : y = a := by simpa using hy
   subst this; subst z; exact na hx⟩
 ·rcases Nat.lt_or_ge i h.length with hl | hl
  ·rw [List.getElem?_append_left hl] at ei
   obtain ⟨b,eb,rc⟩ := r.cell i d ei
   exact ⟨b,yK eb,rc.pre⟩
  ·rw [List.getElem?_append_right hl] at ei
   have hi : i = h.length := by
    rcases Nat.lt_or_ge (i - h.length) 1 with z | z
    ·omega
    ·rw [List.getElem?_eq_none (by simpa using z)] at ei; cases ei
   subst hi
   simp at ei
   subst ei
   exact ⟨a,by rw [<- r.len]; simp,k.pre⟩
/-- a value whose list is young -/
def Fr (H : Hp) (w : D) (v : V) : Prop := match w with
 | .tl _ => ∀ a,v = .ref a -> H a = none
 | _ => True
theorem Fr.of (e : w.isTl = false) : Fr H w v := by
 cases w <;> first | exact True.intro | cases e
theorem Fr.back (x : Ext μ H μ' H') (f : Fr H' w v) : Fr H w v := by
 cases w <;> first | exact True.intro | skip
 rename_i ws
 intro a e
 have z := f a e
 cases q : H a with
 | none => rfl
 | some o =>
  exact absurd z (x.kp q)
/-- from now on it is kept -/
def aU (w : D) (h : Hh) : D × Hh := match w with
 | .tl ws => (.ref h.length,h ++ [.lst ws])
 | w => (w,h)
theorem oC (e : w.isTl = false) : aU w h = (w,h) := by
 cases w <;> first | rfl | cases e
theorem gX : (aU w h).1.isTl = false := by cases w <;> rfl
theorem lP {μ0 : List Addr} {H0 : Hp} (r : RH g μ h H) (q : RV g μ H w v) (f : Fr H0 w v) (x : Ext μ0 H0 μ H) : ∃ μ',Ext μ0 H0 μ' H /\ RH g μ' (aU w h).2 H /\ RV g μ' H (aU w h).1 v /\ ∃ e,μ' = μ ++ e := by
 by_cases e : w.isTl = false
 ·rw [oC e]; exact ⟨μ,x,r,q,[],by simp⟩
 ·cases w <;> first | exact absurd rfl e | skip
  rename_i ws
  obtain ⟨a,vs,rfl,ha,na,z⟩ := q
  have f' : H0 a = none := f a rfl
  -- an extension that keeps the heap as it is
  have x0 : Ext μ0 H0 (μ ++ [a]) H := by
   obtain ⟨⟨e0,rfl,fe⟩,fr,lv,tb⟩ := x
   refine ⟨⟨e0 ++ [a],by simp,fun y hy => ?_⟩,fr,lv,tb⟩
   rcases List.mem_append.mp hy with hy | hy
   ·exact fe y hy
   ·have : y = a := by simpa using hy
    subst this; exact f'
  refine ⟨μ ++ [a],x0,RH.track r na ⟨vs,ha,z⟩,⟨a, ?_,rfl⟩,[a],rfl⟩
  show (μ ++ [a])[h.length]? = some a
  rw [<- r.len]
  simp
end
end PV
end
section
namespace PV
open PySem PySem.Spec PyProof.Rows L2
inductive R (α : Type) where
 | ok (a : α) (h : Hh)
 | exc (c : Nat) (fs : List (Str × D)) (h : Hh)
 | bad
 deriving Inhabited
def R.bind {α β : Type} (r : R α) (f : α -> Hh -> R β) : R β := match r with
 | .ok a h => f a h
 | .exc c fs h => .exc c fs h
 | .bad => .bad
@[simp] theorem R.bind_ok {α β : Type} (a : α) (h : Hh) (f : α -> Hh -> R β) : (R.ok a h).bind f = f a h := id rfl
@[simp] theorem R.bind_exc {α β : Type} (c : Nat) (fs : List (Str × D)) (h : Hh) (f : α -> Hh -> R β) : (R.exc c fs h : R α).bind f = .exc c fs h := id rfl
@[simp] theorem R.bind_bad {α β : Type} (f : α -> Hh -> R β) : (R.bad : R α).bind f = .bad := id rfl
abbrev M (α : Type) := Sg -> Hh -> R α
/-- an exception of the own class c,its attributes fs -/
def XV (g : Gx) (μ : List Addr) (H : Hp) (c : Nat) (fs : List (Str × D)) (cv : Value) (d : Option Addr) : Prop :=
 ∃ C vs,g.ca c = some C /\ cv = .ref C /\ ((fs = [] /\ d = none) \/ ∃ dx,d = some dx /\ H dx = some (.xd vs)) /\ RKs g μ H fs vs
/-- what is wanted of a result -/
def Po {α : Type} (g : Gx) (Wx : WX) (σ : L2.St) (μ : List Addr) (H : Hp) (r : R α) (Q : α -> Hh -> List Addr -> Hp -> Prop) : Prop := match r with
 | .ok a h' => ∀ μ' H',Ext μ H μ' H' -> RH g μ' h' H' -> Q a h' μ' H'
 | .exc c fs h' => ∀ μ' H' cv d,Ext μ H μ' H' -> RH g μ' h' H' -> XV g μ' H' c fs cv d -> Wx cv d σ H'
 | .bad => False
section
variable {α β : Type} {g : Gx} {Wx : WX} {σ : L2.St} {μ μ' : List Addr} {H H' : Hp} {r : R α} {f : α -> Hh -> R β}
theorem Po.ext {Q : α -> Hh -> List Addr -> Hp -> Prop} (p : Po g Wx σ μ H r Q) (x : Ext μ H μ' H') : Po g Wx σ μ' H' r Q := by
 cases r with
 | ok a h' => exact fun μ2 H2 x2 r2 => p μ2 H2 (x.trans x2) r2
 | exc c fs h' => exact fun μ2 H2 cv d x2 r2 v2 => p μ2 H2 cv d (x.trans x2) r2 v2
 | bad => exact p
theorem Po.bind {Q : β -> Hh -> List Addr -> Hp -> Prop} (p : Po g Wx σ μ H (r.bind f) Q) : Po g Wx σ μ H r fun a h1 μ1 H1 => Po g Wx σ μ1 H1 (f a h1) Q := by
 cases r with
 | ok a h' => exact fun μ2 H2 x2 r2 => Po.ext (r := f a h') p x2
 | exc c fs h' => exact p
 | bad => exact p
theorem Po.bind2 {Q : β -> Hh -> List Addr -> Hp -> Prop} (p : Po g Wx σ μ H (r.bind f) Q) : Po g Wx σ μ H r fun a h1 μ1 H1 => ∀ μ2 H2,Ext μ H μ2 H2 -> Po g Wx σ μ2 H2 (f a h1) Q := by
 cases r with
 | ok a h' => exact fun _ _ _ _ μ2 H2 x2 => Po.ext (r := f a h') p x2
 | exc c fs h' => exact p
 | bad => exact p
theorem Po.imp {Q Q' : α -> Hh -> List Addr -> Hp -> Prop} (p : Po g Wx σ μ H r Q) (i : ∀ a h1 μ1 H1,Ext μ H μ1 H1 -> RH g μ1 h1 H1 -> Q a h1 μ1 H1 -> Q' a h1 μ1 H1) : Po g Wx σ μ H r Q' := by
 cases r with
 | ok a h' => exact fun μ2 H2 x2 r2 => i _ _ _ _ x2 r2 (p μ2 H2 x2 r2)
 | exc c fs h' => exact p
 | bad => exact p
theorem Po.at {a : α} {h : Hh} {Q : α -> Hh -> List Addr -> Hp -> Prop} (p : Po g Wx σ μ H (.ok a h) Q) (rh : RH g μ h H) : Q a h μ H := p μ H (Ext.refl rh.trk) rh
end
/-- the slots -/
def RS (g : Gx) (μ : List Addr) (H : Hp) (σw : Sg) (σ : L2.St) : Prop := σw.length = σ.length /\ ∀ (i : Nat) (w : D),σw[i]? = some (some w) -> ∃ v,σ[i]? = some (some v) /\ w.isTl = false /\ RV g μ H w v
theorem RS.ext {g : Gx} {μ μ' : List Addr} {H H' : Hp} {σw : Sg} {σ : L2.St} (t : Trk μ H) (x : Ext μ H μ' H') (r : RS g μ H σw σ) : RS g μ' H' σw σ :=
 ⟨r.1,fun i w e => let ⟨v,q,nt,z⟩ := r.2 i w e; ⟨v,q,nt,z.ext t x⟩⟩
theorem RS.pre {g : Gx} {μ e : List Addr} {H : Hp} {σw : Sg} {σ : L2.St} (r : RS g μ H σw σ) : RS g (μ ++ e) H σw σ :=
 ⟨r.1,fun i w e => let ⟨v,q,nt,z⟩ := r.2 i w e; ⟨v,q,nt,z.pre nt⟩⟩
theorem RS.set {g : Gx} {μ : List Addr} {H : Hp} {σw : Sg} {σ : L2.St} (r : RS g μ H σw σ) {w : D} {v : V} (nt : w.isTl = false) (q : RV g μ H w v) (i : Nat) : RS g μ H (σw.set i (some w)) (σ.set i (some v)) := by
 refine ⟨by simp [r.1],fun j w' e => ?_⟩
 by_cases hj : i = j
 ·subst hj
  by_cases hl : i < σw.length
  ·rw [List.getElem?_set_self hl] at e
   cases e
   exact ⟨v,List.getElem?_set_self (by rw [<- r.1]; exact hl),nt,q⟩
  ·rw [List.getElem?_eq_none (by simpa using hl)] at e; cases e
 ·rw [List.getElem?_set_ne hj] at e ⊢
  exact r.2 j w' e
/-- the weakest readings -/
def tOf (X : Cx) (e : Expr) : TE := fun σ H Q => ∀ pins s,Inv X pins σ H s -> wpAny (model X.prog X.w) X.A (eval e X.env) (EP X pins σ Q) X.xe s
theorem bC {X : Cx} {e : Expr} : PE X e (tOf X e) := ⟨fun pins s σ H Q I h => h pins s I⟩
theorem dX {X : Cx} {e : Expr} {t : TE} (p : PE X e t) {σ : L2.St} {H : Hp} {Q : VK} (h : t σ H Q) : tOf X e σ H Q := fun pins s I => p.run pins s σ H Q I h
def aEh (X : Cx) (e : Expr) : TT := fun σ H Q => ∀ pins s,Inv X pins σ H s -> wpAny (model X.prog X.w) X.A (isTrue e X.env (eval e X.env)) (TP X pins σ Q) X.xe s
theorem rW {X : Cx} {e : Expr} : PT X e (aEh X e) := ⟨fun pins s σ H Q I h => h pins s I⟩
theorem aDS {X : Cx} {e : Expr} {t : TT} (p : PT X e t) {σ : L2.St} {H : Hp} {Q : Bool -> Hp -> Prop} (h : t σ H Q) : aEh X e σ H Q := fun pins s I => p.run pins s σ H Q I h
/-- a test whatever its whole is -/
def aGR (X : Cx) (e : Expr) : TT := fun σ H Q => ∀ whole pins s,Inv X pins σ H s -> wpAny (model X.prog X.w) X.A (isTrue e X.env whole) (TP X pins σ Q) X.xe s
theorem aHh {X : Cx} {e : Expr} : PW X e (aGR X e) := ⟨fun whole pins s σ H Q I h => h whole pins s I⟩
theorem aDU {X : Cx} {e : Expr} {t : TT} (p : PW X e t) {σ : L2.St} {H : Hp} {Q : Bool -> Hp -> Prop} (h : t σ H Q) : aGR X e σ H Q := fun whole pins s I => p.run whole pins s σ H Q I h
def aEd (X : Cx) (es : List Expr) : TA := fun σ H Q => ∀ pos pins s,Inv X pins σ H s -> wpAny (model X.prog X.w) X.A (spliced (backTo pos (starEach es X.env))) (AP X pins σ Q) X.xe s
theorem aAG {X : Cx} {es : List Expr} : PA X es (aEd X es) := ⟨fun pos pins s σ H Q I h => h pos pins s I⟩
theorem aJk {X : Cx} {es : List Expr} {t : TA} (p : PA X es t) {σ : L2.St} {H : Hp} {Q : List V -> Hp -> Prop} (h : t σ H Q) : aEd X es σ H Q := fun pos pins s I => p.run pos pins s σ H Q I h
def rOf (X : Cx) (f : Value -> Value -> Sem Value) : R2 := fun x y H Q => ∀ pins s σ v u,Inv X pins σ H s -> RelV x v -> RelV y u -> wpAny (model X.prog X.w) X.A (f v u) (EP X pins σ Q) X.xe s
theorem rS {X : Cx} {f : Value -> Value -> Sem Value} : OpR X f (rOf X f) := fun pins s σ H x y v u Q I rx ry h => h pins s σ v u I rx ry
theorem cD {X : Cx} {f : Value -> Value -> Sem Value} {r : R2} (p : OpR X f r) {x y : V} {H : Hp} {Q : VK} (h : r x y H Q) : rOf X f x y H Q := fun pins s σ v u I rx ry => p pins s σ H x y v u Q I rx ry h
section
variable (g : Gx) (X : Cx) (Wx : WX)
/-- an expression does what m does -/
def SE (e : Expr) (m : M D) : Prop := ∀ (σw : Sg) (h : Hh) (σ : L2.St) (H : Hp) (μ : List Addr) (Q : VK),RS g μ H σw σ -> RH g μ h H ->
 Po g Wx σ μ H (m σw h) (fun w h' μ' H' => ∀ v,RV g μ' H' w v -> Fr H w v -> Q v H') -> tOf X e σ H Q
def ST (e : Expr) (m : M Bool) : Prop := ∀ (σw : Sg) (h : Hh) (σ : L2.St) (H : Hp) (μ : List Addr) (Q : Bool -> Hp -> Prop),RS g μ H σw σ -> RH g μ h H ->
 Po g Wx σ μ H (m σw h) (fun b h' μ' H' => Q b H') -> aEh X e σ H Q
def SW (e : Expr) (m : M Bool) : Prop := ∀ (σw : Sg) (h : Hh) (σ : L2.St) (H : Hp) (μ : List Addr) (Q : Bool -> Hp -> Prop),RS g μ H σw σ -> RH g μ h H ->
 Po g Wx σ μ H (m σw h) (fun b h' μ' H' => Q b H') -> aGR X e σ H Q
def SA (es : List Expr) (m : M (List D)) : Prop := ∀ (σw : Sg) (h : Hh) (σ : L2.St) (H : Hp) (μ : List Addr) (Q : List V -> Hp -> Prop),RS g μ H σw σ -> RH g μ h H ->
 Po g Wx σ μ H (m σw h) (fun ws h' μ' H' => ∀ vs,RVs g μ' H' ws vs -> Q vs H') -> aEd X es σ H Q
end
theorem SW.st {g : Gx} {X : Cx} {Wx : WX} {e : Expr} {m : M Bool} (s : SW g X Wx e m) : ST g X Wx e m := fun σw h σ H μ Q rs rh p pins t I => s σw h σ H μ Q rs rh p _ pins t I
section
variable {g : Gx} {X : Cx} {Wx : WX}
def mC (w : D) : M D := fun _ h => .ok w h
def mV (i : Nat) : M D := fun σ h => match σ[i]? with
 | some (some w) => .ok w h
 | _ => .bad
theorem yY {e : Expr} {v : V} {w : D} (p : PE X e (tC v)) (nt : w.isTl = false) (r : ∀ μ H,RV g μ H w v) : SE g X Wx e (mC w) := fun σw h σ H μ Q rs rh po =>
 dX p (show Q v H from po.at rh v (r μ H) (.of nt))
theorem aJ4 {i j pos} : SE g X Wx (.Constant (.int i) j pos) (mC (.int i)) := yY pe_int rfl fun _ _ => rfl
theorem aLy {i j pos} : SE g X Wx (.Constant (.bool i) j pos) (mC (.bl i)) := yY pe_bl rfl fun _ _ => rfl
theorem aJ7 {j pos} : SE g X Wx (.Constant .none j pos) (mC .non) := yY pe_non rfl fun _ _ => rfl
theorem aKa {x j pos} : SE g X Wx (.Constant (.str x) j pos) (mC (.str x)) := yY pe_str rfl fun _ _ => rfl
theorem aFk {i : Nat} {x : Str} {pos : Pos} (hN : X.N[i]? = some x) (hv : Vis X.env.scope x) (hd : (x == ("__debug__" : Str)) = false) (hcd : (x == ("__classdict__" : Str)) = false) : SE g X Wx (.Name x pos) (mV i) := by
 intro σw h σ H μ Q rs rh po
 unfold mV at po
 cases e : σw[i]? with
 | none => rw [e] at po; exact po.elim
 | some o =>
  cases o with
  | none => rw [e] at po; exact po.elim
  | some w =>
   rw [e] at po
   obtain ⟨v,q,nt,r⟩ := rs.2 i w e
   exact dX (pe_var hN hv hd hcd) ⟨v,q,po.at rh v r (.of nt)⟩
end
end PV
end
section
namespace PV
open PySem PySem.Spec PyProof.Rows L2
/-- a list that may be read: just made,tracked,or frozen -/
def asL (h : Hh) : D -> Option (List D)
 | .tl ws => some ws
 | .fl ws => some ws
 | .ref i => match h[i]? with
  | some (.lst ws) => some ws
  | _ => none
 | _ => none
/-- a tuple -/
def asT : D -> Option (List D)
 | .tup ws => some ws
 | .kt ws => some ws
 | _ => none
/-- a list that is tracked by the hand layer's heap -/
def asM (h : Hh) : D -> Option (List D)
 | .tl ws => some ws
 | .ref i => match h[i]? with
  | some (.lst ws) => some ws
  | _ => none
 | _ => none
section
variable {g : Gx} {μ : List Addr} {h : Hh} {H : Hp} {w : D} {v : V} {ws : List D}
theorem tF (r : RH g μ h H) (q : RV g μ H w v) (e : asM h w = some ws) : ∃ a vs,v = .ref a /\ H a = some (.lst vs) /\ RVs g μ H ws vs := by
 unfold asM at e
 split at e
 ·cases e
  obtain ⟨a,vs,e1,e2,_,z⟩ := q
  exact ⟨a,vs,e1,e2,z⟩
 ·rename_i i
  obtain ⟨a,e1,e2⟩ := q
  split at e
  ·rename_i ws' e3
   cases e
   obtain ⟨b,eb,vs,hb,z⟩ := r.cell i _ e3
   rw [e1] at eb; cases eb
   exact ⟨a,vs,e2,hb,z⟩
  ·cases e
 ·cases e
theorem jI (r : RH g μ h H) (q : RV g μ H w v) (e : asL h w = some ws) : ∃ a vs,v = .ref a /\ SqL g.K H a vs /\ RVs g μ H ws vs := by
 unfold asL at e
 split at e
 ·cases e
  obtain ⟨a,vs,e1,e2,_,z⟩ := q
  exact ⟨a,vs,e1, .of e2,z⟩
 ·cases e
  obtain ⟨a,vs,e1,e2,z⟩ := q
  exact ⟨a,vs,e1,e2.sq,z⟩
 ·rename_i i
  obtain ⟨a,vs,e1,e2,z⟩ := tF (ws := ws) r q (by unfold asM; exact e)
  exact ⟨a,vs,e1, .of e2,z⟩
 ·cases e
theorem fG (q : RV g μ H w v) (e : asT w = some ws) : ∃ a vs,v = .ref a /\ SqT g.K H a vs /\ RVs g μ H ws vs := by
 unfold asT at e
 split at e
 ·cases e
  obtain ⟨a,vs,e1,e2,z⟩ := q
  exact ⟨a,vs,e1, .of e2,z⟩
 ·cases e
  exact q
 ·cases e
theorem RVs.length {ws : List D} {vs : List V} : RVs g μ H ws vs -> vs.length = ws.length := by
 induction ws generalizing vs with
 | nil => intro r; rw [show vs = [] from r]; rfl
 | cons w ws ih =>
  intro r
  obtain ⟨v,rr,rfl,_,_,z⟩ := r
  simp [ih z]
theorem RVs.append {ws ws' : List D} {vs vs' : List V} : RVs g μ H ws vs -> RVs g μ H ws' vs' -> RVs g μ H (ws ++ ws') (vs ++ vs') := by
 induction ws generalizing vs with
 | nil => intro r s; rw [show vs = [] from r]; exact s
 | cons w ws ih =>
  intro r s
  obtain ⟨v,rr,rfl,nt,q,z⟩ := r
  exact ⟨v,_,rfl,nt,q,ih z s⟩
theorem RVs.get {ws : List D} {vs : List V} {i : Nat} {w : D} : RVs g μ H ws vs -> ws[i]? = some w -> ∃ v,vs[i]? = some v /\ w.isTl = false /\ RV g μ H w v := by
 induction ws generalizing vs i with
 | nil => intro r e; simp at e
 | cons w' ws ih =>
  intro r e
  obtain ⟨v,rr,rfl,nt,q,z⟩ := r
  cases i with
  | zero => simp at e; subst e; exact ⟨v,by simp,nt,q⟩
  | succ i => simp at e; obtain ⟨v',e',y⟩ := ih z e; exact ⟨v',by simpa using e',y⟩
theorem RVs.take {ws : List D} {vs : List V} (n : Nat) : RVs g μ H ws vs -> RVs g μ H (ws.take n) (vs.take n) := by
 induction ws generalizing vs n with
 | nil => intro r; rw [show vs = [] from r]; simp; rfl
 | cons w' ws ih =>
  intro r
  obtain ⟨v,rr,rfl,nt,q,z⟩ := r
  cases n with
  | zero => exact rfl
  | succ n => exact ⟨v,_,rfl,nt,q,ih n z⟩
theorem RVs.drop {ws : List D} {vs : List V} (n : Nat) : RVs g μ H ws vs -> RVs g μ H (ws.drop n) (vs.drop n) := by
 induction ws generalizing vs n with
 | nil => intro r; rw [show vs = [] from r]; simp; rfl
 | cons w' ws ih =>
  intro r
  cases n with
  | zero => exact r
  | succ n =>
   obtain ⟨v,rr,rfl,nt,q,z⟩ := r
   exact ih n z
theorem RVs.rep {ws : List D} {vs : List V} (r : RVs g μ H ws vs) : ∀ n : Nat,RVs g μ H (List.replicate n ws).flatten (List.replicate n vs).flatten
 | 0 => rfl
 | n + 1 => by
  rw [List.replicate_succ,List.replicate_succ,List.flatten_cons,List.flatten_cons]
  exact r.append (RVs.rep r n)
end
def SO (g : Gx) (X : Cx) (Wx : WX) (f : Value -> Value -> Sem Value) (m : D -> D -> Hh -> R D) : Prop := ∀ (x y : D) (h : Hh) (σ : L2.St) (H : Hp) (μ : List Addr) (vx vy : V) (Q : VK),
 RH g μ h H -> RV g μ H x vx -> RV g μ H y vy -> Po g Wx σ μ H (m x y h) (fun w h' μ' H' => ∀ v,RV g μ' H' w v -> Fr H w v -> Q v H') -> rOf X f vx vy H Q
def mOp (f : D -> D -> Hh -> R D) (a b : M D) : M D := fun σ h => (a σ h).bind fun x h1 => (b σ h1).bind fun y h2 => f x y h2
section
variable {g : Gx} {X : Cx} {Wx : WX} {a b : Expr} {ma mb : M D} {f : D -> D -> Hh -> R D} {pos : Pos}
theorem aB0 {fv : Value -> Value -> Sem Value} (so : SO g X Wx fv f) (ha : SE g X Wx a ma) (hb : SE g X Wx b mb) {σw : Sg} {h : Hh} {σ : L2.St} {H : Hp} {μ : List Addr} {Q : VK} (rs : RS g μ H σw σ) (rh : RH g μ h H)
  (po : Po g Wx σ μ H (mOp f ma mb σw h) (fun w h' μ' H' => ∀ v,RV g μ' H' w v -> Fr H w v -> Q v H')) : tOp (rOf X fv) (tOf X a) (tOf X b) σ H Q := by
 refine ha σw h σ H μ _ rs rh (po.bind.imp fun x h1 μ1 H1 x1 r1 p1 vx qx fx => ?_)
 refine hb σw h1 σ H1 μ1 _ (rs.ext rh.trk x1) r1 (p1.bind.imp fun y h2 μ2 H2 x2 r2 p2 vy qy fy => ?_)
 exact so x y h2 σ H2 μ2 vx vy Q r2 (qx.ext r1.trk x2) qy (p2.imp fun w h3 μ3 H3 x3 r3 q3 v qv fv => q3 v qv (fv.back (x1.trans x2)))
theorem aJZ {op : Operator} (so : SO g X Wx (binaryOp op) f) (ha : SE g X Wx a ma) (hb : SE g X Wx b mb) : SE g X Wx (.BinOp a op b pos) (mOp f ma mb) := fun σw h σ H μ Q rs rh po =>
 dX (pe_op rS bC bC) (aB0 so ha hb rs rh po)
theorem aJ0 {op : CmpOp} (so : SO g X Wx (compareOp op) f) (ha : SE g X Wx a ma) (hb : SE g X Wx b mb) (hm : behindInMarks op b = false) : SE g X Wx (.Compare a [op] [b] pos) (mOp f ma mb) := fun σw h σ H μ Q rs rh po =>
 dX (pe_cmpR rS bC bC hm) (aB0 so ha hb rs rh po)
/-- a value that must be a bool -/
def mB (m : M D) : M Bool := fun σ h => (m σ h).bind fun x h1 => match x with
 | .bl b => .ok b h1
 | _ => .bad
theorem zH {σ : L2.St} {H : Hp} {μ : List Addr} {Q : Bool -> Hp -> Prop} {m : M D} {σw : Sg} {h : Hh} (po : Po g Wx σ μ H (mB m σw h) (fun b h' μ' H' => Q b H')) :
  Po g Wx σ μ H (m σw h) (fun w h' μ' H' => ∀ v,RV g μ' H' w v -> Fr H w v -> ∃ k,v = .bl k /\ Q k H') := by
 refine po.bind.imp fun w h1 μ1 H1 x1 r1 p1 v qv fv => ?_
 cases w <;> first | exact p1.elim | skip
 rename_i b
 exact ⟨b,qv,p1.at r1⟩
theorem aKr {op : CmpOp} (so : SO g X Wx (compareOp op) f) (ha : SE g X Wx a ma) (hb : SE g X Wx b mb) (hm : behindInMarks op b = false) : ST g X Wx (.Compare a [op] [b] pos) (mB (mOp f ma mb)) := fun σw h σ H μ Q rs rh po =>
 aDS (pt_cmpR rS bC bC hm) (aB0 (Q := fun v H' => ∃ k,v = .bl k /\ Q k H') so ha hb rs rh (zH po))
end
def bP (x y : D) (h : Hh) : R D := match x,y with
 | .int i, .int j => .ok (.int (i + j)) h
 | .str i, .str j => if i.length + j.length <= sizeLine then .ok (.str (i ++ j)) h else .bad
 | x,y => match asT x,asT y with
  | some i,some j => if i.length + j.length <= sizeLine then .ok (if i = [] then y else if j = [] then x else .tup (i ++ j)) h else .bad
  | _,_ => match asM h x,asM h y with
   | some i,some j => if i.length + j.length <= sizeLine then .ok (.tl (i ++ j)) h else .bad
   | _,_ => .bad
def kD (x y : D) (h : Hh) : R D := match x,y with
 | .int i, .int j => .ok (.int (i - j)) h
 | _,_ => .bad
instance (i j : Int) : Decidable (CMul i j) := by unfold CMul; infer_instance
def mN (x y : D) (h : Hh) : R D := match x,y with
 | .int i, .int j => if CMul i j then .ok (.int (i * j)) h else .bad
 | x, .int k => match asM h x with
  | some i => if -(2 ^ 63) <= k /\ k < 2 ^ 63 /\ i.length * k.toNat <= sizeLine then .ok (.tl (List.replicate k.toNat i).flatten) h else .bad
  | none => .bad
 | _,_ => .bad
def uL (x y : D) (h : Hh) : R D := match x,y with
 | .int i, .int j => if 0 < j /\ j < 1073741824 then .ok (.int (i / j)) h else .bad
 | _,_ => .bad
def lJ (x y : D) (h : Hh) : R D := match x,y with
 | .int i, .int j => if 0 < j then .ok (.int (i % j)) h else .bad
 | _,_ => .bad
def rV (x y : D) (h : Hh) : R D := match x,y with
 | .int i, .int j => if 0 <= j /\ (Builtin.Int.intBits i : Int) * j <= 2 ^ 27 then .ok (.int (i ^ j.toNat)) h else .bad
 | _,_ => .bad
section
variable {g : Gx} {X : Cx} {Wx : WX}
theorem aKh (hK : X.K = g.K) : SO g X Wx (binaryOp .Add) bP := by
 intro x y h σ H μ vx vy Q rh qx qy po
 unfold bP at po
 split at po
 ·exact cD op_add ⟨_,_,qx,qy,po.at rh _ rfl (.of rfl)⟩
 ·split at po
  ·rename_i hl
   exact cD op_add_str ⟨_,_,qx,qy,hl,po.at rh _ rfl (.of rfl)⟩
  ·exact po.elim
 ·split at po
  ·rename_i i j e1 e2
   split at po
   ·rename_i hl
    obtain ⟨a,vs,rfl,s1,z1⟩ := fG qx e1
    obtain ⟨b,us,rfl,s2,z2⟩ := fG qy e2
    have l1 := z1.length
    have l2 := z2.length
    refine cD op_catA ⟨a,b,vs,us,rfl,rfl,by rw [hK]; exact s1,by rw [hK]; exact s2,by omega,fun e => ?_,fun ne e => ?_,fun ne ne' p np => ?_⟩
    ·subst e
     have ei : i = [] := by cases i with | nil => rfl | cons _ _ => simp at l1
     subst ei
     rw [if_pos rfl] at po
     exact po.at rh _ qy (.of (by cases y <;> first | rfl | cases e2))
    ·subst e
     have ej : j = [] := by cases j with | nil => rfl | cons _ _ => simp at l2
     have ei : i ≠ [] := fun z => ne (by subst z; cases vs with | nil => rfl | cons _ _ => simp at l1)
     rw [if_neg ei,if_pos ej] at po
     exact po.at rh _ qx (.of (by cases x <;> first | rfl | cases e1))
    ·have ei : i ≠ [] := fun z => ne (by subst z; cases vs with | nil => rfl | cons _ _ => simp at l1)
     have ej : j ≠ [] := fun z => ne' (by subst z; cases us with | nil => rfl | cons _ _ => simp at l2)
     rw [if_neg ei,if_neg ej] at po
     exact po μ _ (.new rh.trk np) (rh.new np) _ (.newT rh np (z1.append z2)) (.of rfl)
   ·exact po.elim
  ·split at po
   ·rename_i i j e1 e2
    split at po
    ·rename_i hl
     obtain ⟨a,vs,rfl,h1,z1⟩ := tF rh qx e1
     obtain ⟨b,us,rfl,h2,z2⟩ := tF rh qy e2
     have l1 := z1.length
     have l2 := z2.length
     refine cD op_cat ⟨a,b,vs,us,rfl,rfl,h1,h2,by omega,fun p np => ?_⟩
     exact po μ _ (.new rh.trk np) (rh.new np) _ (.newL rh np (z1.append z2)) fun c ec => by cases ec; exact np
    ·exact po.elim
   ·exact po.elim
theorem aKm : SO g X Wx (binaryOp .Sub) kD := by
 intro x y h σ H μ vx vy Q rh qx qy po
 unfold kD at po
 split at po
 ·exact cD op_sub ⟨_,_,qx,qy,po.at rh _ rfl (.of rfl)⟩
 ·exact po.elim
theorem aKk : SO g X Wx (binaryOp .Mult) mN := by
 intro x y h σ H μ vx vy Q rh qx qy po
 unfold mN at po
 split at po
 ·split at po
  ·rename_i hc
   exact cD op_mul ⟨_,_,qx,qy,hc,po.at rh _ rfl (.of rfl)⟩
  ·exact po.elim
 ·split at po
  ·rename_i i e1
   split at po
   ·rename_i hc
    obtain ⟨h1,h2,h3⟩ := hc
    obtain ⟨a,vs,rfl,ha,z1⟩ := tF rh qx e1
    have l1 := z1.length
    refine cD op_rep ⟨a,_,vs,rfl,qy,ha,h1,h2,by rw [l1]; exact h3,fun p np => ?_⟩
    exact po μ _ (.new rh.trk np) (rh.new np) _ (.newL rh np (z1.rep _)) fun c ec => by cases ec; exact np
   ·exact po.elim
  ·exact po.elim
 ·exact po.elim
theorem aIk : SO g X Wx (binaryOp .FloorDiv) uL := by
 intro x y h σ H μ vx vy Q rh qx qy po
 unfold uL at po
 split at po
 ·split at po
  ·rename_i hc
   exact cD op_fdiv ⟨_,_,qx,qy,hc,po.at rh _ rfl (.of rfl)⟩
  ·exact po.elim
 ·exact po.elim
theorem aKj : SO g X Wx (binaryOp .Mod) lJ := by
 intro x y h σ H μ vx vy Q rh qx qy po
 unfold lJ at po
 split at po
 ·split at po
  ·rename_i hc
   exact cD op_mod ⟨_,_,qx,qy,hc,po.at rh _ rfl (.of rfl)⟩
  ·exact po.elim
 ·exact po.elim
theorem aHU : OpR X (binaryOp .Pow) (rI (fun i j => 0 <= j /\ (Builtin.Int.intBits i : Int) * j <= 2 ^ 27) fun i j => .int (i ^ j.toNat)) := opI fun _ _ _ _ _ _ _ hc q => pow_int hc.1 hc.2 q
theorem aKl : SO g X Wx (binaryOp .Pow) rV := by
 intro x y h σ H μ vx vy Q rh qx qy po
 unfold rV at po
 split at po
 ·split at po
  ·rename_i hc
   exact cD aHU ⟨_,_,qx,qy,hc,po.at rh _ rfl (.of rfl)⟩
  ·exact po.elim
 ·exact po.elim
end
end PV
end
section
namespace PV
open PySem PySem.Spec PyProof.Rows L2
def aK {α β : Type} (f : α -> Option β) : List α -> Option (List β)
 | [] => some []
 | x :: xs => match f x,aK f xs with
  | some a,some b => some (a :: b)
  | _,_ => none
/-- the data that a value is -/
def toP (h : Hh) : Nat -> D -> Option PyData
 | 0,_ => none
 | n + 1,d => match d with
  | .non => some .none
  | .bl b => some (.bool b)
  | .int i => some (.int i)
  | .str x => some (.str x)
  | .tup ws => (aK (toP h n) ws).map .tuple
  | .kt ws => (aK (toP h n) ws).map .tuple
  | .tl ws => (aK (toP h n) ws).map .list
  | .fl ws => (aK (toP h n) ws).map .list
  | .ref i => match h[i]? with
   | some (.lst ws) => (aK (toP h n) ws).map .list
   | _ => none
  | _ => none
section
variable {g : Gx} {μ : List Addr} {h : Hh} {H : Hp}
theorem nI {f : D -> Option PyData} (ih : ∀ w v d,f w = some d -> RV g μ H w v -> Dp g.K H v d) : ∀ {ws : List D} {vs : List V} {ds : List PyData},aK f ws = some ds -> RVs g μ H ws vs -> DpAll g.K H vs ds
 | [],vs,ds,e,r => by
  rw [show vs = [] from r]
  unfold aK at e
  cases e
  exact .nil
 | w :: ws,vs,ds,e,r => by
  obtain ⟨v,rr,rfl,_,q,z⟩ := r
  unfold aK at e
  split at e
  ·rename_i a b ea eb
   cases e
   exact .cons (ih w v a ea q) (nI ih eb z)
  ·cases e
theorem fY (rh : RH g μ h H) : ∀ (n : Nat) (w : D) (v : V) (d : PyData),toP h n w = some d -> RV g μ H w v -> Dp g.K H v d
 | 0,w,v,d,e,r => by unfold toP at e; cases e
 | n + 1,w,v,d,e,r => by
  unfold toP at e
  split at e
  ·cases e; rw [show v = .non from r]; exact .non
  ·cases e; rw [show v = .bl _ from r]; exact .bl _
  ·cases e; rw [show v = .int _ from r]; exact .int _
  ·cases e; rw [show v = .str _ from r]; exact .str _
  ·obtain ⟨a,vs,rfl,q,z⟩ := r
   obtain ⟨ds,e1,rfl⟩ := Option.map_eq_some_iff.mp e
   exact .tup (.of q) (nI (fY rh n) e1 z)
  ·obtain ⟨a,vs,rfl,q,z⟩ := r
   obtain ⟨ds,e1,rfl⟩ := Option.map_eq_some_iff.mp e
   exact .tup q (nI (fY rh n) e1 z)
  ·obtain ⟨a,vs,rfl,q,_,z⟩ := r
   obtain ⟨ds,e1,rfl⟩ := Option.map_eq_some_iff.mp e
   exact .lst (.of q) (nI (fY rh n) e1 z)
  ·obtain ⟨a,vs,rfl,q,z⟩ := r
   obtain ⟨ds,e1,rfl⟩ := Option.map_eq_some_iff.mp e
   exact .lst q.sq (nI (fY rh n) e1 z)
  ·rename_i i
   split at e
   ·rename_i ws e3
    obtain ⟨a,e1,rfl⟩ := r
    obtain ⟨b,eb,vs,hb,z⟩ := rh.cell i _ e3
    rw [e1] at eb; cases eb
    obtain ⟨ds,e4,rfl⟩ := Option.map_eq_some_iff.mp e
    exact .lst (.of hb) (nI (fY rh n) e4 z)
   ·cases e
  ·cases e
end
def bG : Nat := 66
/-- == by the data -/
def eqD (h : Hh) (x y : D) : Option Bool := match toP h bG x,toP h bG y with
 | some d,some e => if SeqAt.shaped d && SeqAt.shaped e then some (PyData.eqv d e) else none
 | _,_ => none
def eqW (x y : D) (h : Hh) : R D := match x,y with
 | .str a, .str b => .ok (.bl (decide (a = b))) h
 | x,y => match eqD h x y with
  | some b => .ok (.bl b) h
  | none => .bad
def neW (x y : D) (h : Hh) : R D := match x,y with
 | .str a, .str b => .ok (.bl (!decide (a = b))) h
 | x,y => match eqD h x y with
  | some b => .ok (.bl (!b)) h
  | none => .bad
/-- a key of a dict -/
def toK : D -> Option Key
 | .int i => some (.inl i)
 | .str x => some (.inr x)
 | _ => none
def eQ {κ : Type} [DecidableEq κ] (kvs : List (κ × D)) (k : κ) : Option D := (kvs.find? fun kv => decide (kv.1 = k)).map (·.2)
/-- what a dict has at a key: none where the key or the dict is of another kind -/
def jG (h : Hh) (d : D) (k : D) : Option (Option D) := match d with
 | .ref i => match h[i]? with
  | some (.dK kvs) => match toK k with
   | some k => some (eQ kvs k)
   | none => none
  | some (.dT kvs) => match k with
   | .tup ks => match aK toK ks with
    | some ks => some (eQ kvs ks)
    | none => none
   | _ => none
  | _ => none
 | _ => none
def inO (x y : D) (h : Hh) : Option Bool := match y with
 | .tup ws => match toP h bG x,toP h bG (.tup ws) with
  | some d,some (.tuple ds) => if SeqAt.shaped d && SeqAt.shaped (.tuple ds) then some (ds.any fun z => PyData.eqv z d) else none
  | _,_ => none
 | .kt ws => match toP h bG x,toP h bG (.kt ws) with
  | some d,some (.tuple ds) => if SeqAt.shaped d && SeqAt.shaped (.tuple ds) then some (ds.any fun z => PyData.eqv z d) else none
  | _,_ => none
 | .str z => match x with
  | .str y => match y.cps.toList with
   | [c] => some (decide (c ∈ z.cps.toList))
   | _ => some (!(Builtin.Str.occurrences z y 0 z.length 1).isEmpty)
  | _ => none
 | y => match jG h y x with
  | some o => some o.isSome
  | none => match toP h bG x,toP h bG y with
   | some d,some (.list ds) => if SeqAt.shaped d && SeqAt.shaped (.list ds) then some (ds.any fun z => PyData.eqv z d) else none
   | _,_ => none
def inW (x y : D) (h : Hh) : R D := match inO x y h with
 | some b => .ok (.bl b) h
 | none => .bad
def niW (x y : D) (h : Hh) : R D := match inO x y h with
 | some b => .ok (.bl (!b)) h
 | none => .bad
/-- ints of a tuple -/
def toI : D -> Option Int
 | .int i => some i
 | _ => none
def ltW (x y : D) (h : Hh) : R D := match x,y with
 | .int i, .int j => .ok (.bl (decide (i < j))) h
 | .str i, .str j => .ok (.bl (decide (i.cps.toList < j.cps.toList))) h
 | x,y => match asT x,asT y with
  | some i,some j => match aK toI i,aK toI j with
   | some i,some j => .ok (.bl (HT.lexLt i j)) h
   | _,_ => .bad
  | _,_ => .bad
def leW (x y : D) (h : Hh) : R D := match x,y with
 | .int i, .int j => .ok (.bl (decide (i <= j))) h
 | .str i, .str j => .ok (.bl (!decide (j.cps.toList < i.cps.toList))) h
 | _,_ => .bad
def gtW (x y : D) (h : Hh) : R D := match x,y with
 | .int i, .int j => .ok (.bl (decide (j < i))) h
 | .str i, .str j => .ok (.bl (decide (j.cps.toList < i.cps.toList))) h
 | _,_ => .bad
def geW (x y : D) (h : Hh) : R D := match x,y with
 | .int i, .int j => .ok (.bl (decide (j <= i))) h
 | .str i, .str j => .ok (.bl (!decide (i.cps.toList < j.cps.toList))) h
 | _,_ => .bad
def D.isNon : D -> Bool
 | .non => true
 | _ => false
def xA (x y : D) (h : Hh) : R D := match x,y with
 | .bl a, .bl b => .ok (.bl (!decide (a = b))) h
 | x, .non => .ok (.bl (!x.isNon)) h
 | _,_ => .bad
section
variable {g : Gx} {X : Cx} {Wx : WX} {μ : List Addr} {h : Hh} {H : Hp}
theorem aEy {x y : D} {vx vy : V} {b : Bool} (rh : RH g μ h H) (qx : RV g μ H x vx) (qy : RV g μ H y vy) (e : eqD h x y = some b) :
  ∃ d d',Dp g.K H vx d /\ Dp g.K H vy d' /\ SeqAt.shaped d = true /\ SeqAt.shaped d' = true /\ PyData.eqv d d' = b := by
 unfold eqD at e
 split at e
 ·rename_i d d' e1 e2
  split at e
  ·rename_i hs
   cases e
   obtain ⟨s1,s2⟩ := Bool.and_eq_true_iff.mp hs
   exact ⟨d,d',fY rh _ _ _ _ e1 qx,fY rh _ _ _ _ e2 qy,s1,s2,rfl⟩
  ·cases e
 ·cases e
theorem aHo (hK : X.K = g.K) (hu : X.A.units + 64 < cLine) : SO g X Wx (compareOp .Eq) eqW := by
 intro x y h σ H μ vx vy Q rh qx qy po
 unfold eqW at po
 split at po
 ·rename_i a b
  rw [show vx = .str a from qx,show vy = .str b from qy]
  refine cD op_eq ⟨rfl, ?_⟩
  have e : decide (V.str a = V.str b) = decide (a = b) := by simp
  rw [e]
  exact po.at rh _ rfl (.of rfl)
 ·split at po
  ·rename_i b e
   obtain ⟨d,d',p1,p2,s1,s2,rfl⟩ := aEy rh qx qy e
   exact cD (op_eqD hu) ⟨d,d',by rw [hK]; exact p1,by rw [hK]; exact p2,s1,s2,po.at rh _ rfl (.of rfl)⟩
  ·exact po.elim
theorem aLN (hK : X.K = g.K) (hu : X.A.units + 64 < cLine) : SO g X Wx (compareOp .NotEq) neW := by
 intro x y h σ H μ vx vy Q rh qx qy po
 unfold neW at po
 split at po
 ·rename_i a b
  rw [show vx = .str a from qx,show vy = .str b from qy]
  refine cD op_ne ⟨rfl, ?_⟩
  have e : decide (V.str a = V.str b) = decide (a = b) := by simp
  rw [e]
  exact po.at rh _ rfl (.of rfl)
 ·split at po
  ·rename_i b e
   obtain ⟨d,d',p1,p2,s1,s2,rfl⟩ := aEy rh qx qy e
   exact cD (op_neD hu) ⟨d,d',by rw [hK]; exact p1,by rw [hK]; exact p2,s1,s2,po.at rh _ rfl (.of rfl)⟩
  ·exact po.elim
theorem yA {w : D} {k : Key} {v : V} (e : toK w = some k) (q : RV g μ H w v) : v = kV k := by
 unfold toK at e
 split at e
 ·cases e; exact q
 ·cases e; exact q
 ·cases e
theorem zL : ∀ {ws : List D} {ks : List Key} {vs : List V},aK toK ws = some ks -> RVs g μ H ws vs -> vs = ks.map kV
 | [],ks,vs,e,r => by
  unfold aK at e; cases e
  exact r
 | w :: ws,ks,vs,e,r => by
  obtain ⟨v,rr,rfl,_,q,z⟩ := r
  unfold aK at e
  split at e
  ·rename_i a b ea eb
   cases e
   rw [yA ea q,zL eb z]; rfl
  ·cases e
def RO (g : Gx) (μ : List Addr) (H : Hp) : Option D -> Option V -> Prop
 | some w,r => ∃ v,r = some v /\ w.isTl = false /\ RV g μ H w v
 | none,r => r = none
theorem aCV {κ : Type} [DecidableEq κ] {kvs : List (κ × D)} {vs : List (κ × V)} (r : RKs g μ H kvs vs) (k : κ) : RO g μ H (eQ kvs k) (valV vs k) := by
 induction kvs generalizing vs with
 | nil => rw [show vs = [] from r]; rfl
 | cons p kvs ih =>
  obtain ⟨v,rr,rfl,nt,q,z⟩ := r
  by_cases e : p.1 = k
  ·have e1 : eQ (p :: kvs) k = some p.2 := by simp [eQ,List.find?_cons,e]
   rw [e1]
   exact ⟨v,valV_pos e,nt,q⟩
  ·have e1 : eQ (p :: kvs) k = eQ kvs k := by simp [eQ,List.find?_cons,e]
   rw [e1]
   rw [valV_neg (p := (p.1,v)) e]
   exact ih z
theorem aCQ {d k : D} {vd vk : V} {o : Option D} (rh : RH g μ h H) (qd : RV g μ H d vd) (qk : RV g μ H k vk) (e : jG h d k = some o) :
  ∃ a r,vd = .ref a /\ IsD H a /\ DGet H a vk r /\ RO g μ H o r := by
 cases d <;> first | (cases e; done) | skip
 ·rename_i i
  obtain ⟨a,ea,rfl⟩ := qd
  simp only [jG] at e
  split at e
  ·rename_i kvs e3
   obtain ⟨b,eb,vs,hb,z⟩ := rh.cell i _ e3
   rw [ea] at eb; cases eb
   split at e
   ·rename_i k' e4
    cases e
    rw [yA e4 qk]
    exact ⟨a,_,rfl, .inl ⟨_, .inl hb⟩,DGet.k hb,aCV z k'⟩
   ·cases e
  ·rename_i kvs e3
   obtain ⟨b,eb,vs,hb,z⟩ := rh.cell i _ e3
   rw [ea] at eb; cases eb
   split at e
   ·rename_i ks
    split at e
    ·rename_i ks' e4
     cases e
     obtain ⟨c,us,rfl,hc,zc⟩ := qk
     rw [zL e4 zc] at hc
     exact ⟨a,_,rfl, .inr ⟨_, .inl hb⟩,DGet.t hb hc,aCV z ks'⟩
    ·cases e
   ·cases e
  ·cases e
/-- in,by values -/
def aM2 (K : PySem.W.Frag) : R2 := fun x y H Q => ∃ d ds,Dp K H x d /\ Dp K H y (.tuple ds) /\ SeqAt.shaped d = true /\ SeqAt.shaped (.tuple ds) = true /\ Q (.bl (ds.any fun z => PyData.eqv z d)) H
def aM3 (K : PySem.W.Frag) : R2 := fun x y H Q => ∃ d ds,Dp K H x d /\ Dp K H y (.tuple ds) /\ SeqAt.shaped d = true /\ SeqAt.shaped (.tuple ds) = true /\ Q (.bl (!ds.any fun z => PyData.eqv z d)) H
theorem aES (hu : X.A.units + 65 < cLine) : OpR X (compareOp .In) (aM2 X.K) := by
 intro pins s σ H x y v u Q I rx ry h
 obtain ⟨d,ds,hd,he,sd,se,q⟩ := h
 obtain ⟨as,r1⟩ := Dp.reads I d x v hd rx
 obtain ⟨bs,r2⟩ := Dp.reads I (.tuple ds) y u he ry
 exact SeqAt.in_tuple_reads r2 r1 (SeqAt.canLay_of_shaped se) (SeqAt.canLay_of_shaped sd) (room_in_shaped sd hu) ⟨.bl _,H,I,rfl,q⟩
theorem aET (hu : X.A.units + 65 < cLine) : OpR X (compareOp .NotIn) (aM3 X.K) := by
 intro pins s σ H x y v u Q I rx ry h
 obtain ⟨d,ds,hd,he,sd,se,q⟩ := h
 obtain ⟨as,r1⟩ := Dp.reads I d x v hd rx
 obtain ⟨bs,r2⟩ := Dp.reads I (.tuple ds) y u he ry
 exact SeqAt.notIn_tuple_reads r2 r1 (SeqAt.canLay_of_shaped se) (SeqAt.canLay_of_shaped sd) (room_in_shaped sd hu) ⟨.bl _,H,I,rfl,q⟩
def aM0 : R2 := fun y x H Q => ∃ a o,x = .ref a /\ DGet H a y o /\ Q (.bl o.isSome) H
def aM1 : R2 := fun y x H Q => ∃ a o,x = .ref a /\ DGet H a y o /\ Q (.bl (!o.isSome)) H
theorem aJi (hu : X.A.units + 1 < cLine) : OpR X (compareOp .In) aM0 := by
 intro pins s σ H x y v u Q I rx ry h
 obtain ⟨a,o,rfl,gt,q⟩ := h
 cases ry
 exact d_in hu I gt rx fun s' I' => ⟨.bl _,H,I',rfl,q⟩
theorem aJj (hu : X.A.units + 1 < cLine) : OpR X (compareOp .NotIn) aM1 := by
 intro pins s σ H x y v u Q I rx ry h
 obtain ⟨a,o,rfl,gt,q⟩ := h
 cases ry
 exact d_notIn hu I gt rx fun s' I' => ⟨.bl _,H,I',rfl,q⟩
theorem aIh {y : Str} {c : Nat} (e : y.cps.toList = [c]) : y = ⟨#[c]⟩ := by
 cases y with
 | mk a =>
  have : a = #[c] := by
   have := congrArg List.toArray e
   simpa using this
  rw [this]
/-- in and not in together: f is the truth or its opposite -/
theorem aEH (hK : X.K = g.K) (hu : X.A.units + 65 < cLine) {x y : D} {vx vy : V} {b : Bool} {Q : VK} (rh : RH g μ h H) (qx : RV g μ H x vx) (qy : RV g μ H y vy) (e : inO x y h = some b) :
  (Q (.bl b) H -> rOf X (compareOp .In) vx vy H Q) /\ (Q (.bl (!b)) H -> rOf X (compareOp .NotIn) vx vy H Q) := by
 unfold inO at e
 split at e
 ·rename_i ws
  split at e
  ·rename_i d ds e1 e2
   split at e
   ·rename_i hs
    cases e
    obtain ⟨s1,s2⟩ := Bool.and_eq_true_iff.mp hs
    have p1 := fY rh _ _ _ _ e1 qx
    have p2 := fY rh _ _ _ _ e2 qy
    exact ⟨fun q => cD (aES hu) ⟨d,ds,by rw [hK]; exact p1,by rw [hK]; exact p2,s1,s2,q⟩,fun q => cD (aET hu) ⟨d,ds,by rw [hK]; exact p1,by rw [hK]; exact p2,s1,s2,q⟩⟩
   ·cases e
  ·cases e
 ·rename_i ws
  split at e
  ·rename_i d ds e1 e2
   split at e
   ·rename_i hs
    cases e
    obtain ⟨s1,s2⟩ := Bool.and_eq_true_iff.mp hs
    have p1 := fY rh _ _ _ _ e1 qx
    have p2 := fY rh _ _ _ _ e2 qy
    exact ⟨fun q => cD (aES hu) ⟨d,ds,by rw [hK]; exact p1,by rw [hK]; exact p2,s1,s2,q⟩,fun q => cD (aET hu) ⟨d,ds,by rw [hK]; exact p1,by rw [hK]; exact p2,s1,s2,q⟩⟩
   ·cases e
  ·cases e
 ·rename_i z
  split at e
  ·rename_i y'
   split at e
   ·rename_i c ec
    cases e
    rw [show vx = .str y' from qx,show vy = .str z from qy,aIh ec]
    exact ⟨fun q => cD op_in_sign ⟨c,z,rfl,rfl,q⟩,fun q => cD op_notIn_sign ⟨c,z,rfl,rfl,q⟩⟩
   ·cases e
    exact ⟨fun q => cD op_in_str ⟨_,_,qx,qy,q⟩,fun q => cD op_notin_str ⟨_,_,qx,qy,q⟩⟩
  ·cases e
 ·split at e
  ·rename_i o eo
   cases e
   obtain ⟨a,r,e1,_,e2,e3⟩ := aCQ rh qy qx eo
   have eb : o.isSome = r.isSome := by
    cases o with
    | none => rw [show r = none from e3]; rfl
    | some w => obtain ⟨v,rfl,_⟩ := e3; rfl
   rw [eb]
   exact ⟨fun q => cD (aJi (by omega)) ⟨a,r,e1,e2,q⟩,fun q => cD (aJj (by omega)) ⟨a,r,e1,e2,q⟩⟩
  ·split at e
   ·rename_i d ds e1 e2
    split at e
    ·rename_i hs
     cases e
     obtain ⟨s1,s2⟩ := Bool.and_eq_true_iff.mp hs
     have p1 := fY rh _ _ _ _ e1 qx
     have p2 := fY rh _ _ _ _ e2 qy
     exact ⟨fun q => cD (op_inD hu) ⟨d,ds,by rw [hK]; exact p1,by rw [hK]; exact p2,s1,s2,q⟩,fun q => cD (op_notInD hu) ⟨d,ds,by rw [hK]; exact p1,by rw [hK]; exact p2,s1,s2,q⟩⟩
    ·cases e
   ·cases e
theorem aLK (hK : X.K = g.K) (hu : X.A.units + 65 < cLine) : SO g X Wx (compareOp .In) inW := by
 intro x y h σ H μ vx vy Q rh qx qy po
 unfold inW at po
 split at po
 ·rename_i b e
  exact (aEH hK hu rh qx qy e).1 (po.at rh _ rfl (.of rfl))
 ·exact po.elim
theorem aLO (hK : X.K = g.K) (hu : X.A.units + 65 < cLine) : SO g X Wx (compareOp .NotIn) niW := by
 intro x y h σ H μ vx vy Q rh qx qy po
 unfold niW at po
 split at po
 ·rename_i b e
  exact (aEH hK hu rh qx qy e).2 (po.at rh _ rfl (.of rfl))
 ·exact po.elim
theorem xZ : ∀ {ws : List D} {ns : List Int} {vs : List V},aK toI ws = some ns -> RVs g μ H ws vs -> vs = ns.map V.int
 | [],ks,vs,e,r => by
  unfold aK at e; cases e
  exact r
 | w :: ws,ks,vs,e,r => by
  obtain ⟨v,rr,rfl,_,q,z⟩ := r
  unfold aK at e
  split at e
  ·rename_i a b ea eb
   cases e
   unfold toI at ea
   split at ea
   ·cases ea
    rw [show v = .int _ from q,xZ eb z]; rfl
   ·cases ea
  ·cases e
theorem aLM (hK : X.K = g.K) (hu : X.A.units < cLine) : SO g X Wx (compareOp .Lt) ltW := by
 intro x y h σ H μ vx vy Q rh qx qy po
 unfold ltW at po
 split at po
 ·exact cD op_lt ⟨_,_,qx,qy,po.at rh _ rfl (.of rfl)⟩
 ·exact cD op_lt_str ⟨_,_,qx,qy,po.at rh _ rfl (.of rfl)⟩
 ·split at po
  ·rename_i i j e1 e2
   split at po
   ·rename_i i' j' e3 e4
    obtain ⟨a,vs,rfl,s1,z1⟩ := fG qx e1
    obtain ⟨b,us,rfl,s2,z2⟩ := fG qy e2
    rw [xZ e3 z1] at s1
    rw [xZ e4 z2] at s2
    exact cD (op_ltT hu) ⟨a,b,i',j',rfl,rfl,by rw [hK]; exact s1,by rw [hK]; exact s2,po.at rh _ rfl (.of rfl)⟩
   ·exact po.elim
  ·exact po.elim
theorem aLL : SO g X Wx (compareOp .LtE) leW := by
 intro x y h σ H μ vx vy Q rh qx qy po
 unfold leW at po
 split at po
 ·exact cD op_le ⟨_,_,qx,qy,po.at rh _ rfl (.of rfl)⟩
 ·exact cD op_le_str ⟨_,_,qx,qy,po.at rh _ rfl (.of rfl)⟩
 ·exact po.elim
theorem aLJ : SO g X Wx (compareOp .Gt) gtW := by
 intro x y h σ H μ vx vy Q rh qx qy po
 unfold gtW at po
 split at po
 ·exact cD op_gt ⟨_,_,qx,qy,po.at rh _ rfl (.of rfl)⟩
 ·exact cD op_gt_str ⟨_,_,qx,qy,po.at rh _ rfl (.of rfl)⟩
 ·exact po.elim
theorem aLI : SO g X Wx (compareOp .GtE) geW := by
 intro x y h σ H μ vx vy Q rh qx qy po
 unfold geW at po
 split at po
 ·exact cD op_ge ⟨_,_,qx,qy,po.at rh _ rfl (.of rfl)⟩
 ·exact cD op_ge_str ⟨_,_,qx,qy,po.at rh _ rfl (.of rfl)⟩
 ·exact po.elim
theorem aF6 {x : D} {v : V} (q : RV g μ H x v) : decide (v = .non) = x.isNon := by
 cases x <;> first
  | (rw [show v = _ from q]; rfl)
  | (obtain ⟨a,vs,rfl,_⟩ := q; rfl)
  | (obtain ⟨a,_,rfl⟩ := q; rfl)
  | (obtain ⟨a,C,d,vs,rfl,_⟩ := q; rfl)
theorem aGJ : SO g X Wx (compareOp .IsNot) xA := by
 intro x y h σ H μ vx vy Q rh qx qy po
 unfold xA at po
 split at po
 ·exact cD op_isnot_bl ⟨_,_,qx,qy,po.at rh _ rfl (.of rfl)⟩
 ·refine cD op_notN ⟨qy, ?_⟩
  rw [aF6 qx]
  exact po.at rh _ rfl (.of rfl)
 ·exact po.elim
end
end PV
end
section
namespace PV
open PySem PySem.Spec PyProof.Rows L2
def kW (a b : M Bool) : M Bool := fun σ h => (a σ h).bind fun x h1 => if x = true then b σ h1 else .ok false h1
def gR (a b : M Bool) : M Bool := fun σ h => (a σ h).bind fun x h1 => if x = true then .ok true h1 else b σ h1
def iX (a : M Bool) : M Bool := fun σ h => (a σ h).bind fun x h1 => .ok (!x) h1
def jP (a b : M D) : M D := fun σ h => (a σ h).bind fun x h1 => match x with
 | .bl true => b σ h1
 | .bl false => .ok (.bl false) h1
 | _ => .bad
def aMD (a b : M D) : M D := fun σ h => (a σ h).bind fun x h1 => match x with
 | .bl true => .ok (.bl true) h1
 | .bl false => b σ h1
 | _ => .bad
def aAE (a : M D) : M D := fun σ h => (a σ h).bind fun x h1 => match x with
 | .bl b => .ok (.bl (!b)) h1
 | _ => .bad
def mIf (c : M Bool) (a b : M D) : M D := fun σ h => (c σ h).bind fun x h1 => if x = true then a σ h1 else b σ h1
section
variable {g : Gx} {X : Cx} {Wx : WX} {a b c : Expr} {rest : List Expr} {ma mb : M D} {ta tb : M Bool} {pos : Pos}
theorem aIv (ha : ST g X Wx a ta) : SW g X Wx (.BoolOp .And [a] pos) ta := fun σw h σ H μ Q rs rh po => aDU (pw_and1 rW) (ha σw h σ H μ Q rs rh po)
theorem aKx (ha : ST g X Wx a ta) : SW g X Wx (.BoolOp .Or [a] pos) ta := fun σw h σ H μ Q rs rh po => aDU (pw_or1 rW) (ha σw h σ H μ Q rs rh po)
theorem aKw (ha : ST g X Wx a ta) (hb : SW g X Wx (.BoolOp .And (b :: rest) pos) tb) : SW g X Wx (.BoolOp .And (a :: b :: rest) pos) (kW ta tb) := by
 intro σw h σ H μ Q rs rh po
 refine aDU (pw_and rW aHh) (ha σw h σ H μ _ rs rh (po.bind.imp fun x h1 μ1 H1 x1 r1 p1 => ?_))
 cases x with
 | true => exact hb σw h1 σ H1 μ1 Q (rs.ext rh.trk x1) r1 p1
 | false => exact p1.at r1
theorem aLS (ha : ST g X Wx a ta) (hb : SW g X Wx (.BoolOp .Or (b :: rest) pos) tb) : SW g X Wx (.BoolOp .Or (a :: b :: rest) pos) (gR ta tb) := by
 intro σw h σ H μ Q rs rh po
 refine aDU (pw_or rW aHh) (ha σw h σ H μ _ rs rh (po.bind.imp fun x h1 μ1 H1 x1 r1 p1 => ?_))
 cases x with
 | false => exact hb σw h1 σ H1 μ1 Q (rs.ext rh.trk x1) r1 p1
 | true => exact p1.at r1
theorem aKs (ha : ST g X Wx a ta) : ST g X Wx (.UnaryOp .Not a pos) (iX ta) := by
 intro σw h σ H μ Q rs rh po
 refine aDS (pt_not rW) (ha σw h σ H μ _ rs rh (po.bind.imp fun x h1 μ1 H1 x1 r1 p1 => ?_))
 exact p1.at r1
theorem aJ9 {op} (ha : SE g X Wx a ma) : SE g X Wx (.BoolOp op [a] pos) ma := fun σw h σ H μ Q rs rh po => dX (pe_one bC) (ha σw h σ H μ Q rs rh po)
theorem aJY (ha : SE g X Wx a ma) (hb : SE g X Wx (.BoolOp .And (b :: rest) pos) mb) : SE g X Wx (.BoolOp .And (a :: b :: rest) pos) (jP ma mb) := by
 intro σw h σ H μ Q rs rh po
 refine dX (pe_and bC bC) (ha σw h σ H μ _ rs rh (po.bind.imp fun x h1 μ1 H1 x1 r1 p1 v qv fv => ?_))
 split at p1
 ·exact ⟨true,qv,hb σw h1 σ H1 μ1 Q (rs.ext rh.trk x1) r1 (p1.imp fun w h2 μ2 H2 x2 r2 q2 v2 qv2 fv2 => q2 v2 qv2 (fv2.back x1))⟩
 ·exact ⟨false,qv,p1.at r1 _ rfl (.of rfl)⟩
 ·exact p1.elim
theorem aJ8 (ha : SE g X Wx a ma) : SE g X Wx (.UnaryOp .Not a pos) (aAE ma) := by
 intro σw h σ H μ Q rs rh po
 refine dX (pe_not bC) (ha σw h σ H μ _ rs rh (po.bind.imp fun x h1 μ1 H1 x1 r1 p1 v qv fv => ?_))
 split at p1
 ·exact ⟨_,qv,p1.at r1 _ rfl (.of rfl)⟩
 ·exact p1.elim
theorem aJ3 (hc : ST g X Wx c ta) (ha : SE g X Wx a ma) (hb : SE g X Wx b mb) : SE g X Wx (.IfExp c a b pos) (mIf ta ma mb) := by
 intro σw h σ H μ Q rs rh po
 refine dX (pe_ifExp rW bC bC) (hc σw h σ H μ _ rs rh (po.bind.imp fun x h1 μ1 H1 x1 r1 p1 => ?_))
 cases x with
 | true => exact ha σw h1 σ H1 μ1 Q (rs.ext rh.trk x1) r1 (p1.imp fun w h2 μ2 H2 x2 r2 q2 v2 qv2 fv2 => q2 v2 qv2 (fv2.back x1))
 | false => exact hb σw h1 σ H1 μ1 Q (rs.ext rh.trk x1) r1 (p1.imp fun w h2 μ2 H2 x2 r2 q2 v2 qv2 fv2 => q2 v2 qv2 (fv2.back x1))
theorem aKt (ha : SE g X Wx a ma) (he : ∀ whole,isTrue a X.env whole = (do let v <- whole; standAt a.pos; holding [v] (truthy v))) : ST g X Wx a (mB ma) := fun σw h σ H μ Q rs rh po =>
 aDS (pt_val bC he) (ha σw h σ H μ _ rs rh (zH po))
end
def aA : List (M D) -> M (List D)
 | [] => fun _ h => .ok [] h
 | m :: ms => fun σ h => (m σ h).bind fun w h1 => (aA ms σ (aU w h1).2).bind fun ws h2 => .ok ((aU w h1).1 :: ws) h2
def bM (m : M (List D)) : M D := fun σ h => (m σ h).bind fun ws h1 => if ws.length <= sizeLine then .ok (.tup ws) h1 else .bad
def dJ (m : M (List D)) : M D := fun σ h => (m σ h).bind fun ws h1 => if ws.length <= sizeLine then .ok (.tl ws) h1 else .bad
section
variable {g : Gx} {X : Cx} {Wx : WX} {a b e : Expr} {es : List Expr} {ma mb : M D} {ms : List (M D)} {pos : Pos}
theorem aJP : SA g X Wx [] (aA []) := fun σw h σ H μ Q rs rh po => aJk pa_nil (po.at rh [] rfl)
theorem aIb (ha : SE g X Wx e ma) (hr : SA g X Wx es (aA ms)) (hs : starEach (e :: es) X.env = (false,eval e X.env) :: starEach es X.env) : SA g X Wx (e :: es) (aA (ma :: ms)) := by
 intro σw h σ H μ Q rs rh po
 refine aJk (pa_cons bC aAG hs) (ha σw h σ H μ _ rs rh (po.bind2.imp fun w h1 μ1 H1 x1 r1 p1 v qv fv => ?_))
 obtain ⟨μ1',x1',r1',q1',_⟩ := lP r1 qv fv x1
 refine hr σw _ σ H1 μ1' _ (rs.ext rh.trk x1') r1' ((p1 μ1' H1 x1').bind.imp fun ws h2 μ2 H2 x2 r2 p2 vs qs => ?_)
 exact p2.at r2 (v :: vs) ⟨v,vs,rfl,gX,q1'.ext r1'.trk x2,qs⟩
variable {m : M (List D)}
theorem aKb {x1} (ha : SA g X Wx es m) : SE g X Wx (.Tuple es x1 pos) (bM m) := by
 intro σw h σ H μ Q rs rh po
 refine dX (pe_tup aAG) (ha σw h σ H μ _ rs rh (po.bind.imp fun ws h1 μ1 H1 x1 r1 p1 vs qs => ?_))
 split at p1
 ·rename_i hl
  have l := qs.length
  exact ⟨by omega,fun p np => p1 μ1 _ (.new r1.trk np) (r1.new np) _ (.newT r1 np qs) (.of rfl)⟩
 ·exact p1.elim
theorem aJ5 (ha : SA g X Wx es m) : SE g X Wx (.List es pos) (dJ m) := by
 intro σw h σ H μ Q rs rh po
 refine dX (pe_lst aAG) (ha σw h σ H μ _ rs rh (po.bind.imp fun ws h1 μ1 H1 x1 r1 p1 vs qs => ?_))
 split at p1
 ·rename_i hl
  have l := qs.length
  refine ⟨by omega,fun p np => p1 μ1 _ (.new r1.trk np) (r1.new np) _ (.newL r1 np qs) (Fr.back x1 fun c ec => ?_)⟩
  cases ec
  exact np
 ·exact p1.elim
end
def ixW (x y : D) (h : Hh) : R D := match y with
 | .int i => match asL h x with
  | some ws => match atI ws i with
   | some w => .ok w h
   | none => .bad
  | none => match asT x with
   | some ws => match atI ws i with
    | some w => .ok w h
    | none => .bad
   | none => match x with
    | .str z => if z.length <= sizeLine then match atI z.cps.toList i with
      | some c => .ok (.str ⟨#[c]⟩) h
      | none => .bad
     else .bad
    | x => match jG h x y with
     | some (some w) => .ok w h
     | _ => .bad
 | y => match jG h x y with
  | some (some w) => .ok w h
  | _ => .bad
/-- a dict's item as a subscript by values -/
theorem aHH {X : Cx} (hu : X.A.units + 1 < cLine) : IxR X (fun x y H Q => ∃ a v,x = .ref a /\ DGet H a y (some v) /\ Q v H) := by
 intro value slice pins s σ H x y v u Q I rx ry h hs
 obtain ⟨a,z,rfl,gt,q⟩ := h
 cases rx
 have hT := dict_typeIs I gt
 have h₂ : wpAny (model X.prog X.w) X.A (getItem (.ref a) u) (EP X pins σ Q) X.xe s := d_getItem hu I gt ry fun w' s3 I3 rw' => ⟨z,H,I3,rw',q⟩
 unfold subscriptTail
 refine wpAny_bind ?_
 rw [getitemInPython_of_ne hT.not_modules]
 refine wpAny_bind (wpAny_specialOf hT PySem.F.slot_dict_getitem.lookup ?_)
 have fin : wpAny (model X.prog X.w) X.A (subscripted slice false (.ref a) u) (fun r s₃ => wpAny (model X.prog X.w) X.A (letTemporaryGo value (.ref a) r >>= fun _ => pure r) (EP X pins σ Q) X.xe s₃) X.xe s := by
  rw [hs]
  exact wpAny_operating (wpAny_mono h₂ (fun r s₃ h₃ => wpAny_bind (wpAny_letTemporaryGo (wpAny_pure h₃))) fun _ _ x => x)
 first
  | exact wpAny_pure (wpAny_bind fin)
  | exact wpAny_bind (wpAny_pure (wpAny_bind fin))
  | exact wpAny_bind fin
def aDE (X : Cx) : R2 := fun x y H Q => ∀ value slice pins s σ v u,Inv X pins σ H s -> RelV x v -> RelV y u -> subscripted slice false v u = operate [v,u] (getItem v u) -> wpAny (model X.prog X.w) X.A (subscriptTail value slice v u) (EP X pins σ Q) X.xe s
theorem aK2 {X : Cx} : IxR X (aDE X) := fun value slice pins s σ H x y v u Q I rx ry h hs => h value slice pins s σ v u I rx ry hs
theorem aDD {X : Cx} {r : R2} (p : IxR X r) {x y : V} {H : Hp} {Q : VK} (h : r x y H Q) : aDE X x y H Q := fun value slice pins s σ v u I rx ry hs => p value slice pins s σ H x y v u Q I rx ry h hs
section
variable {g : Gx} {X : Cx} {Wx : WX} {a b : Expr} {ma mb : M D} {pos : Pos} {μ : List Addr} {H : Hp}
theorem aEn {ws : List D} {vs : List V} {i : Int} {w : D} (r : RVs g μ H ws vs) (e : atI ws i = some w) : ∃ v,atI vs i = some v /\ w.isTl = false /\ RV g μ H w v := by
 unfold atI at e ⊢
 rw [r.length]
 cases q : ixN ws.length i with
 | none => rw [q] at e; cases e
 | some j =>
  rw [q] at e
  exact r.get e
theorem aJa (hK : X.K = g.K) (hu : X.A.units + 1 < cLine) : ∀ (x y : D) (h : Hh) (σ : L2.St) (H : Hp) (μ : List Addr) (vx vy : V) (Q : VK),
  RH g μ h H -> RV g μ H x vx -> RV g μ H y vy -> Po g Wx σ μ H (ixW x y h) (fun w h' μ' H' => ∀ v,RV g μ' H' w v -> Fr H w v -> Q v H') -> aDE X vx vy H Q := by
 intro x y h σ H μ vx vy Q rh qx qy po
 have dcase : ∀ {o : Option (Option D)},o = jG h x y -> Po g Wx σ μ H (match o with | some (some w) => R.ok w h | _ => .bad) (fun w h' μ' H' => ∀ v,RV g μ' H' w v -> Fr H w v -> Q v H') -> aDE X vx vy H Q := by
  intro o eo po
  split at po
  ·rename_i w
   obtain ⟨a,r,e1,_,e2,v,rfl,nt,q⟩ := aCQ rh qx qy eo.symm
   exact aDD (aHH hu) ⟨a,v,e1,e2,po.at rh v q (.of nt)⟩
  ·exact po.elim
 unfold ixW at po
 split at po
 ·rename_i i
  split at po
  ·rename_i ws ew
   split at po
   ·rename_i w e
    obtain ⟨a,vs,rfl,s1,z⟩ := jI rh qx ew
    obtain ⟨v,ev,nt,qv⟩ := aEn z e
    exact aDD ix_list ⟨a,vs,i,v,rfl,qy,by rw [hK]; exact s1,ev,po.at rh v qv (.of nt)⟩
   ·exact po.elim
  ·split at po
   ·rename_i ws ew
    split at po
    ·rename_i w e
     obtain ⟨a,vs,rfl,s1,z⟩ := fG qx ew
     obtain ⟨v,ev,nt,qv⟩ := aEn z e
     exact aDD ix_tup ⟨a,vs,i,v,rfl,qy,by rw [hK]; exact s1,ev,po.at rh v qv (.of nt)⟩
    ·exact po.elim
   ·split at po
    ·rename_i z _ _
     split at po
     ·rename_i hl
      split at po
      ·rename_i c e
       exact aDD ix_str ⟨z,i,c,qx,qy,hl,e,po.at rh _ rfl (.of rfl)⟩
      ·exact po.elim
     ·exact po.elim
    ·exact dcase rfl po
 ·exact dcase rfl po
theorem aLz (hK : X.K = g.K) (hu : X.A.units + 1 < cLine) (ha : SE g X Wx a ma) (hb : SE g X Wx b mb) (hs : PlainIx b) : SE g X Wx (.Subscript a b pos) (mOp ixW ma mb) := by
 intro σw h σ H μ Q rs rh po
 refine dX (pe_ix aK2 bC bC hs) ?_
 refine ha σw h σ H μ _ rs rh (po.bind.imp fun x h1 μ1 H1 x1 r1 p1 vx qx fx => ?_)
 refine hb σw h1 σ H1 μ1 _ (rs.ext rh.trk x1) r1 (p1.bind.imp fun y h2 μ2 H2 x2 r2 p2 vy qy fy => ?_)
 exact aJa hK hu x y h2 σ H2 μ2 vx vy Q r2 (qx.ext r1.trk x2) qy (p2.imp fun w h3 μ3 H3 x3 r3 q3 v qv fv => q3 v qv (fv.back (x1.trans x2)))
end
def pB (xs : List D) (lo hi : Option Int) : List D := (xs.drop (HT.sIx xs.length 0 lo)).take (HT.sIx xs.length xs.length hi - HT.sIx xs.length 0 lo)
def slW (x : D) (lo hi : Option Int) (h : Hh) : R D := match asL h x with
 | some ws => .ok (.tl (pB ws lo hi)) h
 | none => match asT x with
  | some ws => .ok (if HT.sIx ws.length 0 lo = 0 /\ HT.sIx ws.length ws.length hi = ws.length then x else .tup (pB ws lo hi)) h
  | none => match x with
   | .str z => if z.length <= sizeLine then .ok (.str (cutS z lo hi)) h else .bad
   | _ => .bad
def oN : Option (M D) -> M (Option Int)
 | none => fun _ h => .ok none h
 | some m => fun σ h => (m σ h).bind fun x h1 => match x with
  | .int i => .ok (some i) h1
  | _ => .bad
def mSl (a : M D) (lo hi : Option (M D)) : M D := fun σ h => (a σ h).bind fun x h1 => (oN lo σ h1).bind fun l h2 => (oN hi σ h2).bind fun u h3 => slW x l u h3
def aGT (X : Cx) (e : Option Expr) : TO := fun σ H Q => ∀ pins s,Inv X pins σ H s -> wpAny (model X.prog X.w) X.A (evalPart e X.env) (fun u s' => ∃ o H',Inv X pins σ H' s' /\ IsPart u o /\ Q o H') X.xe s
theorem aHe {X : Cx} {e : Option Expr} : PO X e (aGT X e) := ⟨fun pins s σ H Q I h => h pins s I⟩
theorem aJp {X : Cx} {e : Option Expr} {t : TO} (p : PO X e t) {σ : L2.St} {H : Hp} {Q : Option Int -> Hp -> Prop} (h : t σ H Q) : aGT X e σ H Q := fun pins s I => p.run pins s σ H Q I h
def aKe (X : Cx) : V -> Option Int -> Option Int -> Hp -> VK -> Prop := fun x lo hi H Q => ∀ pins s σ v vl vu sl,Inv X pins σ H s -> RelV x v -> s.heap.IsSliceOf sl vl vu .none -> IsPart vl lo -> IsPart vu hi ->
  ∃ T id,typeLookup (.type T) "__getitem__" = pure (some (.builtin id)) /\ s.TypeIs v T /\ wpAny (model X.prog X.w) X.A (getItem v (.ref sl)) (EP X pins σ Q) X.xe s
theorem aLH {X : Cx} : L2.SlR X (aKe X) := fun pins s σ H x v vl vu lo hi sl Q I rx hs pl pu h => h pins s σ v vl vu sl I rx hs pl pu
theorem aGG {X : Cx} {r : V -> Option Int -> Option Int -> Hp -> VK -> Prop} (p : L2.SlR X r) {x : V} {lo hi : Option Int} {H : Hp} {Q : VK} (h : r x lo hi H Q) : aKe X x lo hi H Q := fun pins s σ v vl vu sl I rx hs pl pu => p pins s σ H x v vl vu lo hi sl Q I rx hs pl pu h
section
variable {g : Gx} {X : Cx} {Wx : WX} {a : Expr} {lo hi : Option Expr} {ma : M D} {ml mh : Option (M D)} {pos p2 : Pos} {μ : List Addr} {H : Hp}
theorem aEt {ws : List D} {vs : List V} {lo hi : Option Int} (r : RVs g μ H ws vs) : RVs g μ H (pB ws lo hi) (cutV vs lo hi) := by
 unfold pB cutV
 rw [r.length]
 exact (r.drop _).take _
def SP' (g : Gx) (X : Cx) (Wx : WX) (e : Option Expr) (m : Option (M D)) : Prop := ∀ (σw : Sg) (h : Hh) (σ : L2.St) (H : Hp) (μ : List Addr) (Q : Option Int -> Hp -> Prop),RS g μ H σw σ -> RH g μ h H ->
 Po g Wx σ μ H (oN m σw h) (fun o h' μ' H' => Q o H') -> aGT X e σ H Q
theorem aIl : SP' g X Wx none none := fun σw h σ H μ Q rs rh po => aJp po_none (po.at rh)
theorem aIm (ha : SE g X Wx a ma) : SP' g X Wx (some a) (some ma) := by
 intro σw h σ H μ Q rs rh po
 refine aJp (po_some bC) (ha σw h σ H μ _ rs rh (Po.bind (f := fun x h1 => match x with | .int i => .ok (some i) h1 | _ => .bad) po |>.imp fun x h1 μ1 H1 x1 r1 p1 v qv fv => ?_))
 split at p1
 ·exact ⟨_,qv,p1.at r1⟩
 ·exact p1.elim
theorem aLD (hK : X.K = g.K) (ha : SE g X Wx a ma) (hl : SP' g X Wx lo ml) (hh : SP' g X Wx hi mh) : SE g X Wx (.Subscript a (.Slice lo hi none p2) pos) (mSl ma ml mh) := by
 intro σw h σ H μ Q rs rh po
 refine dX (pe_slice aLH bC aHe aHe) ?_
 refine ha σw h σ H μ _ rs rh (po.bind.imp fun x h1 μ1 H1 x1 r1 p1 vx qx fx => ?_)
 refine hl σw h1 σ H1 μ1 _ (rs.ext rh.trk x1) r1 (p1.bind.imp fun l h2 μ2 H2 x2 r2 p2 => ?_)
 refine hh σw h2 σ H2 μ2 _ (rs.ext rh.trk (x1.trans x2)) r2 (p2.bind.imp fun u h3 μ3 H3 x3 r3 p3 => ?_)
 have qx3 := (qx.ext r1.trk x2).ext r2.trk x3
 have x03 := (x1.trans x2).trans x3
 unfold slW at p3
 split at p3
 ·rename_i ws ew
  obtain ⟨a,vs,rfl,s1,z⟩ := jI r3 qx3 ew
  refine aGG sl_list ⟨a,vs,rfl,by rw [hK]; exact s1,fun p np => ?_⟩
  refine p3 μ3 _ (.new r3.trk np) (r3.new np) _ (.newL r3 np (aEt z)) (Fr.back x03 fun c ec => ?_)
  cases ec
  exact np
 ·split at p3
  ·rename_i ws ew
   obtain ⟨a,vs,rfl,s1,z⟩ := fG qx3 ew
   have l := z.length
   refine aGG sl_tupA ⟨a,vs,rfl,by rw [hK]; exact s1,fun hc => ?_,fun hc p np => ?_⟩
   ·rw [l] at hc
    rw [if_pos hc] at p3
    exact p3.at r3 _ qx3 (.of (by cases x <;> first | rfl | cases ew))
   ·rw [l] at hc
    rw [if_neg hc] at p3
    exact p3 μ3 _ (.new r3.trk np) (r3.new np) _ (.newT r3 np (aEt z)) (.of rfl)
  ·split at p3
   ·split at p3
    ·rename_i hl
     exact aGG sl_str ⟨_,qx3,hl,p3.at r3 _ rfl (.of rfl)⟩
    ·exact p3.elim
   ·exact p3.elim
end
end PV
end
section
namespace PV
open PySem PySem.Spec PyProof.Rows L2
def aDq (X : Cx) (f : Value) : List V -> Hp -> VK -> Prop := fun xs H Q => ∀ pins s σ us,Inv X pins σ H s -> Vals xs us -> wpAny (model X.prog X.w) X.A (call f us) (EP X pins σ Q) X.xe s
theorem aGY {X : Cx} {f : Value} : CallR X f (aDq X f) := fun pins s σ H xs us Q I r h => h pins s σ us I r
theorem gD {X : Cx} {f : Value} {r : List V -> Hp -> VK -> Prop} (p : CallR X f r) {xs : List V} {H : Hp} {Q : VK} (h : r xs H Q) : aDq X f xs H Q := fun pins s σ us I rv => p pins s σ H xs us Q I rv h
def SC1 (g : Gx) (X : Cx) (Wx : WX) (f : Value) (m : D -> Hh -> R D) : Prop := ∀ (x : D) (h : Hh) (σ : L2.St) (H : Hp) (μ : List Addr) (vx : V) (Q : VK),RH g μ h H -> RV g μ H x vx ->
 Po g Wx σ μ H (m x h) (fun w h' μ' H' => ∀ v,RV g μ' H' w v -> Fr H w v -> Q v H') -> aDq X f [vx] H Q
def SC2 (g : Gx) (X : Cx) (Wx : WX) (f : Value) (m : D -> D -> Hh -> R D) : Prop := ∀ (x y : D) (h : Hh) (σ : L2.St) (H : Hp) (μ : List Addr) (vx vy : V) (Q : VK),RH g μ h H -> RV g μ H x vx -> RV g μ H y vy ->
 Po g Wx σ μ H (m x y h) (fun w h' μ' H' => ∀ v,RV g μ' H' w v -> Fr H w v -> Q v H') -> aDq X f [vx,vy] H Q
def mF1 (f : D -> Hh -> R D) (a : M D) : M D := fun σ h => (a σ h).bind f
/-- the built-in is a function or a type -/
def pL : Value -> Bool
 | .builtin _ => true
 | .type _ => true
 | _ => false
section
variable {g : Gx} {X : Cx} {Wx : WX} {a b : Expr} {ma mb : M D} {f : D -> Hh -> R D} {f2 : D -> D -> Hh -> R D} {x : Str} {p pos : Pos} {bv : Value}
theorem aBp {e : Expr} {es : List Expr} {t : TA} {r : List V -> Hp -> VK -> Prop} (hb : pL bv = true) (hc : CallR X bv r) (hg : Gl X x) (hm : X.mg x = none) (hv : bootBuiltins x = some bv) (ha : PA X (e :: es) t) (hn : x ≠ "__name__") (hdb : (x == ("__debug__" : Str)) = false)
  (he : starEach (e :: es) X.env = (false,eval e X.env) :: starEach es X.env) (hpl : (backTo pos (starEach es X.env)).any (·.1) = false) : PE X (.Call (.Name x p) (e :: es) [] pos) (tCB r t) := by
 cases bv <;> first | cases hb | skip
 ·exact pe_callTy hc hg hm hv ha hn hdb he hpl
 ·exact pe_callB hc hg hm hv ha hn hdb he hpl
theorem aHm (sc : SC1 g X Wx bv f) (hb : pL bv = true) (hg : Gl X x) (hm : X.mg x = none) (hv : bootBuiltins x = some bv) (hn : x ≠ "__name__") (hdb : (x == ("__debug__" : Str)) = false)
  (he : starEach [a] X.env = [(false,eval a X.env)]) (ha : SE g X Wx a ma) : SE g X Wx (.Call (.Name x p) [a] [] pos) (mF1 f ma) := by
 intro σw h σ H μ Q rs rh po
 refine dX (aBp hb aGY hg hm hv (pa_cons bC pa_nil he) hn hdb he rfl) ?_
 refine ha σw h σ H μ _ rs rh (po.bind.imp fun x h1 μ1 H1 x1 r1 p1 vx qx fx => ?_)
 exact sc x h1 σ H1 μ1 vx Q r1 qx (p1.imp fun w h3 μ3 H3 x3 r3 q3 v qv fv => q3 v qv (fv.back x1))
theorem aLx (sc : SC2 g X Wx bv f2) (hb : pL bv = true) (hg : Gl X x) (hm : X.mg x = none) (hv : bootBuiltins x = some bv) (hn : x ≠ "__name__") (hdb : (x == ("__debug__" : Str)) = false)
  (he : starEach [a,b] X.env = [(false,eval a X.env),(false,eval b X.env)]) (he2 : starEach [b] X.env = [(false,eval b X.env)]) (ha : SE g X Wx a ma) (hb' : SE g X Wx b mb) : SE g X Wx (.Call (.Name x p) [a,b] [] pos) (mOp f2 ma mb) := by
 intro σw h σ H μ Q rs rh po
 refine dX (aBp hb aGY hg hm hv (pa_cons bC (pa_cons bC pa_nil he2) (by rw [he,he2])) hn hdb (by rw [he,he2]) (by rw [he2]; rfl)) ?_
 refine ha σw h σ H μ _ rs rh (po.bind.imp fun x h1 μ1 H1 x1 r1 p1 vx qx fx => ?_)
 refine hb' σw h1 σ H1 μ1 _ (rs.ext rh.trk x1) r1 (p1.bind.imp fun y h2 μ2 H2 x2 r2 p2 vy qy fy => ?_)
 exact sc x y h2 σ H2 μ2 vx vy Q r2 (qx.ext r1.trk x2) qy (p2.imp fun w h3 μ3 H3 x3 r3 q3 v qv fv => q3 v qv (fv.back (x1.trans x2)))
end
def bW (x : D) (h : Hh) : R D := match asL h x with
 | some ws => .ok (.int ws.length) h
 | none => match asT x with
  | some ws => .ok (.int ws.length) h
  | none => match x with
   | .str z => if z.length <= sizeLine then .ok (.int z.length) h else .bad
   | .ref i => match h[i]? with
    | some (.dK kvs) => .ok (.int kvs.length) h
    | some (.dT kvs) => .ok (.int kvs.length) h
    | _ => .bad
   | _ => .bad
def vC (x : D) (h : Hh) : R D := match x with
 | .int i => .ok (.int (if i < 0 then -i else i)) h
 | _ => .bad
def nS (x : D) (h : Hh) : R D := match x with
 | .int i => .ok (.int i) h
 | .bl k => .ok (.int (if k then 1 else 0)) h
 | .str a => match PySem.intText? a with
  | some n => if a.length <= 640 then .ok (.int n) h else .bad
  | none => .bad
 | _ => .bad
def hV (x : D) (h : Hh) : R D := match asL h x with
 | some ws => .ok (.tup ws) h
 | none => match asT x with
  | some _ => .ok x h
  | none => .bad
def jO (x : D) (h : Hh) : R D := match asL h x with
 | some ws => .ok (.tl ws) h
 | none => match asT x with
  | some ws => .ok (.tl ws) h
  | none => match x with
   | .str z => if z.cps.size <= sizeLine then .ok (.tl (z.cps.toList.map fun c => .str ⟨#[c]⟩)) h else .bad
   | _ => .bad
def toB : D -> Option Bool
 | .bl b => some b
 | _ => none
def jD (x : D) (h : Hh) : R D := match asL h x with
 | some ws => match aK toB ws with
  | some bs => .ok (.bl (bs.all id)) h
  | none => .bad
 | none => .bad
def tY (x : D) (h : Hh) : R D := match asL h x with
 | some ws => match aK toI ws with
  | some ns => .ok (.int ns.sum) h
  | none => .bad
 | none => .bad
def xS (x : D) (h : Hh) : R D := match toP h bG x with
 | some d => if d.showable && decide (d.shown.length <= sizeLine) && SeqAt.shaped d then .ok (.str d.shown) h else .bad
 | none => .bad
def vT (x y : D) (h : Hh) : R D := match x,y with
 | .int i, .int j => .ok (.int (if j > i then j else i)) h
 | _,_ => .bad
def vU (x y : D) (h : Hh) : R D := match x,y with
 | .int i, .int j => .ok (.int (if j < i then j else i)) h
 | _,_ => .bad
/-- the built-in type of a value -/
def tyD (h : Hh) : D -> Option String
 | .non => some "NoneType"
 | .bl _ => some "bool"
 | .int _ => some "int"
 | .str _ => some "str"
 | .tup _ => some "tuple"
 | .kt _ => some "tuple"
 | .tl _ => some "list"
 | .fl _ => some "list"
 | .ref i => match h[i]? with
  | some (.lst _) => some "list"
  | some (.dK _) => some "dict"
  | some (.dT _) => some "dict"
  | _ => none
 | _ => none
def aAC (h : Hh) (x : D) (n : String) : Option Bool := match tyD h x with
 | some t => kitB t n
 | none => none
section
variable {g : Gx} {X : Cx} {Wx : WX}
theorem aJU (hK : X.K = g.K) : SC1 g X Wx (.builtin "len") bW := by
 intro x h σ H μ vx Q rh qx po
 unfold bW at po
 split at po
 ·rename_i ws ew
  obtain ⟨a,vs,rfl,s1,z⟩ := jI rh qx ew
  refine gD call_len_seq ⟨a,vs,rfl, .inl (by rw [hK]; exact s1), ?_⟩
  rw [z.length]
  exact po.at rh _ rfl (.of rfl)
 ·split at po
  ·rename_i ws ew
   obtain ⟨a,vs,rfl,s1,z⟩ := fG qx ew
   refine gD call_len_seq ⟨a,vs,rfl, .inr (by rw [hK]; exact s1), ?_⟩
   rw [z.length]
   exact po.at rh _ rfl (.of rfl)
  ·split at po
   ·split at po
    ·rename_i hl
     rw [show vx = .str _ from qx]
     exact gD call_len_str ⟨_,rfl,hl,po.at rh _ rfl (.of rfl)⟩
    ·exact po.elim
   ·rename_i i _ _
    obtain ⟨a,ea,rfl⟩ := qx
    split at po
    ·rename_i kvs e3
     obtain ⟨b,eb,vs,hb,z⟩ := rh.cell i _ e3
     rw [ea] at eb; cases eb
     refine gD call_lenD ⟨a,vs,rfl,hb, ?_⟩
     have el : vs.length = kvs.length := by
      clear po hb e3 ea
      induction kvs generalizing vs with
      | nil => rw [show vs = [] from z]; rfl
      | cons p kvs ih => obtain ⟨v,rr,rfl,_,_,zz⟩ := z; simp [ih rr zz]
     rw [el]
     exact po.at rh _ rfl (.of rfl)
    ·rename_i kvs e3
     obtain ⟨b,eb,vs,hb,z⟩ := rh.cell i _ e3
     rw [ea] at eb; cases eb
     refine gD call_len_dT ⟨a,vs,rfl,hb, ?_⟩
     have el : vs.length = kvs.length := by
      clear po hb e3 ea
      induction kvs generalizing vs with
      | nil => rw [show vs = [] from z]; rfl
      | cons p kvs ih => obtain ⟨v,rr,rfl,_,_,zz⟩ := z; simp [ih rr zz]
     rw [el]
     exact po.at rh _ rfl (.of rfl)
    ·exact po.elim
   ·exact po.elim
theorem aJQ : SC1 g X Wx (.builtin "abs") vC := by
 intro x h σ H μ vx Q rh qx po
 unfold vC at po
 split at po
 ·rw [show vx = .int _ from qx]
  exact gD call_abs ⟨_,rfl,po.at rh _ rfl (.of rfl)⟩
 ·exact po.elim
theorem aJS : SC1 g X Wx (.type "int") nS := by
 intro x h σ H μ vx Q rh qx po
 unfold nS at po
 split at po
 ·rw [show vx = .int _ from qx]
  exact gD call_int1 (.inl ⟨_,rfl,po.at rh _ rfl (.of rfl)⟩)
 ·rw [show vx = .bl _ from qx]
  exact gD call_int1 (.inr ⟨_,rfl,po.at rh _ rfl (.of rfl)⟩)
 ·split at po
  ·rename_i n en
   split at po
   ·rename_i hl
    rw [show vx = .str _ from qx]
    exact gD call_int_str ⟨_,n,rfl,en,hl,po.at rh _ rfl (.of rfl)⟩
   ·exact po.elim
  ·exact po.elim
 ·exact po.elim
theorem aGD (hK : X.K = g.K) : SC1 g X Wx (.type "tuple") hV := by
 intro x h σ H μ vx Q rh qx po
 unfold hV at po
 split at po
 ·rename_i ws ew
  obtain ⟨a,vs,rfl,s1,z⟩ := jI rh qx ew
  exact gD call_tuple_of ⟨a,vs,rfl, .inl ⟨by rw [hK]; exact s1,fun p np => po μ _ (.new rh.trk np) (rh.new np) _ (.newT rh np z) (.of rfl)⟩⟩
 ·split at po
  ·rename_i ws ew
   obtain ⟨a,vs,e1,s1,z⟩ := fG qx ew
   subst e1
   exact gD call_tuple_of ⟨a,vs,rfl, .inr ⟨by rw [hK]; exact s1,po.at rh _ qx (.of (by cases x <;> first | rfl | cases ew))⟩⟩
  ·exact po.elim
theorem aFm {x : Str} {acc : Array Value} {g' : Gx} {μ : List Addr} {H : Hp} : RVs g' μ H (x.cps.toList.map fun c => D.str ⟨#[c]⟩) (x.cps.toList.map fun c => V.str ⟨#[c]⟩) := by
 generalize x.cps.toList = l
 induction l with
 | nil => rfl
 | cons c l ih => exact ⟨_,_,rfl,rfl,rfl,ih⟩
theorem aAp (hc : X.calm = true) : CallR X (.type "list") (fun xs H Q => ∃ z : Str,xs = [.str z] /\ z.cps.size <= sizeLine /\ ∀ p,H p = none -> Q (.ref p) (upd H p (.lst (z.cps.toList.map fun c => .str ⟨#[c]⟩)))) := by
 intro pins s σ H xs us Q I r h
 obtain ⟨z,rfl,hz,q⟩ := h
 obtain ⟨u,rfl,t,rfl⟩ := vals1 r
 refine PySem.call_list_str (hn := hz) (I.ok.hd hc) z t fun h' tk acc c' hk e' hi => ?_
 refine ⟨.ref s.heap.objs.size,upd H s.heap.objs.size (.lst (z.cps.toList.map fun c => .str ⟨#[c]⟩)),I.laid hk (Nat.le_refl _) (show ObjOk X.prog X.w _ _ _ (.lst _) from ⟨?_,acc.toList,c', ?_, ?_⟩),rfl,q _ (I.hok.fresh (Nat.le_refl _))⟩
 ·rw [List.length_map]; simpa using hz
 ·obtain ⟨h1,h2⟩ := hi
  refine vals_of_at (by simp [h1]) fun j x u hx hu => ?_
  obtain ⟨c,t',ec,rfl⟩ := h2 j u (by simpa using hu)
  have hx' : (z.cps.toList[j]?).map (fun c => V.str ⟨#[c]⟩) = some x := by simpa using hx
  have ec' : z.cps.toList[j]? = some c := by simpa using ec
  rw [ec'] at hx'
  cases hx'
  exact ⟨t',rfl⟩
 ·rw [Array.toArray_toList]; exact e'
theorem aIc (hK : X.K = g.K) (hc : X.calm = true) : SC1 g X Wx (.type "list") jO := by
 intro x h σ H μ vx Q rh qx po
 unfold jO at po
 have young : ∀ {ws : List D} {p : Addr},H p = none -> Fr H (.tl ws) (.ref p) := fun np c ec => by cases ec; exact np
 split at po
 ·rename_i ws ew
  obtain ⟨a,vs,rfl,s1,z⟩ := jI rh qx ew
  exact gD call_list_of ⟨a,vs,rfl, .inl (by rw [hK]; exact s1),fun p np => po μ _ (.new rh.trk np) (rh.new np) _ (.newL rh np z) (young np)⟩
 ·split at po
  ·rename_i ws ew
   obtain ⟨a,vs,rfl,s1,z⟩ := fG qx ew
   exact gD call_list_of ⟨a,vs,rfl, .inr (by rw [hK]; exact s1),fun p np => po μ _ (.new rh.trk np) (rh.new np) _ (.newL rh np z) (young np)⟩
  ·split at po
   ·split at po
    ·rename_i z _ _ hz
     rw [show vx = .str _ from qx]
     exact gD (aAp hc) ⟨z,rfl,hz,fun p np => po μ _ (.new rh.trk np) (rh.new np) _ (.newL rh np (aFm (acc := #[]))) (young np)⟩
    ·exact po.elim
   ·exact po.elim
theorem aFu {μ : List Addr} {H : Hp} : ∀ {ws : List D} {bs : List Bool} {vs : List V},aK toB ws = some bs -> RVs g μ H ws vs -> vs = bs.map V.bl
 | [],ks,vs,e,r => by
  unfold aK at e; cases e
  exact r
 | w :: ws,ks,vs,e,r => by
  obtain ⟨v,rr,rfl,_,q,z⟩ := r
  unfold aK at e
  split at e
  ·rename_i a b ea eb
   cases e
   unfold toB at ea
   split at ea
   ·cases ea
    rw [show v = .bl _ from q,aFu eb z]; rfl
   ·cases ea
  ·cases e
theorem aJR (hK : X.K = g.K) (hc : X.calm = true) : SC1 g X Wx (.builtin "all") jD := by
 intro x h σ H μ vx Q rh qx po
 unfold jD at po
 split at po
 ·rename_i ws ew
  obtain ⟨a,vs,rfl,s1,z⟩ := jI rh qx ew
  split at po
  ·rename_i bs eb
   rw [aFu eb z] at s1
   exact gD (cr_all hc) ⟨a,bs,rfl,by rw [hK]; exact s1,po.at rh _ rfl (.of rfl)⟩
  ·exact po.elim
 ·exact po.elim
theorem aJX (hK : X.K = g.K) (hc : X.calm = true) : SC1 g X Wx (.builtin "sum") tY := by
 intro x h σ H μ vx Q rh qx po
 unfold tY at po
 split at po
 ·rename_i ws ew
  obtain ⟨a,vs,rfl,s1,z⟩ := jI rh qx ew
  split at po
  ·rename_i ns en
   rw [xZ en z] at s1
   exact gD (cr_sum hc) ⟨a,ns,rfl,by rw [hK]; exact s1,po.at rh _ rfl (.of rfl)⟩
  ·exact po.elim
 ·exact po.elim
theorem aDn (hg : X.A.guards = some []) (hu : X.A.units + 65 < cLine) : CallR X (.builtin "repr") (fun xs H Q => ∃ v d,xs = [v] /\ Dp X.K H v d /\ SeqAt.shaped d = true /\ d.showable = true /\ d.shown.length <= sizeLine /\ Q (.str d.shown) H) := by
 intro pins s σ H xs us Q I r h
 obtain ⟨v,d,rfl,hd,sd,sh,hz,q⟩ := h
 obtain ⟨u,rfl,rv⟩ := vals1 r
 obtain ⟨as,rd⟩ := Dp.reads I d v u hd rv
 have dp := SeqAt.depth_of_shaped sd
 have nd : d.hasDict = false := PyData.hasDict_of_canLay d (SeqAt.canLay_of_shaped sd)
 cases hd with
 | non => cases rv; exact PySem.P.repr_of_none ⟨.str _,H,I.tok _,⟨_,rfl⟩,q⟩
 | bl b => cases rv; exact PySem.P.repr_of_bool ⟨.str _,H,I.tok _,⟨_,rfl⟩,q⟩
 | int i =>
  obtain ⟨t,rfl⟩ := rv
  exact PySem.P.repr_of_int (of_decide_eq_true sh) ⟨.str _,H,I.tok _,⟨_,rfl⟩,q⟩
 | str x =>
  obtain ⟨t,rfl⟩ := rv
  exact PySem.P.repr_of_str (hsz := hz) ⟨.str _,H,I.tok _,⟨_,rfl⟩,q⟩
 | lst hs ha =>
  cases rv
  exact repr_of_reads' rd sh (PyData.noDict_hsm nd) hg (by omega) (fun _ _ e => e) (fun h' u tk hk => ⟨.str _,H,I.kept (t' := tk) hk,⟨_,rfl⟩,q⟩) hz
 | tup hs ha =>
  cases rv
  exact repr_of_reads' rd sh (PyData.noDict_hsm nd) hg (by omega) (fun _ _ e => e) (fun h' u tk hk => ⟨.str _,H,I.kept (t' := tk) hk,⟨_,rfl⟩,q⟩) hz
theorem aId (hK : X.K = g.K) (hg : X.A.guards = some []) (hu : X.A.units + 65 < cLine) : SC1 g X Wx (.builtin "repr") xS := by
 intro x h σ H μ vx Q rh qx po
 unfold xS at po
 split at po
 ·rename_i d e
  split at po
  ·rename_i hs
   simp only [Bool.and_eq_true,decide_eq_true_eq] at hs
   obtain ⟨⟨h1,h2⟩,h3⟩ := hs
   exact gD (aDn hg hu) ⟨vx,d,rfl,by rw [hK]; exact fY rh _ _ _ _ e qx,h3,h1,h2,po.at rh _ rfl (.of rfl)⟩
  ·exact po.elim
 ·exact po.elim
theorem aJV (hc : X.calm = true) : SC2 g X Wx (.builtin "max") vT := by
 intro x y h σ H μ vx vy Q rh qx qy po
 unfold vT at po
 split at po
 ·rw [show vx = .int _ from qx,show vy = .int _ from qy]
  exact gD (call_max2 hc) ⟨_,_,rfl,po.at rh _ rfl (.of rfl)⟩
 ·exact po.elim
theorem aJW (hc : X.calm = true) : SC2 g X Wx (.builtin "min") vU := by
 intro x y h σ H μ vx vy Q rh qx qy po
 unfold vU at po
 split at po
 ·rw [show vx = .int _ from qx,show vy = .int _ from qy]
  exact gD (call_min2 hc) ⟨_,_,rfl,po.at rh _ rfl (.of rfl)⟩
 ·exact po.elim
theorem aKD {h : Hh} {μ : List Addr} {H : Hp} {x : D} {vx : V} {t : String} (rh : RH g μ h H) (qx : RV g μ H x vx) (e : tyD h x = some t) : TyX g.K H vx (.type t) := by
 unfold tyD at e
 split at e
 ·cases e; rw [show vx = _ from qx]; exact .base .non
 ·cases e; rw [show vx = _ from qx]; exact .base (.bl _)
 ·cases e; rw [show vx = _ from qx]; exact .base (.int _)
 ·cases e; rw [show vx = _ from qx]; exact .base (.str _)
 ·cases e; obtain ⟨a,vs,rfl,q,_⟩ := qx; exact .base (.tup q)
 ·cases e
  obtain ⟨a,vs,rfl,q,_⟩ := qx
  rcases q with (q | ⟨o,q⟩) | ⟨o,its,n,q,c,_⟩
  ·exact .base (.tup q)
  ·exact .fTuple q
  ·exact .kTuple q c
 ·cases e; obtain ⟨a,vs,rfl,q,_⟩ := qx; exact .base (.lst q)
 ·cases e
  obtain ⟨a,vs,rfl,q,_⟩ := qx
  rcases q with ⟨o,q⟩ | ⟨o,its,n,q,c,_⟩
  ·exact .base (.frz q)
  ·exact .kList q c
 ·rename_i i
  obtain ⟨a,ea,rfl⟩ := qx
  split at e
  ·rename_i ws e3
   cases e
   obtain ⟨b,eb,vs,hb,z⟩ := rh.cell i _ e3
   rw [ea] at eb; cases eb
   exact .base (.lst hb)
  ·rename_i ws e3
   cases e
   obtain ⟨b,eb,vs,hb,z⟩ := rh.cell i _ e3
   rw [ea] at eb; cases eb
   exact .base (.dK hb)
  ·rename_i ws e3
   cases e
   obtain ⟨b,eb,vs,hb,z⟩ := rh.cell i _ e3
   rw [ea] at eb; cases eb
   exact .base (.dT hb)
  ·cases e
 ·cases e
end
end PV
end
section
namespace PV
open PySem PySem.Spec PyProof.Rows L2
/-- evaluate,then keep -/
def mSt (m : M D) : M D := fun σ h => (m σ h).bind fun w h1 => .ok (aU w h1).1 (aU w h1).2
theorem aLE {g : Gx} {X : Cx} {Wx : WX} {e : Expr} {m : M D} (he : SE g X Wx e m) : SE g X Wx e (mSt m) := by
 intro σw h σ H μ Q rs rh po
 refine he σw h σ H μ Q rs rh (po.bind2.imp fun w h1 μ1 H1 x1 r1 p1 v qv fv => ?_)
 obtain ⟨μ1',x1',r1',q1',_⟩ := lP r1 qv fv x1
 exact (p1 μ1' H1 x1').at r1' v q1' (.of gX)
def aDK (X : Cx) (id : String) : V -> List V -> Hp -> VK -> Prop := fun x xs H Q => ∀ pins s σ v us,Inv X pins σ H s -> RelV x v -> Vals xs us -> wpAny (model X.prog X.w) X.A (call (.builtin id) (v :: us)) (EP X pins σ Q) X.xe s
theorem aAF {X : Cx} {id : String} : MtR X id (aDK X id) := fun pins s σ H x xs v us Q I rx rs h => h pins s σ v us I rx rs
theorem aGf {X : Cx} {id : String} {r : V -> List V -> Hp -> VK -> Prop} (p : MtR X id r) {x : V} {xs : List V} {H : Hp} {Q : VK} (h : r x xs H Q) : aDK X id x xs H Q := fun pins s σ v us I rx rs => p pins s σ H x xs v us Q I rx rs h
/-- the type whose methods are looked up -/
def tyM (h : Hh) : D -> Option String
 | .str _ => some "str"
 | .tl _ => some "list"
 | .fl _ => some "list"
 | .ref i => match h[i]? with
  | some (.lst _) => some "list"
  | some (.dK _) => some "dict"
  | some (.dT _) => some "dict"
  | _ => none
 | _ => none
theorem aFx {g : Gx} {h : Hh} {μ : List Addr} {H : Hp} {x : D} {vx : V} {t : String} (rh : RH g μ h H) (qx : RV g μ H x vx) (e : tyM h x = some t) : tyV g.K t vx H := by
 unfold tyM at e
 split at e
 ·cases e; rw [show vx = .str _ from qx]; rfl
 ·cases e; obtain ⟨a,vs,rfl,q,_⟩ := qx; exact .inl ⟨rfl,vs, .of q⟩
 ·cases e; obtain ⟨a,vs,rfl,q,_⟩ := qx; exact .inl ⟨rfl,vs,q.sq⟩
 ·rename_i i
  obtain ⟨a,ea,rfl⟩ := qx
  split at e
  ·rename_i ws e3
   cases e
   obtain ⟨b,eb,vs,hb,z⟩ := rh.cell i _ e3
   rw [ea] at eb; cases eb
   exact .inl ⟨rfl,vs, .of hb⟩
  ·rename_i ws e3
   cases e
   obtain ⟨b,eb,vs,hb,z⟩ := rh.cell i _ e3
   rw [ea] at eb; cases eb
   exact .inr (.inr (.inl ⟨rfl, .inl ⟨vs,hb⟩⟩))
  ·rename_i ws e3
   cases e
   obtain ⟨b,eb,vs,hb,z⟩ := rh.cell i _ e3
   rw [ea] at eb; cases eb
   exact .inr (.inr (.inl ⟨rfl, .inr ⟨vs,hb⟩⟩))
  ·cases e
 ·cases e
/-- what the library knows of a method -/
structure MtF (T : String) (name : Str) (id : String) : Prop where
 pa : PlainAttrs T
 slot : Slot T name id
 ty : typeOf (.builtin id) = pure (.type "method_descriptor")
abbrev Op0 := D -> Hh -> R D
abbrev Op1 := D -> D -> Hh -> R D
abbrev Op2 := D -> D -> D -> Hh -> R D
def mM0 (f : String -> Option Op0) (o : M D) : M D := fun σ h => (o σ h).bind fun x h1 => match tyM h1 x with
 | some T => match f T with
  | some op => op x h1
  | none => .bad
 | none => .bad
def mM1 (f : String -> Option Op1) (o a : M D) : M D := fun σ h => (o σ h).bind fun x h1 => match tyM h1 x with
 | some T => match f T with
  | some op => (a σ h1).bind fun y h2 => op x y h2
  | none => .bad
 | none => .bad
def mM2 (f : String -> Option Op2) (o a b : M D) : M D := fun σ h => (o σ h).bind fun x h1 => match tyM h1 x with
 | some T => match f T with
  | some op => (a σ h1).bind fun y h2 => (b σ h2).bind fun z h3 => op x y z h3
  | none => .bad
 | none => .bad
section
variable (g : Gx) (X : Cx) (Wx : WX) (id : String)
def SM1 (op : Op1) : Prop := ∀ (x y : D) (h : Hh) (σ : L2.St) (H : Hp) (μ : List Addr) (vx vy : V) (Q : VK),RH g μ h H -> RV g μ H x vx -> RV g μ H y vy ->
 Po g Wx σ μ H (op x y h) (fun w h' μ' H' => ∀ v,RV g μ' H' w v -> Fr H w v -> Q v H') -> aDK X id vx [vy] H Q
def SM2 (op : Op2) : Prop := ∀ (x y z : D) (h : Hh) (σ : L2.St) (H : Hp) (μ : List Addr) (vx vy vz : V) (Q : VK),RH g μ h H -> RV g μ H x vx -> RV g μ H y vy -> RV g μ H z vz ->
 Po g Wx σ μ H (op x y z h) (fun w h' μ' H' => ∀ v,RV g μ' H' w v -> Fr H w v -> Q v H') -> aDK X id vx [vy,vz] H Q
end
section
variable {g : Gx} {X : Cx} {Wx : WX} {o a b : Expr} {mo ma mb : M D} {name : Str} {apos cpos : Pos} {T0 id0 : String}
theorem aLB {f : String -> Option Op1} (hK : X.K = g.K) (F0 : MtF T0 name id0) (hf : ∀ T op,f T = some op -> ∃ id,MtF T name id /\ SM1 g X Wx id op)
  (hbase : attributeBase o name X.env (eval o X.env) = eval o X.env) (hline : (apos.endLine == cpos.line) = true) (hs : starEach [a] X.env = [(false,eval a X.env)])
  (ho : SE g X Wx o mo) (ha : SE g X Wx a ma) : SE g X Wx (.Call (.Attribute o name apos) [a] [] cpos) (mM1 f mo ma) := by
 intro σw h σ H μ Q rs rh po
 have hfew : ((backTo cpos (starEach [a] X.env)).all (fun x => !x.1) && (backToKw cpos (keywordEach [] X.env)).all (fun x => x.1.isSome)
   && decide ([a].length + ([] : List Keyword).length + (if ([] : List Keyword).isEmpty then 0 else 1) < 30)) = true := by rw [hs]; rfl
 unfold mM1 at po
 cases hx : mo σw h with
 | bad => rw [hx] at po; exact po.elim
 | exc c fs h1 =>
  rw [hx] at po
  refine dX (pe_bm F0.pa F0.slot F0.ty aAF bC (pa_cons bC pa_nil hs) hbase hfew hline hs rfl) (ho σw h σ H μ _ rs rh ?_)
  rw [hx]
  exact po
 | ok x h1 =>
  rw [hx] at po
  rw [R.bind_ok] at po
  split at po
  ·rename_i T eT
   split at po
   ·rename_i op ef
    obtain ⟨id,F,sm⟩ := hf T op ef
    refine dX (pe_bm F.pa F.slot F.ty aAF bC (pa_cons bC pa_nil hs) hbase hfew hline hs rfl) (ho σw h σ H μ _ rs rh ?_)
    rw [hx]
    intro μ1 H1 x1 r1 vx qx fx
    refine ⟨by rw [hK]; exact aFx r1 qx eT, ?_⟩
    refine ha σw h1 σ H1 μ1 _ (rs.ext rh.trk x1) r1 ((po.ext x1).bind.imp fun y h2 μ2 H2 x2 r2 p2 vy qy fy => ?_)
    exact sm x y h2 σ H2 μ2 vx vy Q r2 (qx.ext r1.trk x2) qy (p2.imp fun w h3 μ3 H3 x3 r3 q3 v qv fv => q3 v qv (fv.back (x1.trans x2)))
   ·exact po.elim
  ·exact po.elim
theorem aLC {f : String -> Option Op2} (hK : X.K = g.K) (F0 : MtF T0 name id0) (hf : ∀ T op,f T = some op -> ∃ id,MtF T name id /\ SM2 g X Wx id op)
  (hbase : attributeBase o name X.env (eval o X.env) = eval o X.env) (hline : (apos.endLine == cpos.line) = true) (hs : starEach [a,b] X.env = [(false,eval a X.env),(false,eval b X.env)]) (hs2 : starEach [b] X.env = [(false,eval b X.env)])
  (ho : SE g X Wx o mo) (ha : SE g X Wx a ma) (hb : SE g X Wx b mb) : SE g X Wx (.Call (.Attribute o name apos) [a,b] [] cpos) (mM2 f mo ma mb) := by
 intro σw h σ H μ Q rs rh po
 have hfew : ((backTo cpos (starEach [a,b] X.env)).all (fun x => !x.1) && (backToKw cpos (keywordEach [] X.env)).all (fun x => x.1.isSome)
   && decide ([a,b].length + ([] : List Keyword).length + (if ([] : List Keyword).isEmpty then 0 else 1) < 30)) = true := by rw [hs]; rfl
 have pa := pa_cons (X := X) (e := a) (es := [b]) bC (pa_cons bC pa_nil hs2) (by rw [hs,hs2])
 unfold mM2 at po
 cases hx : mo σw h with
 | bad => rw [hx] at po; exact po.elim
 | exc c fs h1 =>
  rw [hx] at po
  refine dX (pe_bm F0.pa F0.slot F0.ty aAF bC pa hbase hfew hline (by rw [hs,hs2]) (by rw [hs2]; rfl)) (ho σw h σ H μ _ rs rh ?_)
  rw [hx]
  exact po
 | ok x h1 =>
  rw [hx] at po
  rw [R.bind_ok] at po
  split at po
  ·rename_i T eT
   split at po
   ·rename_i op ef
    obtain ⟨id,F,sm⟩ := hf T op ef
    refine dX (pe_bm F.pa F.slot F.ty aAF bC pa hbase hfew hline (by rw [hs,hs2]) (by rw [hs2]; rfl)) (ho σw h σ H μ _ rs rh ?_)
    rw [hx]
    intro μ1 H1 x1 r1 vx qx fx
    refine ⟨by rw [hK]; exact aFx r1 qx eT, ?_⟩
    refine ha σw h1 σ H1 μ1 _ (rs.ext rh.trk x1) r1 ((po.ext x1).bind.imp fun y h2 μ2 H2 x2 r2 p2 vy qy fy => ?_)
    refine hb σw h2 σ H2 μ2 _ (rs.ext rh.trk (x1.trans x2)) r2 (p2.bind.imp fun z h3 μ3 H3 x3 r3 p3 vz qz fz => ?_)
    exact sm x y z h3 σ H3 μ3 vx vy vz Q r3 ((qx.ext r1.trk x2).ext r2.trk x3) (qy.ext r2.trk x3) qz (p3.imp fun w h4 μ4 H4 x4 r4 q4 v qv fv => q4 v qv (fv.back ((x1.trans x2).trans x3)))
   ·exact po.elim
  ·exact po.elim
end
/-- the tracked list at i -/
def fD (h : Hh) : D -> Option (Nat × List D)
 | .ref i => match h[i]? with
  | some (.lst ws) => some (i,ws)
  | _ => none
 | _ => none
def hW : Op1 := fun x y h => match fD h x with
 | some (i,ws) => if ws.length < sizeLine /\ y.isTl = false then .ok .non (h.set i (.lst (ws ++ [y]))) else .bad
 | none => .bad
def lG : Op1 := fun x y h => match fD h x with
 | some (i,ws) => match asM h y with
  | some zs => if ws.length + zs.length <= sizeLine then .ok .non (h.set i (.lst (ws ++ zs))) else .bad
  | none => .bad
 | none => .bad
def lZ : Op1 := fun x y h => match fD h x with
 | some (i,ws) => match y with
  | .int n => if -(2 ^ 63) <= n /\ n < 2 ^ 63 then match seqIndex? n ws.length with
    | some k => match ws[k]? with
     | some z => .ok z (h.set i (.lst (ws.eraseIdx k)))
     | none => .bad
    | none => .bad
   else .bad
  | _ => .bad
 | none => .bad
def toS : D -> Option Str
 | .str x => some x
 | _ => none
section
variable {g : Gx} {X : Cx} {Wx : WX} {μ : List Addr} {h : Hh} {H : Hp}
theorem rO {x : D} {vx : V} {i : Nat} {ws : List D} (rh : RH g μ h H) (qx : RV g μ H x vx) (e : fD h x = some (i,ws)) : ∃ a vs,vx = .ref a /\ μ[i]? = some a /\ H a = some (.lst vs) /\ RVs g μ H ws vs := by
 unfold fD at e
 split at e
 ·rename_i j
  obtain ⟨a,ea,rfl⟩ := qx
  split at e
  ·rename_i ws' e3
   cases e
   obtain ⟨b,eb,vs,hb,z⟩ := rh.cell _ _ e3
   rw [ea] at eb; cases eb
   exact ⟨a,vs,rfl,ea,hb,z⟩
  ·cases e
 ·cases e
theorem wrL {a : Addr} {i : Nat} {ws : List D} {vs : List V} (rh : RH g μ h H) (ea : μ[i]? = some a) (z : RVs g μ H ws vs) : Ext μ H μ (upd H a (.lst vs)) /\ RH g μ (h.set i (.lst ws)) (upd H a (.lst vs)) :=
 ⟨.wr rh.trk ea rfl,rh.wr ea rfl ⟨vs,upd_same,z.ext rh.trk (.wr rh.trk ea rfl)⟩⟩
theorem vS {α β : Type} {f : α -> Option β} : ∀ {l : List α} {r : List β},aK f l = some r -> r.length = l.length
 | [],r,e => by unfold aK at e; cases e; rfl
 | x :: xs,r,e => by
  unfold aK at e
  split at e
  ·rename_i a b ea eb
   cases e
   simp [vS eb]
  ·cases e
theorem aFo : SM1 g X Wx "list.append" hW := by
 intro x y h σ H μ vx vy Q rh qx qy po
 unfold hW at po
 split at po
 ·rename_i i ws e
  split at po
  ·rename_i hl
   obtain ⟨a,vs,rfl,ea,ha,z⟩ := rO rh qx e
   have z2 : RVs g μ H (ws ++ [y]) (vs ++ [vy]) := z.append ⟨vy,[],rfl,hl.2,qy,rfl⟩
   obtain ⟨x1,r1⟩ := wrL rh ea z2
   exact aGf mt_append ⟨a,vs,vy,rfl,rfl,ha,by rw [z.length]; exact hl.1,po μ _ x1 r1 _ rfl (.of rfl)⟩
  ·exact po.elim
 ·exact po.elim
theorem aFp : SM1 g X Wx "list.extend" lG := by
 intro x y h σ H μ vx vy Q rh qx qy po
 unfold lG at po
 split at po
 ·rename_i i ws e
  split at po
  ·rename_i zs ez
   split at po
   ·rename_i hl
    obtain ⟨a,vs,rfl,ea,ha,z⟩ := rO rh qx e
    obtain ⟨b,us,rfl,hb,zb⟩ := tF rh qy ez
    obtain ⟨x1,r1⟩ := wrL rh ea (z.append zb)
    exact aGf mt_extend ⟨a,b,vs,us,rfl,rfl,ha,hb,by rw [z.length,zb.length]; exact hl,po μ _ x1 r1 _ rfl (.of rfl)⟩
   ·exact po.elim
  ·exact po.elim
 ·exact po.elim
theorem RVs.dropLast {ws : List D} {vs : List V} (r : RVs g μ H ws vs) : RVs g μ H ws.dropLast vs.dropLast := by
 rw [List.dropLast_eq_take,List.dropLast_eq_take,r.length]
 exact r.take _
theorem RVs.eraseIdx {ws : List D} {vs : List V} (r : RVs g μ H ws vs) (k : Nat) : RVs g μ H (ws.eraseIdx k) (vs.eraseIdx k) := by
 rw [List.eraseIdx_eq_take_drop_succ,List.eraseIdx_eq_take_drop_succ]
 exact (r.take _).append (r.drop _)
theorem aGI : SM1 g X Wx "list.pop" lZ := by
 intro x y h σ H μ vx vy Q rh qx qy po
 unfold lZ at po
 split at po
 ·rename_i i ws e
  split at po
  ·rename_i n
   split at po
   ·rename_i hn
    split at po
    ·rename_i k ek
     split at po
     ·rename_i w ew
      obtain ⟨a,vs,rfl,ea,ha,z⟩ := rO rh qx e
      obtain ⟨v,ev,nt,qv⟩ := z.get ew
      obtain ⟨x1,r1⟩ := wrL rh ea (z.eraseIdx k)
      rw [show vy = .int n from qy]
      exact aGf mt_popAt ⟨a,vs,n,k,v,rfl,rfl,ha,hn.1,hn.2,by rw [z.length]; exact ek,ev,po μ _ x1 r1 _ (qv.ext rh.trk x1) (.of nt)⟩
     ·exact po.elim
    ·exact po.elim
   ·exact po.elim
  ·exact po.elim
 ·exact po.elim
theorem RVs.strs (ys : List Str) : RVs g μ H (ys.map D.str) (ys.map V.str) := by
 induction ys with
 | nil => rfl
 | cons y ys ih => exact ⟨_,_,rfl,rfl,rfl,ih⟩
end
end PV
end
section
namespace PySem
open Sem (wp)
open AutoSeq1 (wpAny_loadPart')
end PySem
namespace PV
open PySem PySem.Spec PyProof.Rows L2
end PV
end
section
namespace PV
open PySem PySem.Spec PyProof.Rows L2
inductive RT where
 | nx (σ : Sg) (h : Hh) | ret (w : D) (h : Hh) | brk (σ : Sg) (h : Hh) | cont (σ : Sg) (h : Hh)
 | exc (c : Nat) (fs : List (Str × D)) (σ : Sg) (h : Hh) | bad
 deriving Inhabited
abbrev MS := Sg -> Hh -> RT
/-- an expression's result,then a statement's -/
def R.then {α : Type} (r : R α) (σ : Sg) (f : α -> Hh -> RT) : RT := match r with
 | .ok a h => f a h
 | .exc c fs h => .exc c fs σ h
 | .bad => .bad
def RT.seq (r : RT) (f : Sg -> Hh -> RT) : RT := match r with
 | .nx σ h => f σ h
 | r => r
@[simp] theorem R.then_ok {α : Type} (a : α) (h : Hh) (σ : Sg) (f : α -> Hh -> RT) : (R.ok a h).then σ f = f a h := id rfl
@[simp] theorem R.then_exc {α : Type} (c : Nat) (fs : List (Str × D)) (h : Hh) (σ : Sg) (f : α -> Hh -> RT) : (R.exc c fs h : R α).then σ f = .exc c fs σ h := id rfl
@[simp] theorem R.then_bad {α : Type} (σ : Sg) (f : α -> Hh -> RT) : (R.bad : R α).then σ f = .bad := id rfl
@[simp] theorem RT.seq_nx (σ : Sg) (h : Hh) (f : Sg -> Hh -> RT) : (RT.nx σ h).seq f = f σ h := id rfl
@[simp] theorem RT.seq_ret (w : D) (h : Hh) (f : Sg -> Hh -> RT) : (RT.ret w h).seq f = .ret w h := id rfl
@[simp] theorem RT.seq_brk (σ : Sg) (h : Hh) (f : Sg -> Hh -> RT) : (RT.brk σ h).seq f = .brk σ h := id rfl
@[simp] theorem RT.seq_cont (σ : Sg) (h : Hh) (f : Sg -> Hh -> RT) : (RT.cont σ h).seq f = .cont σ h := id rfl
@[simp] theorem RT.seq_exc (c : Nat) (fs : List (Str × D)) (σ : Sg) (h : Hh) (f : Sg -> Hh -> RT) : (RT.exc c fs σ h).seq f = .exc c fs σ h := id rfl
@[simp] theorem RT.seq_bad (f : Sg -> Hh -> RT) : RT.bad.seq f = .bad := id rfl
def PoS (g : Gx) (Wx : WX) (μ : List Addr) (H : Hp) (r : RT) (E : Ends) : Prop := match r with
 | .nx σw h' => ∀ μ' H' σ',Ext μ H μ' H' -> RH g μ' h' H' -> RS g μ' H' σw σ' -> E.nx σ' H'
 | .ret w h' => ∀ μ' H' v,Ext μ H μ' H' -> RH g μ' h' H' -> RV g μ' H' w v -> Fr H w v -> E.rt v H'
 | .brk σw h' => ∀ μ' H' σ',Ext μ H μ' H' -> RH g μ' h' H' -> RS g μ' H' σw σ' -> E.bk σ' H'
 | .cont σw h' => ∀ μ' H' σ',Ext μ H μ' H' -> RH g μ' h' H' -> RS g μ' H' σw σ' -> E.ct σ' H'
 | .exc c fs σw h' => ∀ μ' H' σ' cv d,Ext μ H μ' H' -> RH g μ' h' H' -> RS g μ' H' σw σ' -> XV g μ' H' c fs cv d -> Wx cv d σ' H'
 | .bad => False
section
variable {g : Gx} {Wx : WX} {μ μ' : List Addr} {H H' : Hp} {r : RT} {E E' : Ends}
theorem PoS.ext (p : PoS g Wx μ H r E) (x : Ext μ H μ' H') : PoS g Wx μ' H' r E := by
 cases r with
 | nx σ h => exact fun μ2 H2 σ2 x2 r2 s2 => p μ2 H2 σ2 (x.trans x2) r2 s2
 | ret w h => exact fun μ2 H2 v x2 r2 q2 f2 => p μ2 H2 v (x.trans x2) r2 q2 (f2.back x)
 | brk σ h => exact fun μ2 H2 σ2 x2 r2 s2 => p μ2 H2 σ2 (x.trans x2) r2 s2
 | cont σ h => exact fun μ2 H2 σ2 x2 r2 s2 => p μ2 H2 σ2 (x.trans x2) r2 s2
 | exc c fs σ h => exact fun μ2 H2 σ2 cv d x2 r2 s2 v2 => p μ2 H2 σ2 cv d (x.trans x2) r2 s2 v2
 | bad => exact p
/-- from a statement's wish to an expression's -/
theorem PoS.then {α : Type} {r : R α} {σw : Sg} {σ : L2.St} {h : Hh} {f : α -> Hh -> RT} (rs : RS g μ H σw σ) (rh : RH g μ h H) (p : PoS g Wx μ H (r.then σw f) E) :
  Po g Wx σ μ H r fun a h1 μ1 H1 => ∀ μ2 H2,Ext μ H μ2 H2 -> PoS g Wx μ2 H2 (f a h1) E := by
 cases r with
 | ok a h1 => exact fun _ _ _ _ μ2 H2 x2 => PoS.ext (r := f a h1) p x2
 | exc c fs h1 => exact fun μ2 H2 cv d x2 r2 v2 => p μ2 H2 σ cv d x2 r2 (rs.ext rh.trk x2) v2
 | bad => exact p
theorem PoS.imp (p : PoS g Wx μ H r E) (h1 : ∀ σ H,E.nx σ H -> E'.nx σ H) (h2 : ∀ v H,E.rt v H -> E'.rt v H) (h3 : ∀ σ H,E.bk σ H -> E'.bk σ H) (h4 : ∀ σ H,E.ct σ H -> E'.ct σ H) : PoS g Wx μ H r E' := by
 cases r with
 | nx σ h => exact fun μ2 H2 σ2 x2 r2 s2 => h1 _ _ (p μ2 H2 σ2 x2 r2 s2)
 | ret w h => exact fun μ2 H2 v x2 r2 q2 f2 => h2 _ _ (p μ2 H2 v x2 r2 q2 f2)
 | brk σ h => exact fun μ2 H2 σ2 x2 r2 s2 => h3 _ _ (p μ2 H2 σ2 x2 r2 s2)
 | cont σ h => exact fun μ2 H2 σ2 x2 r2 s2 => h4 _ _ (p μ2 H2 σ2 x2 r2 s2)
 | exc c fs σ h => exact p
 | bad => exact p
end
def aGQ (X : Cx) (st : Stmt) : TS := fun E σ H => ∀ pins s,Inv X pins σ H s -> wpAny (model X.prog X.w) X.A (exec st X.env) (SP X pins E) X.xe s
theorem aHf {X : Cx} {st : Stmt} : PS X st (aGQ X st) := ⟨fun pins s σ H E I h => h pins s I⟩
theorem vX {X : Cx} {st : Stmt} {t : TS} (p : PS X st t) {σ : L2.St} {H : Hp} {E : Ends} (h : t E σ H) : aGQ X st E σ H := fun pins s I => p.run pins s σ H E I h
def aGP (X : Cx) (st : List Stmt) : TS := fun E σ H => ∀ pins s,Inv X pins σ H s -> wpAny (model X.prog X.w) X.A (execs st X.env) (SP X pins E) X.xe s
theorem tP {X : Cx} {st : List Stmt} : PSs X st (aGP X st) := ⟨fun pins s σ H E I h => h pins s I⟩
theorem aDR {X : Cx} {st : List Stmt} {t : TS} (p : PSs X st t) {σ : L2.St} {H : Hp} {E : Ends} (h : t E σ H) : aGP X st E σ H := fun pins s I => p.run pins s σ H E I h
section
variable (g : Gx) (X : Cx) (Wx : WX)
def SS (st : Stmt) (m : MS) : Prop := ∀ (σw : Sg) (h : Hh) (σ : L2.St) (H : Hp) (μ : List Addr) (E : Ends),RS g μ H σw σ -> RH g μ h H -> PoS g Wx μ H (m σw h) E -> aGQ X st E σ H
def SL (st : List Stmt) (m : MS) : Prop := ∀ (σw : Sg) (h : Hh) (σ : L2.St) (H : Hp) (μ : List Addr) (E : Ends),RS g μ H σw σ -> RH g μ h H -> PoS g Wx μ H (m σw h) E -> aGP X st E σ H
end
def cJ : MS := fun σ h => .nx σ h
def aN (a b : MS) : MS := fun σ h => (a σ h).seq b
def iP (m : M D) : MS := fun σ h => (m σ h).then σ fun _ h1 => .nx σ h1
def bA (m : M D) : MS := fun σ h => (m σ h).then σ fun w h1 => .ret w h1
def dD (c : M Bool) (a b : MS) : MS := fun σ h => (c σ h).then σ fun x h1 => if x = true then a σ h1 else b σ h1
section
variable {g : Gx} {X : Cx} {Wx : WX} {st : Stmt} {rest a b : List Stmt} {e : Expr} {m m' : MS} {me : M D} {mc : M Bool} {pos : Pos}
theorem PoS.at {σw : Sg} {σ : L2.St} {h : Hh} {μ : List Addr} {H : Hp} {E : Ends} (p : PoS g Wx μ H (.nx σw h) E) (rh : RH g μ h H) (rs : RS g μ H σw σ) : E.nx σ H := p μ H σ (Ext.refl rh.trk) rh rs
theorem aKf : SL g X Wx [] cJ := fun σw h σ H μ E rs rh po => aDR pss_nil (po.at rh rs)
theorem aIj (h1 : SS g X Wx st m) (h2 : SL g X Wx rest m') : SL g X Wx (st :: rest) (aN m m') := by
 intro σw h σ H μ E rs rh po
 refine aDR (pss_cons aHf tP) (h1 σw h σ H μ _ rs rh ?_)
 unfold aN at po
 cases hx : m σw h with
 | nx σ1 h1 =>
  rw [hx] at po
  intro μ1 H1 σ1' x1 r1 s1
  exact h2 σ1 h1 σ1' H1 μ1 E s1 r1 (PoS.ext (r := m' σ1 h1) po x1)
 | ret w h1 => rw [hx] at po; exact po
 | brk σ1 h1 => rw [hx] at po; exact po
 | cont σ1 h1 => rw [hx] at po; exact po
 | exc c fs σ1 h1 => rw [hx] at po; exact po
 | bad => rw [hx] at po; exact po
theorem aKg (h1 : SS g X Wx st m) : SL g X Wx [st] m := fun σw h σ H μ E rs rh po => aDR (pss_one aHf) (h1 σw h σ H μ E rs rh po)
theorem aIu (he : SE g X Wx e me) (hs : swapsWith e none pos.line X.env = pure false) : SS g X Wx (.Expr e pos) (iP me) := by
 intro σw h σ H μ E rs rh po
 refine vX (ps_expr bC hs) (he σw h σ H μ _ rs rh ((PoS.then rs rh po).imp fun w h1 μ1 H1 x1 r1 p1 v qv fv => ?_))
 exact (p1 μ1 H1 x1).at r1 (rs.ext rh.trk x1)
theorem aKp (he : SE g X Wx e me) : SS g X Wx (.Return (some e) pos) (bA me) := by
 intro σw h σ H μ E rs rh po
 refine vX (ps_ret bC) (he σw h σ H μ _ rs rh ?_)
 unfold bA at po
 cases hx : me σw h with
 | ok w h1 => rw [hx] at po; exact fun μ1 H1 x1 r1 v qv fv => po μ1 H1 v x1 r1 qv fv
 | exc c fs h1 => rw [hx] at po; exact fun μ2 H2 cv d x2 r2 v2 => po μ2 H2 σ cv d x2 r2 (rs.ext rh.trk x2) v2
 | bad => rw [hx] at po; exact po.elim
theorem aLP (hc : ST g X Wx e mc) (ha : SL g X Wx a m) (hb : SL g X Wx b m') : SS g X Wx (.If e a b pos) (dD mc m m') := by
 intro σw h σ H μ E rs rh po
 refine vX (ps_if rW tP tP) (hc σw h σ H μ _ rs rh ((PoS.then rs rh po).imp fun x h1 μ1 H1 x1 r1 p1 => ?_))
 cases x with
 | true => exact ha σw h1 σ H1 μ1 E (rs.ext rh.trk x1) r1 (p1 μ1 H1 x1)
 | false => exact hb σw h1 σ H1 μ1 E (rs.ext rh.trk x1) r1 (p1 μ1 H1 x1)
end
inductive Tg where
 | nm (i : Nat) | tu (ts : List Tg)
 deriving Inhabited
mutual
def Tg.set : Tg -> D -> Sg -> Hh -> Option Sg
 | .nm i,w,σ,_ => some (σ.set i (some w))
 | .tu ts,w,σ,h => match (match asT w with | some ws => some ws | none => asL h w) with
  | some ws => Tg.sets ts ws σ h
  | none => none
def Tg.sets : List Tg -> List D -> Sg -> Hh -> Option Sg
 | [],[],σ,_ => some σ
 | t :: ts,w :: ws,σ,h => match Tg.set t w σ h with
  | some σ1 => Tg.sets ts ws σ1 h
  | none => none
 | _,_,_,_ => none
end
mutual
def Tg.slots : Tg -> List Nat
 | .nm i => [i]
 | .tu ts => Tg.slotss ts
def Tg.slotss : List Tg -> List Nat
 | [] => []
 | t :: ts => Tg.slots t ++ Tg.slotss ts
end
def aEe (X : Cx) (tg : Expr) : TG := fun v σ H Q => ∀ pins s u,Inv X pins σ H s -> RelV v u -> wpAny (model X.prog X.w) X.A (assign tg X.env u) (fun _ s' => ∃ σ' H',Inv X pins σ' H' s' /\ Q σ' H') X.xe s
theorem aDO {X : Cx} {tg : Expr} : PG X tg (aEe X tg) := ⟨fun pins s σ H v u Q I r h => h pins s u I r⟩
theorem aGo {X : Cx} {tg : Expr} {t : TG} (p : PG X tg t) {v : V} {σ : L2.St} {H : Hp} {Q : L2.St -> Hp -> Prop} (h : t v σ H Q) : aEe X tg v σ H Q := fun pins s u I r => p.run pins s σ H v u Q I r h
def aEf (X : Cx) (tg : List Expr) : TGs := fun vs σ H Q => ∀ pins s us,Inv X pins σ H s -> Vals vs us -> wpAny (model X.prog X.w) X.A (assignInOrder ((assignEach tg X.env).map (·.2)) us) (fun _ s' => ∃ σ' H',Inv X pins σ' H' s' /\ Q σ' H') X.xe s
theorem aBq {X : Cx} {tg : List Expr} : PGs X tg (aEf X tg) := ⟨fun pins s σ H vs us Q I r h => h pins s us I r⟩
theorem aHc {X : Cx} {tg : List Expr} {t : TGs} (p : PGs X tg t) {vs : List V} {σ : L2.St} {H : Hp} {Q : L2.St -> Hp -> Prop} (h : t vs σ H Q) : aEf X tg vs σ H Q := fun pins s us I r => p.run pins s σ H vs us Q I r h
/-- a target of names: it sets its own slots and nothing else -/
def SG (g : Gx) (X : Cx) (tg : Expr) (t : Tg) : Prop := ∀ (w : D) (v : V) (σw σw' : Sg) (h : Hh) (σ : L2.St) (H : Hp) (μ : List Addr) (Q : L2.St -> Hp -> Prop),RS g μ H σw σ -> RH g μ h H -> w.isTl = false -> RV g μ H w v ->
 t.set w σw h = some σw' -> (∀ σ',RS g μ H σw' σ' -> (∀ vs : List Nat,(∀ i ∈ t.slots,i ∈ vs) -> wipe σ' vs = wipe σ vs) -> Q σ' H) -> aEe X tg v σ H Q
def SGs (g : Gx) (X : Cx) (tg : List Expr) (ts : List Tg) : Prop := ∀ (ws : List D) (vs : List V) (σw σw' : Sg) (h : Hh) (σ : L2.St) (H : Hp) (μ : List Addr) (Q : L2.St -> Hp -> Prop),RS g μ H σw σ -> RH g μ h H -> RVs g μ H ws vs ->
 Tg.sets ts ws σw h = some σw' -> (∀ σ',RS g μ H σw' σ' -> (∀ vs : List Nat,(∀ i ∈ Tg.slotss ts,i ∈ vs) -> wipe σ' vs = wipe σ vs) -> Q σ' H) -> aEf X tg vs σ H Q
section
variable {g : Gx} {X : Cx} {pos : Pos}
theorem aB8 (σ : L2.St) (i : Nat) (o : Option V) : ∀ vs : List Nat,i ∈ vs -> wipe (σ.set i o) vs = wipe σ vs
 | [],h => by simp at h
 | v :: vs,h => by
  unfold wipe
  by_cases e : i ∈ vs
  ·rw [aB8 σ i o vs e]
  ·have e1 : i = v := by
    rcases List.mem_cons.mp h with z | z
    ·exact z
    ·exact absurd z e
   subst e1
   apply List.ext_getElem?
   intro j
   by_cases hj : i = j
   ·subst hj
    by_cases hl : i < σ.length
    ·rw [List.getElem?_set_self (by rw [wipe_length,List.length_set]; exact hl),List.getElem?_set_self (by rw [wipe_length]; exact hl)]
    ·rw [List.getElem?_eq_none (by rw [List.length_set,wipe_length,List.length_set]; omega),List.getElem?_eq_none (by rw [List.length_set,wipe_length]; omega)]
   ·rw [List.getElem?_set_ne hj,List.getElem?_set_ne hj]
    -- away from i the two are alike
    have key : ∀ vs : List Nat,i ∉ vs -> ∀ j,i ≠ j -> (wipe (σ.set i o) vs)[j]? = (wipe σ vs)[j]? := by
     intro vs
     induction vs with
     | nil => intro _ j hj; exact List.getElem?_set_ne hj
     | cons v vs ih =>
      intro hn j hj
      unfold wipe
      have hn2 : i ∉ vs := fun z => hn (List.mem_cons_of_mem _ z)
      by_cases hv : v = j
      ·subst hv
       by_cases hl : v < σ.length
       ·rw [List.getElem?_set_self (by rw [wipe_length,List.length_set]; exact hl),List.getElem?_set_self (by rw [wipe_length]; exact hl)]
       ·rw [List.getElem?_eq_none (by rw [List.length_set,wipe_length,List.length_set]; omega),List.getElem?_eq_none (by rw [List.length_set,wipe_length]; omega)]
      ·rw [List.getElem?_set_ne hv,List.getElem?_set_ne hv]
       exact ih hn2 j hj
    exact key vs e j hj
theorem aC7 {i : Nat} {x : Str} (hN : X.N.Nodup) (hi : X.N[i]? = some x) (hx : Loc X.env.scope x) (hf : X.fn x = true \/ X.env.scope.names.lookup x = some .local) : SG g X (.Name x pos) (.nm i) := by
 intro w v σw σw' h σ H μ Q rs rh nt q e k
 have e : some (σw.set i (some w)) = some σw' := by simpa [Tg.set] using e
 cases e
 exact aGo (pg_name hN hi hx hf) (k _ (rs.set nt q i) fun vs hv => aB8 _ _ _ _ (hv i (by simp [Tg.slots])))
theorem aIg : SGs g X [] [] := by
 intro ws vs σw σw' h σ H μ Q rs rh q e k
 cases ws with
 | nil =>
  have e : some σw = some σw' := by simpa [Tg.sets] using e
  cases e
  rw [show vs = [] from q]
  exact aHc pgs_nil ⟨rfl,k σ rs fun _ _ => rfl⟩
 | cons _ _ => simp [Tg.sets] at e
theorem aGF {e : Expr} {es : List Expr} {t : Tg} {ts : List Tg} (h1 : SG g X e t) (h2 : SGs g X es ts) (hs : (assignEach (e :: es) X.env).map (·.2) = assign e X.env :: (assignEach es X.env).map (·.2)) : SGs g X (e :: es) (t :: ts) := by
 intro ws vs σw σw' h σ H μ Q rs rh q e' k
 cases ws with
 | nil => simp [Tg.sets] at e'
 | cons w ws =>
  obtain ⟨v,rr,rfl,nt,qv,z⟩ := q
  simp only [Tg.sets] at e'
  split at e'
  ·rename_i σ1 e1
   refine aHc (pgs_cons aDO aBq hs) ⟨v,rr,rfl, ?_⟩
   refine h1 w v σw σ1 h σ H μ _ rs rh nt qv e1 fun σ' rs' w1 => ?_
   refine h2 ws rr σ1 σw' h σ' H μ _ rs' rh z e' fun σ2 rs2 w2 => ?_
   refine k σ2 rs2 fun vs hv => ?_
   rw [w2 vs fun i hi => hv i (by simp [Tg.slotss,hi]),w1 vs fun i hi => hv i (by simp [Tg.slotss,hi])]
  ·cases e'
theorem aKc {es : List Expr} {k : Nat} {ts : List Tg} (hK : X.K = g.K) (hc : X.calm = true) (hs : SGs g X es ts) (hn : (assignEach es X.env).length = ts.length) (hst : (assignEach es X.env).findIdx? (·.1) = none) : SG g X (.Tuple es k pos) (.tu ts) := by
 intro w v σw σw' h σ H μ Q rs rh nt q e kk
 have len : ∀ {ts : List Tg} {ws : List D} {σ σ' : Sg},Tg.sets ts ws σ h = some σ' -> ws.length = ts.length := by
  intro ts
  induction ts with
  | nil => intro ws σ σ' e; cases ws with
   | nil => rfl
   | cons _ _ => simp [Tg.sets] at e
  | cons t ts ih => intro ws σ σ' e; cases ws with
   | nil => simp [Tg.sets] at e
   | cons w ws =>
    simp only [Tg.sets] at e
    split at e
    ·rename_i σ1 e1; simp [ih e]
    ·cases e
 simp only [Tg.set] at e
 split at e
 ·rename_i ws ew
  split at ew
  ·rename_i ws' e1
   cases ew
   obtain ⟨a,vs,rfl,s1,z⟩ := fG q e1
   refine aGo (pg_tup hc aBq hn hst) ⟨a,vs,rfl,by rw [hK]; exact s1,by rw [z.length]; exact len e, ?_⟩
   exact hs _ vs σw σw' h σ H μ Q rs rh z e fun σ' r' w' => kk σ' r' fun us hu => w' us fun i hi => hu i (by simpa [Tg.slots] using hi)
  ·obtain ⟨a,vs,rfl,s1,z⟩ := jI rh q ew
   refine aGo (pg_lst hc aBq hn hst) ⟨a,vs,rfl,by rw [hK]; exact s1,by rw [z.length]; exact len e, ?_⟩
   exact hs _ vs σw σw' h σ H μ Q rs rh z e fun σ' r' w' => kk σ' r' fun us hu => w' us fun i hi => hu i (by simpa [Tg.slots] using hi)
 ·cases e
end
end PV
end
section
namespace PV
open PySem PySem.Spec PyProof.Rows L2
def bI (t : Tg) (m : M D) : MS := fun σ h => (m σ h).then σ fun w h1 => match t.set (aU w h1).1 σ (aU w h1).2 with
 | some σ1 => .nx σ1 (aU w h1).2
 | none => .bad
section
variable {g : Gx} {X : Cx} {Wx : WX} {e tg : Expr} {me : M D} {t : Tg} {pos : Pos}
theorem aFr (he : SE g X Wx e me) (hg : SG g X tg t) (hs : swapsWithSole [tg] e pos.line X.env = pure false) (hw : swappedStores [tg] e X.env = pure none) (h1 : (assignEach [tg] X.env).map (·.2) = [assign tg X.env]) :
  SS g X Wx (.Assign [tg] e pos) (bI t me) := by
 intro σw h σ H μ E rs rh po
 refine vX (ps_asg bC aDO hs hw h1) (he σw h σ H μ _ rs rh ((PoS.then rs rh po).imp fun w h1 μ1 H1 x1 r1 p1 v qv fv => ?_))
 obtain ⟨μ1',x1',r1',q1',_⟩ := lP r1 qv fv x1
 have p2 := p1 μ1' H1 x1'
 split at p2
 ·rename_i σ2 e2
  exact hg _ v σw σ2 _ σ H1 μ1' _ (rs.ext rh.trk x1') r1' gX q1' e2 fun σ' rs' _ => p2.at r1' rs'
 ·exact p2.elim
/-- a,b = x,y with plain local names -/
theorem aKo {i j : Nat} {x y : Str} {a b : Expr} {ma mb : M D} {px py pt : Pos} {kt k2 pt2} (hc : X.calm = true) (hN : X.N.Nodup) (hi : X.N[i]? = some x) (hj : X.N[j]? = some y) (hij : i ≠ j)
  (hx : X.env.scope.names.lookup x = some .local) (hy : X.env.scope.names.lookup y = some .local) (ha : SA g X Wx [a,b] (aA [ma,mb]))
  (hw : swappedStores [.Tuple [.Name x px, .Name y py] kt pt] (.Tuple [a,b] k2 pt2) X.env = pure (some [x,y]))
  (hs : swapsWithSole [.Tuple [.Name x px, .Name y py] kt pt] (.Tuple [a,b] k2 pt2) pos.line X.env = pure false) :
  SS g X Wx (.Assign [.Tuple [.Name x px, .Name y py] kt pt] (.Tuple [a,b] k2 pt2) pos) (bI (.tu [.nm i, .nm j]) (bM (aA [ma,mb]))) := by
 intro σw h σ H μ E rs rh po
 refine vX (ps_par hc hN hi hj hij hx hy aAG hw hs) (ha σw h σ H μ _ rs rh ?_)
 unfold bI bM at po
 cases hx : aA [ma,mb] σw h with
 | bad => rw [hx] at po; exact po.elim
 | exc c fs h1 => rw [hx] at po; exact fun μ2 H2 cv d x2 r2 v2 => po μ2 H2 σ cv d x2 r2 (rs.ext rh.trk x2) v2
 | ok ws h1 =>
  rw [hx] at po
  intro μ1 H1 x1 r1 vs qs
  rw [R.bind_ok] at po
  split at po
  ·rw [R.then_ok] at po
   simp only [aU] at po
   have len : ws.length = 2 := by
    have : ∀ {σw h} ,aA [ma,mb] σw h = .ok ws h1 -> ws.length = 2 := by
     intro σw h e
     simp only [aA] at e
     cases h2 : ma σw h with
     | bad => rw [h2] at e; cases e
     | exc _ _ _ => rw [h2] at e; cases e
     | ok w2 hh2 =>
      rw [h2,R.bind_ok] at e
      cases h3 : mb σw (aU w2 hh2).2 with
      | bad => rw [h3] at e; cases e
      | exc _ _ _ => rw [h3] at e; cases e
      | ok w3 hh3 => rw [h3] at e; simp only [R.bind_ok] at e; cases e; rfl
    exact this hx
   match ws,len,qs with
   | [w1,w2],_,qs =>
    obtain ⟨v1,r1',rfl,n1,q1,v2,r2',rfl,n2,q2,e3⟩ := qs
    rw [show r2' = [] from e3]
    simp only [Tg.set,asT,Tg.sets] at po
    exact ⟨v1,v2,rfl,po μ1 H1 _ x1 r1 (((rs.ext rh.trk x1).set n1 q1 i).set n2 q2 j)⟩
  ·exact po.elim
theorem tM : ∀ {ms : List (M D)} {σw : Sg} {h h1 : Hh} {ws : List D},aA ms σw h = .ok ws h1 -> ws.length = ms.length
 | [],σw,h,h1,ws,e => by simp only [aA] at e; cases e; rfl
 | m :: ms,σw,h,h1,ws,e => by
  simp only [aA] at e
  cases h2 : m σw h with
  | bad => rw [h2] at e; cases e
  | exc _ _ _ => rw [h2] at e; cases e
  | ok w2 hh2 =>
   rw [h2,R.bind_ok] at e
   cases h3 : aA ms σw (aU w2 hh2).2 with
   | bad => rw [h3] at e; cases e
   | exc _ _ _ => rw [h3] at e; cases e
   | ok w3 hh3 =>
    rw [h3] at e
    simp only [R.bind_ok] at e
    cases e
    simp [tM h3]
end
def kB {κ : Type} [DecidableEq κ] (kvs : List (κ × D)) (k : κ) (w : D) : List (κ × D) :=
 if kvs.any (fun kv => decide (kv.1 = k)) then kvs.map (fun kv => if kv.1 = k then (kv.1,w) else kv) else kvs ++ [(k,w)]
def pO (x y w : D) (h : Hh) : Option Hh := match fD h x with
 | some (i,ws) => match y with
  | .int k => match ixN ws.length k with
   | some j => if w.isTl = false then some (h.set i (.lst (ws.set j w))) else none
   | none => none
  | _ => none
 | none => match x with
  | .ref i => match h[i]? with
   | some (.dK kvs) => match toK y with
    | some k => if kvs.length < sizeLine /\ w.isTl = false then some (h.set i (.dK (kB kvs k w))) else none
    | none => none
   | some (.dT kvs) => match y with
    | .tup ks => match aK toK ks with
     | some ks => if kvs.length < sizeLine /\ w.isTl = false then some (h.set i (.dT (kB kvs ks w))) else none
     | none => none
    | _ => none
   | _ => none
  | _ => none
def aBu (X : Cx) : TSet := fun o i v H Q => ∀ pins s σ ov iv u,Inv X pins σ H s -> RelV o ov -> RelV i iv -> RelV v u -> wpAny (model X.prog X.w) X.A (setItem ov iv u) (fun _ s' => ∃ H',Inv X pins σ H' s' /\ Q H') X.xe s
theorem aH1 {X : Cx} : PSet X (aBu X) := fun pins s σ H o i v ov iv u Q I ro ri rv h => h pins s σ ov iv u I ro ri rv
theorem aBt {X : Cx} {t : TSet} (p : PSet X t) {o i v : V} {H : Hp} {Q : Hp -> Prop} (h : t o i v H Q) : aBu X o i v H Q := fun pins s σ ov iv u I ro ri rv => p pins s σ H o i v ov iv u Q I ro ri rv h
section
variable {g : Gx} {X : Cx} {Wx : WX} {μ : List Addr} {h : Hh} {H : Hp}
theorem RKs.any {κ : Type} [DecidableEq κ] {kvs : List (κ × D)} {vs : List (κ × V)} (r : RKs g μ H kvs vs) (k : κ) : kvs.any (fun kv => decide (kv.1 = k)) = vs.any (fun kv => decide (kv.1 = k)) := by
 induction kvs generalizing vs with
 | nil => rw [show vs = [] from r]; rfl
 | cons p kvs ih => obtain ⟨v,rr,rfl,_,_,z⟩ := r; simp [ih z]
theorem RKs.append {κ : Type} {a b : List (κ × D)} {c d : List (κ × V)} (r : RKs g μ H a c) (s : RKs g μ H b d) : RKs g μ H (a ++ b) (c ++ d) := by
 induction a generalizing c with
 | nil => rw [show c = [] from r]; exact s
 | cons p a ih => obtain ⟨v,rr,rfl,n,q,z⟩ := r; exact ⟨v,_,rfl,n,q,ih z⟩
theorem RKs.length {κ : Type} {kvs : List (κ × D)} {vs : List (κ × V)} (r : RKs g μ H kvs vs) : vs.length = kvs.length := by
 induction kvs generalizing vs with
 | nil => rw [show vs = [] from r]; rfl
 | cons p kvs ih => obtain ⟨v,rr,rfl,_,_,z⟩ := r; simp [ih z]
theorem RKs.repl {κ : Type} [DecidableEq κ] (k : κ) {w : D} {v : V} (nt : w.isTl = false) (q : RV g μ H w v) : ∀ {kvs : List (κ × D)} {vs : List (κ × V)},RKs g μ H kvs vs ->
  RKs g μ H (kvs.map fun kv => if kv.1 = k then (kv.1,w) else kv) (vs.map fun kv => if kv.1 = k then (kv.1,v) else kv)
 | [],vs,r => by rw [show vs = [] from r]; rfl
 | p :: kvs,_,r => by
  obtain ⟨v',rr,rfl,n,q',z⟩ := r
  by_cases e : p.1 = k
  ·simp only [List.map_cons,e,if_true]
   exact ⟨v,_,rfl,nt,q,RKs.repl k nt q z⟩
  ·simp only [List.map_cons,e,if_false]
   exact ⟨v',_,rfl,n,q',RKs.repl k nt q z⟩
theorem yU {κ : Type} [DecidableEq κ] {kvs : List (κ × D)} {vs : List (κ × V)} (r : RKs g μ H kvs vs) (k : κ) {w : D} {v : V} (nt : w.isTl = false) (q : RV g μ H w v) : RKs g μ H (kB kvs k w) (putK vs k v) := by
 unfold kB putK
 rw [r.any k]
 split
 ·exact r.repl k nt q
 ·exact r.append ⟨v,[],rfl,nt,q,rfl⟩
theorem RVs.set {ws : List D} {vs : List V} (r : RVs g μ H ws vs) {w : D} {v : V} (nt : w.isTl = false) (q : RV g μ H w v) (j : Nat) : RVs g μ H (ws.set j w) (vs.set j v) := by
 induction ws generalizing vs j with
 | nil => rw [show vs = [] from r]; rfl
 | cons p ws ih =>
  obtain ⟨v',rr,rfl,n,q',z⟩ := r
  cases j with
  | zero => exact ⟨v,rr,rfl,nt,q,z⟩
  | succ j => exact ⟨v',_,rfl,n,q',ih z j⟩
theorem aIf (hu : X.A.units + 1 < cLine) {x y w : D} {vx vy vw : V} {h2 : Hh} {Q : Hp -> Prop} (rh : RH g μ h H) (qx : RV g μ H x vx) (qy : RV g μ H y vy) (qw : RV g μ H w vw) (e : pO x y w h = some h2)
  (k : ∀ H',Ext μ H μ H' -> RH g μ h2 H' -> Q H') : aBu X vx vy vw H Q := by
 unfold pO at e
 split at e
 ·rename_i i ws ew
  split at e
  ·rename_i n
   split at e
   ·rename_i j ej
    split at e
    ·rename_i nt
     cases e
     obtain ⟨a,vs,rfl,ea,ha,z⟩ := rO rh qx ew
     obtain ⟨x1,r1⟩ := wrL rh ea (z.set nt qw j)
     exact aBt set_list ⟨a,vs,n,j,rfl,qy,ha,by rw [z.length]; exact ej,k _ x1 r1⟩
    ·cases e
   ·cases e
  ·cases e
 ·split at e
  ·rename_i i _
   obtain ⟨a,ea,rfl⟩ := qx
   split at e
   ·rename_i kvs e3
    obtain ⟨b,eb,vs,hb,z⟩ := rh.cell i _ e3
    rw [ea] at eb; cases eb
    split at e
    ·rename_i kk ek
     split at e
     ·rename_i hl
      cases e
      have z2 := yU z kk hl.2 qw
      have x1 : Ext μ H μ (upd H a (.dK (putK vs kk vw))) := .wr rh.trk ea rfl
      rw [yA ek qy]
      exact aBt (set_dict hu) ⟨a,_,rfl,DPut.k hb (by rw [z.length]; exact hl.1),k _ x1 (rh.wr ea rfl ⟨_,upd_same,z2.ext rh.trk x1⟩)⟩
     ·cases e
    ·cases e
   ·rename_i kvs e3
    obtain ⟨b,eb,vs,hb,z⟩ := rh.cell i _ e3
    rw [ea] at eb; cases eb
    split at e
    ·rename_i ks
     split at e
     ·rename_i kk ek
      split at e
      ·rename_i hl
       cases e
       obtain ⟨c,us,rfl,hc,zc⟩ := qy
       rw [zL ek zc] at hc
       have z2 := yU z kk hl.2 qw
       have x1 : Ext μ H μ (upd H a (.dT (putK vs kk vw))) := .wr rh.trk ea rfl
       exact aBt (set_dict hu) ⟨a,_,rfl,DPut.t hb hc (by rw [z.length]; exact hl.1),k _ x1 (rh.wr ea rfl ⟨_,upd_same,z2.ext rh.trk x1⟩)⟩
      ·cases e
     ·cases e
    ·cases e
   ·cases e
  ·cases e
variable {e o i : Expr} {me mo mi : M D} {pos tpos : Pos}
def lS (me mo mi : M D) : MS := fun σ h => (mSt me σ h).then σ fun w h1 => (mo σ h1).then σ fun x h2 => (mi σ h2).then σ fun y h3 => match pO x y w h3 with
 | some h4 => .nx σ h4
 | none => .bad
theorem aKq (hu : X.A.units + 1 < cLine) (he : SE g X Wx e me) (ho : SE g X Wx o mo) (hi : SE g X Wx i mi)
  (ha : ∀ v,assign (.Subscript o i tpos) X.env v = (do
   let ov <- holding [v] (eval o X.env)
   let iv <- holding [v,ov] (eval i X.env)
   standAt tpos
   holding [v,ov,iv] (setItem ov iv v)
   release [v,ov,iv] []))
  (hs : swapsWithSole [.Subscript o i tpos] e pos.line X.env = pure false) (hw : swappedStores [.Subscript o i tpos] e X.env = pure none) (h1 : (assignEach [.Subscript o i tpos] X.env).map (·.2) = [assign (.Subscript o i tpos) X.env]) :
  SS g X Wx (.Assign [.Subscript o i tpos] e pos) (lS me mo mi) := by
 intro σw h σ H μ E rs rh po
 refine vX (ps_asg bC (pg_sub bC bC aH1 ha) hs hw h1) ?_
 refine aLE he σw h σ H μ _ rs rh ((PoS.then rs rh po).imp fun w h1 μ1 H1 x1 r1 p1 vw qw fw => ?_)
 have rs1 := rs.ext rh.trk x1
 refine ho σw h1 σ H1 μ1 _ rs1 r1 ((PoS.then rs1 r1 (p1 μ1 H1 x1)).imp fun x h2 μ2 H2 x2 r2 p2 vx qx fx => ?_)
 have rs2 := rs1.ext r1.trk x2
 refine hi σw h2 σ H2 μ2 _ rs2 r2 ((PoS.then rs2 r2 (p2 μ2 H2 x2)).imp fun y h3 μ3 H3 x3 r3 p3 vy qy fy => ?_)
 have p4 := p3 μ3 H3 x3
 split at p4
 ·rename_i h4 e4
  refine aIf hu r3 (qx.ext r2.trk x3) qy ((qw.ext r1.trk x2).ext r2.trk x3) e4 fun H4 x4 r4 => ?_
  exact p4 μ3 H4 σ x4 r4 ((rs2.ext r2.trk x3).ext r3.trk x4)
 ·exact p4.elim
end
def dP : Nat := 16777300
/-- none: not known; some none: it ends -/
abbrev Src := Nat -> Hh -> Option (Option D)
/-- like Ext; what S names may have been written meanwhile -/
structure ExtS (S : Addr -> Prop) (μ : List Addr) (H : Hp) (μ' : List Addr) (H' : Hp) : Prop where
 pre : ∃ e,μ' = μ ++ e /\ ∀ x ∈ e,H x = none
 fr' : ∀ b o,H b = some o -> b ∉ μ -> ¬ S b -> tL o = false -> H' b = some o
 lv : ∀ x ∈ μ,H' x ≠ none
 ls : ∀ x,S x -> H x ≠ none -> H' x ≠ none
 tb : ∀ b ps,H b = some (.tbl ps) -> ¬ S b -> ∃ ps',H' b = some (.tbl ps')
theorem ExtS.fr {S : Addr -> Prop} {μ μ' : List Addr} {H H' : Hp} (x : ExtS S μ H μ' H') (b : Addr) (o : HO) (q : H b = some o) (n : b ∉ μ) (s : ¬ S b) (t : tL o = false := by rfl) : H' b = some o := x.fr' b o q n s t
theorem ExtS.kp {S : Addr -> Prop} {μ μ' : List Addr} {H H' : Hp} (x : ExtS S μ H μ' H') {b : Addr} {o : HO} (q : H b = some o) : H' b ≠ none := by
 by_cases hm : b ∈ μ
 ·exact x.lv b hm
 ·by_cases hs : S b
  ·exact x.ls b hs (by rw [q]; simp)
  ·by_cases ht : tL o = true
   ·obtain ⟨ps,rfl⟩ := aCX ht
    obtain ⟨ps',e⟩ := x.tb b ps q hs
    rw [e]; simp
   ·rw [x.fr' b o q hm hs (by simpa using ht)]; simp
/-- what was in the making at a state -/
def yD (μ : List Addr) (H : Hp) (b : Addr) : Prop := ∃ o,H b = some o /\ fC o = true /\ b ∉ μ
def FrS (S : Addr -> Prop) (w : D) (v : V) : Prop := match w with
 | .tl _ => ∀ a,v = .ref a -> ¬ S a
 | _ => True
section
variable {g : Gx} {S : Addr -> Prop} {μ μ' μ1 μ2 : List Addr} {H H' H1 H2 : Hp} {w : D} {v : V}
theorem Ext.toS (x : Ext μ H μ' H') (hs : ∀ b,S b -> H b ≠ none -> b ∉ μ) : ExtS S μ H μ' H' := ⟨x.pre,fun b o q n _ t => x.fr' b o q n t,x.lv,fun b sb n => by
 cases q : H b with
 | none => exact absurd q n
 | some o => exact x.kp q,fun b ps q _ => x.tb b ps q⟩
theorem ExtS.trans (a : ExtS S μ H μ1 H1) (b : Ext μ1 H1 μ2 H2) (hs : ∀ b,S b -> b ∉ μ1) : ExtS S μ H μ2 H2 := by
 have kp := fun {b : Addr} {o : HO} (q : H b = some o) => a.kp q
 have kb := fun {c : Addr} {o : HO} (q : H1 c = some o) => b.kp q
 obtain ⟨⟨e1,rfl,f1⟩,r1,l1,s1,t1⟩ := a
 obtain ⟨⟨e2,rfl,f2⟩,r2,l2,t2⟩ := b
 refine ⟨⟨e1 ++ e2,by simp,fun x hx => ?_⟩,fun b o q n ns nt => r2 b o (r1 b o q n ns nt) ?_ nt,fun x hx => l2 x (List.mem_append_left _ hx),fun x sx n => ?_,fun b ps e ns => let ⟨ps1,e1⟩ := t1 b ps e ns; t2 b ps1 e1⟩
 ·rcases List.mem_append.mp hx with hx | hx
  ·exact f1 x hx
  ·cases q : H x with
   | none => rfl
   | some o => exact absurd (f2 x hx) (kp q)
 ·intro hm
  rcases List.mem_append.mp hm with hm | hm
  ·exact n hm
  ·rw [f1 b hm] at q; cases q
 ·cases q : H1 x with
  | none => exact absurd q (s1 x sx n)
  | some o => exact kb q
theorem Ext.transS (a : Ext μ H μ1 H1) (b : ExtS S μ1 H1 μ2 H2) (hs : ∀ b,S b -> H b ≠ none -> b ∉ μ) : ExtS S μ H μ2 H2 := by
 have kp := fun {b : Addr} {o : HO} (q : H b = some o) => a.kp q
 obtain ⟨⟨e1,rfl,f1⟩,r1,l1,t1⟩ := a
 obtain ⟨⟨e2,rfl,f2⟩,r2,l2,s2,t2⟩ := b
 refine ⟨⟨e1 ++ e2,by simp,fun x hx => ?_⟩,fun b o q n ns nt => r2 b o (r1 b o q n nt) ?_ ns nt,fun x hx => l2 x (List.mem_append_left _ hx),fun x sx n => s2 x sx ?_,fun b ps e ns => let ⟨ps1,e1⟩ := t1 b ps e; t2 b ps1 e1 ns⟩
 ·rcases List.mem_append.mp hx with hx | hx
  ·exact f1 x hx
  ·cases q : H x with
   | none => rfl
   | some o => exact absurd (f2 x hx) (kp q)
 ·intro hm
  rcases List.mem_append.mp hm with hm | hm
  ·exact n hm
  ·rw [f1 b hm] at q; cases q
 ·cases q : H x with
  | none => exact absurd q n
  | some o => exact kp q
theorem ExtS.upd {a : Addr} {o' : HO} (x : ExtS S μ H μ' H') (sa : S a) : ExtS S μ H μ' (L2.upd H' a o') :=
 ⟨x.pre,fun b u q nb ns nt => by rw [upd_ne (show b ≠ a from fun z => ns (by rw [z]; exact sa))]; exact x.fr' b u q nb ns nt,fun y hy => by
  by_cases hy' : y = a
  ·subst hy'; rw [upd_same]; simp
  ·rw [upd_ne hy']; exact x.lv y hy,fun y sy n => by
  by_cases hy' : y = a
  ·subst hy'; rw [upd_same]; simp
  ·rw [upd_ne hy']; exact x.ls y sy n,fun b ps e ns => by
  rw [upd_ne (show b ≠ a from fun z => ns (by rw [z]; exact sa))]; exact x.tb b ps e ns⟩
theorem ExtS.get (x : ExtS S μ H μ' H') {i : Nat} {a : Addr} (e : μ[i]? = some a) : μ'[i]? = some a := by
 obtain ⟨⟨e1,rfl,_⟩,_,_⟩ := x
 exact yK e
theorem ExtS.notin (x : ExtS S μ H μ' H') {a : Addr} {o : HO} (q : H a = some o) (n : a ∉ μ) : a ∉ μ' := by
 obtain ⟨⟨e1,rfl,f1⟩,_,_⟩ := x
 intro hm
 rcases List.mem_append.mp hm with hm | hm
 ·exact n hm
 ·rw [f1 a hm] at q; cases q
theorem Fr.toS (f : Fr H w v) : FrS (yD μ H) w v := by
 cases w <;> first | exact True.intro | skip
 rintro a e ⟨o,q,_⟩
 have := f a e
 rw [this] at q; cases q
/-- S names what may be written,and nothing tracked -/
structure SOk (S : Addr -> Prop) (μ : List Addr) (H : Hp) : Prop where
 mu : ∀ b,S b -> ∃ o,H b = some o /\ fC o = true
 nin : ∀ b,S b -> b ∉ μ
theorem SOk.of (x : Ext μ H μ' H') : SOk (yD μ H) μ' H' := ⟨fun b ⟨o,q,m,n⟩ => ⟨o,x.fr' b o q n (vO m),m⟩,fun b ⟨o,q,m,n⟩ => x.notin q n⟩
theorem SOk.ext (s : SOk S μ H) (x : Ext μ H μ' H') : SOk S μ' H' := ⟨fun b sb => let ⟨o,q,m⟩ := s.mu b sb; ⟨o,x.fr' b o q (s.nin b sb) (vO m),m⟩,fun b sb => let ⟨o,q,m⟩ := s.mu b sb; x.notin q (s.nin b sb)⟩
end
mutual
theorem RV.extS {g : Gx} {S : Addr -> Prop} {μ μ' : List Addr} {H H' : Hp} (t : Trk μ H) (s : SOk S μ H) (x : ExtS S μ H μ' H') : ∀ {w : D} {v : V},FrS S w v -> RV g μ H w v -> RV g μ' H' w v
 | .non,_,_,r => r
 | .bl _,_,_,r => r
 | .int _,_,_,r => r
 | .str _,_,_,r => r
 | .ty _,_,_,r => r
 | .fn _,_,_,r => r
 | .cls _,_,_,r => r
 | .ref i,_,_,r => by
  obtain ⟨a,e,q⟩ := r
  exact ⟨a,x.get e,q⟩
 | .xc c ks ws,_,_,r => by
  obtain ⟨a,C,d,vs,e,hC,q,hl,hd,z⟩ := r
  refine ⟨a,C,d,vs,e,hC,x.fr _ _ q (fun hm => ?_) (fun hm => ?_),hl, ?_,RVs.extS t s x z⟩
  ·obtain ⟨o,eo,k⟩ := t a hm
   rw [q] at eo; cases eo; cases k
  ·obtain ⟨o,eo,k⟩ := s.mu a hm
   rw [q] at eo; cases eo; cases k
  ·rcases hd with hd | ⟨dx,e1,e2⟩
   ·exact .inl hd
   ·refine .inr ⟨dx,e1,x.fr _ _ e2 (fun hm => ?_) fun hm => ?_⟩
    ·obtain ⟨o,eo,k⟩ := t dx hm
     rw [e2] at eo; cases eo; cases k
    ·obtain ⟨o,eo,k⟩ := s.mu dx hm
     rw [e2] at eo; cases eo; cases k
 | .tup ws,_,_,r => by
  obtain ⟨a,vs,e,q,z⟩ := r
  refine ⟨a,vs,e,x.fr _ _ q (fun hm => ?_) fun hm => ?_,RVs.extS t s x z⟩
  ·obtain ⟨o,eo,k⟩ := t a hm
   rw [q] at eo; cases eo; cases k
  ·obtain ⟨o,eo,k⟩ := s.mu a hm
   rw [q] at eo; cases eo; cases k
 | .kt ws,_,_,r => by
  obtain ⟨a,vs,e,q,z⟩ := r
  refine ⟨a,vs,e, ?_,RVs.extS t s x z⟩
  rcases q with (q | ⟨o,q⟩) | q
  ·refine .inl (.inl (x.fr _ _ q (fun hm => ?_) fun hm => ?_))
   ·obtain ⟨o,eo,k⟩ := t a hm
    rw [q] at eo; cases eo; cases k
   ·obtain ⟨o,eo,k⟩ := s.mu a hm
    rw [q] at eo; cases eo; cases k
  ·refine .inl (.inr ⟨o,x.fr _ _ q (fun hm => ?_) fun hm => ?_⟩)
   ·obtain ⟨o,eo,k⟩ := t a hm
    rw [q] at eo; cases eo; cases k
   ·obtain ⟨o,eo,k⟩ := s.mu a hm
    rw [q] at eo; cases eo; cases k
  ·exact .inr q
 | .fl ws,_,_,r => by
  obtain ⟨a,vs,e,q,z⟩ := r
  refine ⟨a,vs,e, ?_,RVs.extS t s x z⟩
  rcases q with ⟨o,q⟩ | q
  ·refine .inl ⟨o,x.fr _ _ q (fun hm => ?_) fun hm => ?_⟩
   ·obtain ⟨o,eo,k⟩ := t a hm
    rw [q] at eo; cases eo; cases k
   ·obtain ⟨o,eo,k⟩ := s.mu a hm
    rw [q] at eo; cases eo; cases k
  ·exact .inr q
 | .tl ws,_,f,r => by
  obtain ⟨a,vs,e,q,n,z⟩ := r
  exact ⟨a,vs,e,x.fr _ _ q n (f a e),x.notin q n,RVs.extS t s x z⟩
theorem RVs.extS {g : Gx} {S : Addr -> Prop} {μ μ' : List Addr} {H H' : Hp} (t : Trk μ H) (s : SOk S μ H) (x : ExtS S μ H μ' H') : ∀ {ws : List D} {vs : List V},RVs g μ H ws vs -> RVs g μ' H' ws vs
 | [],_,r => r
 | w :: ws,_,r => by
  obtain ⟨v,rr,e,nt,q,z⟩ := r
  exact ⟨v,rr,e,nt,RV.extS t s x (by cases w <;> first | exact True.intro | cases nt) q,RVs.extS t s x z⟩
end
/-- the source may be asked at every later state -/
structure SrcOk (g : Gx) (J : It) (src : Src) (S : Addr -> Prop) (μ : List Addr) (H : Hp) : Prop where
 so : SOk S μ H
 ok : ∀ μ' H' h',ExtS S μ H μ' H' -> RH g μ' h' H' -> ∀ i,match src i h' with
  | none => True
  | some none => J.stop i H'
  | some (some w) => J.go i H' /\ ∀ x H2,J.yld i H' x H2 -> Ext μ' H' μ' H2 /\ RH g μ' h' H2 /\ w.isTl = false /\ RV g μ' H2 w x
theorem SrcOk.ext {g : Gx} {J : It} {src : Src} {S : Addr -> Prop} {μ μ' : List Addr} {H H' : Hp} (s : SrcOk g J src S μ H) (x : Ext μ H μ' H') : SrcOk g J src S μ' H' := ⟨s.so.ext x,fun μ2 H2 h2 x2 r2 i => s.ok μ2 H2 h2 (x.transS x2 fun b sb _ => s.so.nin b sb) r2 i⟩
theorem SrcOk.at {g : Gx} {J : It} {src : Src} {S : Addr -> Prop} {μ : List Addr} {H : Hp} {h : Hh} (s : SrcOk g J src S μ H) (r : RH g μ h H) (i : Nat) : match src i h with
  | none => True
  | some none => J.stop i H
  | some (some w) => J.go i H /\ ∀ x H2,J.yld i H x H2 -> Ext μ H μ H2 /\ RH g μ h H2 /\ w.isTl = false /\ RV g μ H2 w x := s.ok μ H h ((Ext.refl r.trk).toS fun b sb _ => s.so.nin b sb) r i
def zG (X : Cx) (tg iter : Expr) : TI := fun σ H R => ∀ pins s,Inv X pins σ H s -> wpAny (model X.prog X.w) X.A (eval iter X.env) (fun v s1 => wpAny (model X.prog X.w) X.A (pyIter v) (PIE X pins σ tg R) X.xe s1) X.xe s
theorem aDP {X : Cx} {tg iter : Expr} : PI X tg iter (zG X tg iter) := ⟨fun pins s σ H R I h => h pins s I⟩
theorem aBr {X : Cx} {tg iter : Expr} {t : TI} (p : PI X tg iter t) {σ : L2.St} {H : Hp} {R : It -> Hp -> Prop} (h : t σ H R) : zG X tg iter σ H R := fun pins s I => p.run pins s σ H R I h
def SI (g : Gx) (X : Cx) (Wx : WX) (tg iter : Expr) (m : M Src) : Prop := ∀ (σw : Sg) (h : Hh) (σ : L2.St) (H : Hp) (μ : List Addr) (R : It -> Hp -> Prop),RS g μ H σw σ -> RH g μ h H ->
 Po g Wx σ μ H (m σw h) (fun src h' μ' H' => ∀ J,SrcOk g J src (yD μ H) μ' H' -> R J H') -> zG X tg iter σ H R
def kT (src : Src) (t : Tg) (b : MS) : Nat -> Nat -> MS
 | 0,_ => fun _ _ => .bad
 | n + 1,i => fun σ h => match src i h with
  | none => .bad
  | some none => .nx σ h
  | some (some w) => match t.set w σ h with
   | none => .bad
   | some σ1 => match b σ1 h with
    | .nx σ2 h2 => kT src t b n (i + 1) σ2 h2
    | .cont σ2 h2 => kT src t b n (i + 1) σ2 h2
    | .brk σ2 h2 => .nx σ2 h2
    | r => r
def kY (mi : M Src) (t : Tg) (b : MS) : MS := fun σ h => (mi σ h).then σ fun src h1 => kT src t b dP 0 σ h1
section
variable {g : Gx} {X : Cx} {Wx : WX} {tg iter : Expr} {body : List Stmt} {mi : M Src} {t : Tg} {mb : MS} {pos : Pos}
theorem aKn (hp : PassesOwn (model X.prog X.w) X.A X.env X.xe) (hc : X.calm = true) (hi : SI g X Wx tg iter mi) (hg : SG g X tg t) (hb : SL g X Wx body mb) (hs : ∀ x,foldedSetIterable iter X.env x = pure x) :
  SS g X Wx (.For tg iter body [] pos) (kY mi t mb) := by
 intro σw h σ H μ E rs rh po
 refine vX (ps_for hp hc aDP aDO tP hs) (hi σw h σ H μ _ rs rh ((PoS.then rs rh po).imp fun src h1 μ1 H1 x1 r1 p1 J sk => ?_))
 generalize yD μ H = S0 at sk
 refine ⟨fun i m σ H => ∃ σw h μ,RS g μ H σw σ /\ RH g μ h H /\ SrcOk g J src S0 μ H /\ PoS g Wx μ H (kT src t mb m i σw h) E,⟨dP,σw,h1,μ1,rs.ext rh.trk x1,r1,sk,p1 μ1 H1 x1⟩, ?_⟩
 rintro i m σ H ⟨σw,h,μ,rs,rh,sk,po⟩
 cases m with
 | zero => exact po.elim
 | succ n =>
  simp only [kT] at po
  have sk1 := sk.at rh i
  cases e1 : src i h with
  | none => rw [e1] at po; exact po.elim
  | some o =>
   rw [e1] at po sk1
   cases o with
   | none => exact .inl ⟨sk1,po.at rh rs⟩
   | some w =>
    obtain ⟨go,yl⟩ := sk1
    refine .inr ⟨go,fun σ' H' => ∃ σw h μ,RS g μ H' σw σ' /\ RH g μ h H' /\ SrcOk g J src S0 μ H' /\ PoS g Wx μ H' (kT src t mb n (i + 1) σw h) E,fun σ' H' q => ⟨n,Nat.lt_succ_self n,q⟩,fun x H2 y => ?_⟩
    obtain ⟨x2,r2,nt,q2⟩ := yl x H2 y
    simp only at po
    cases e2 : t.set w σw h with
    | none => rw [e2] at po; exact po.elim
    | some σ1 =>
     rw [e2] at po
     simp only at po
     refine hg w x σw σ1 h σ H2 μ _ (rs.ext rh.trk x2) r2 nt q2 e2 fun σ3 rs3 _ => ?_
     refine hb σ1 h σ3 H2 μ _ rs3 r2 ?_
     cases hx : mb σ1 h with
     | nx σ4 h4 => rw [hx] at po; exact fun μ5 H5 σ5 x5 r5 s5 => ⟨σ4,h4,μ5,s5,r5,sk.ext (x2.trans x5),PoS.ext (r := kT src t mb n (i + 1) σ4 h4) po (x2.trans x5)⟩
     | cont σ4 h4 => rw [hx] at po; exact fun μ5 H5 σ5 x5 r5 s5 => ⟨σ4,h4,μ5,s5,r5,sk.ext (x2.trans x5),PoS.ext (r := kT src t mb n (i + 1) σ4 h4) po (x2.trans x5)⟩
     | brk σ4 h4 => rw [hx] at po; exact fun μ5 H5 σ5 x5 r5 s5 => po μ5 H5 σ5 (x2.trans x5) r5 s5
     | ret w4 h4 => rw [hx] at po; exact fun μ5 H5 v x5 r5 q5 f5 => po μ5 H5 v (x2.trans x5) r5 q5 (f5.back x2)
     | exc c fs σ4 h4 => rw [hx] at po; exact fun μ5 H5 σ5 cv d x5 r5 s5 v5 => po μ5 H5 σ5 cv d (x2.trans x5) r5 s5 v5
     | bad => rw [hx] at po; exact po.elim
end
end PV
end
section
namespace PV
open PySem PySem.Spec PyProof.Rows L2
def aB1 (x : D) : Src := fun i h => match asL h x with
 | some ws => some ws[i]?
 | none => none
def zE (ws : List D) : Src := fun i _ => some ws[i]?
def pQ (z : Str) : Src := fun i _ => some ((z.cps.toList[i]?).map fun c => .str ⟨#[c]⟩)
def pP (lo : Int) (n : Nat) : Src := fun i _ => some (if i < n then some (.int (lo + i)) else none)
section
variable {g : Gx} {X : Cx} {Wx : WX} {S : Addr -> Prop} {μ : List Addr} {H : Hp} {h : Hh}
theorem fst {x : D} {v : V} {ws : List D} (e : asT x = some ws) : FrS S x v := by
 cases x <;> first | exact True.intro | cases e
theorem aGL {x : D} {a : Addr} (hv : RV g μ H x (.ref a)) (tr : Trk μ H) (so : SOk S μ H) (fx : FrS S x (.ref a)) : SrcOk g (Itl g.K a) (aB1 x) S μ H := by
 refine ⟨so, ?_⟩
 intro μ' H' h' x1 r1 i
 unfold aB1
 cases e : asL h' x with
 | none => exact True.intro
 | some ws =>
  obtain ⟨b,vs,eb,s1,z⟩ := jI r1 (hv.extS tr so x1 fx) e
  cases eb
  cases e2 : ws[i]? with
  | none => simp only [e2]; exact ⟨vs,s1,by rw [z.length]; exact List.getElem?_eq_none_iff.mp e2⟩
  | some w =>
   simp only [e2]
   obtain ⟨v,ev,nt,q⟩ := z.get e2
   refine ⟨⟨vs,v,s1,ev⟩,fun y H2 yl => ?_⟩
   obtain ⟨rfl,yl⟩ := yl
   have := yl vs s1
   rw [ev] at this; cases this
   exact ⟨.refl r1.trk,r1,nt,q⟩
theorem aIt {x : D} {ws : List D} {a : Addr} (hv : RV g μ H x (.ref a)) (tr : Trk μ H) (so : SOk S μ H) (e : asT x = some ws) : SrcOk g (Itt g.K a) (zE ws) S μ H := by
 refine ⟨so, ?_⟩
 intro μ' H' h' x1 r1 i
 unfold zE
 obtain ⟨b,vs,eb,s1,z⟩ := fG (hv.extS tr so x1 (fst e)) e
 cases eb
 cases e2 : ws[i]? with
 | none => exact ⟨vs,s1,by rw [z.length]; exact List.getElem?_eq_none_iff.mp e2⟩
 | some w =>
  obtain ⟨v,ev,nt,q⟩ := z.get e2
  refine ⟨⟨vs,v,s1,ev⟩,fun y H2 yl => ?_⟩
  obtain ⟨rfl,yl⟩ := yl
  have := yl vs s1
  rw [ev] at this; cases this
  exact ⟨.refl r1.trk,r1,nt,q⟩
theorem aIs (so : SOk S μ H) (z : Str) : SrcOk g (Its z) (pQ z) S μ H := by
 refine ⟨so, ?_⟩
 intro μ' H' h' x1 r1 i
 unfold pQ
 cases e2 : z.cps.toList[i]? with
 | none =>
  have := List.getElem?_eq_none_iff.mp e2
  show z.cps.size <= i
  simpa using this
 | some c =>
  have e3 : z.cps[i]? = some c := by simpa using e2
  refine ⟨?_,fun y H2 yl => ?_⟩
  ·show i < z.cps.size
   have := (List.getElem?_eq_some_iff.mp e2).1
   simpa using this
  ·obtain ⟨rfl,c',ec,rfl⟩ := yl
   rw [e3] at ec; cases ec
   exact ⟨.refl r1.trk,r1,rfl,rfl⟩
theorem aIr (so : SOk S μ H) (lo : Int) (n : Nat) : SrcOk g (Itr lo n) (pP lo n) S μ H := by
 refine ⟨so, ?_⟩
 intro μ' H' h' x1 r1 i
 unfold pP
 by_cases hi : i < n
 ·rw [if_pos hi]
  refine ⟨hi,fun y H2 yl => ?_⟩
  obtain ⟨rfl,rfl⟩ := yl
  exact ⟨.refl r1.trk,r1,rfl,rfl⟩
 ·rw [if_neg hi]
  exact Nat.le_of_not_lt hi
end
/-- what a plain expression is walked as -/
def lD (x : D) (h : Hh) : Option Src := match asT x with
 | some ws => some (zE ws)
 | none => match asL h x with
  | some _ => some (aB1 x)
  | none => match x with
   | .str z => some (pQ z)
   | _ => none
def miE (m : M D) : M Src := fun σ h => (m σ h).bind fun x h1 => match lD x h1 with
 | some s => .ok s h1
 | none => .bad
def iO (m : M D) : M Src := fun σ h => (m σ h).bind fun x h1 => match x with
 | .int j => if -(2 ^ 62) <= j /\ j < 2 ^ 62 then .ok (pP 0 j.toNat) h1 else .bad
 | _ => .bad
section
variable {g : Gx} {X : Cx} {Wx : WX} {tg e e2 : Expr} {me me2 : M D} {p pos tpos : Pos} {elts : List Expr} {kk : Nat}
theorem aNa (hK : X.K = g.K) (he : SE g X Wx e me) : SI g X Wx tg e (miE me) := by
 intro σw h σ H μ Rr rs rh po
 unfold miE at po
 cases hx : me σw h with
 | bad => rw [hx] at po; exact po.elim
 | exc c fs h1 =>
  rw [hx] at po
  refine aBr (pi_list bC) (he σw h σ H μ _ rs rh ?_)
  rw [hx]; exact po
 | ok x h1 =>
  rw [hx,PV.R.bind_ok] at po
  unfold lD at po
  cases e1 : asT x with
  | some ws =>
   rw [e1] at po
   refine aBr (pi_tup bC) (he σw h σ H μ _ rs rh ?_)
   rw [hx]
   intro μ1 H1 x1 r1 v q f
   obtain ⟨a,vs,rfl,s1,z⟩ := fG q e1
   refine ⟨a,rfl,⟨vs,by rw [hK]; exact s1⟩, ?_⟩
   rw [hK]
   exact po μ1 H1 x1 r1 _ (aIt q r1.trk (.of x1) e1)
  | none =>
   rw [e1] at po
   cases e2 : asL h1 x with
   | some ws =>
    simp only [e2] at po
    refine aBr (pi_list bC) (he σw h σ H μ _ rs rh ?_)
    rw [hx]
    intro μ1 H1 x1 r1 v q f
    obtain ⟨a,vs,rfl,s1,z⟩ := jI r1 q e2
    refine ⟨a,rfl,⟨vs,by rw [hK]; exact s1⟩, ?_⟩
    rw [hK]
    exact po μ1 H1 x1 r1 _ (aGL q r1.trk (.of x1) f.toS)
   | none =>
    simp only [e2] at po
    cases x <;> first | exact po.elim | skip
    rename_i z
    refine aBr (pi_str bC) (he σw h σ H μ _ rs rh ?_)
    rw [hx]
    intro μ1 H1 x1 r1 v q f
    exact ⟨z,q,po μ1 H1 x1 r1 _ (aIs (.of x1) z)⟩
theorem aLF (hg : Gl X "range") (hm : X.mg "range" = none) (hs : starEach [e] X.env = [(false,eval e X.env)]) (he : SE g X Wx e me) : SI g X Wx tg (.Call (.Name "range" p) [e] [] pos) (iO me) := by
 intro σw h σ H μ Rr rs rh po
 refine aBr (pi_range1 hg hm (pa_cons bC pa_nil hs) hs) (he σw h σ H μ _ rs rh (po.bind.imp fun x h1 μ1 H1 x1 r1 p1 v q f => ?_))
 split at p1
 ·split at p1
  ·rename_i j hj
   rw [show v = .int j from q]
   exact ⟨j,rfl,hj.1,hj.2,p1.at r1 _ (aIr (.of x1) 0 j.toNat)⟩
  ·exact p1.elim
 ·exact p1.elim
end
end PV
end
section
namespace PV
open PySem PySem.Spec PyProof.Rows L2
section
variable {g : Gx} {μ μ' μ1 : List Addr} {h : Hh} {H H' H1 : Hp} {a : Addr} {o o' : HO}
theorem aIq {b : Addr} {vs : List V} (q : H a = some o) (m : fC o = true) (s : SqT g.K H b vs) : SqT g.K (upd H a o') b vs := by
 rcases s with (s | ⟨ob,s⟩) | s
 ·refine .inl (.inl ?_)
  rw [upd_ne (fun z => by subst z; rw [q] at s; cases s; cases m)]
  exact s
 ·refine .inl (.inr ⟨ob, ?_⟩)
  rw [upd_ne (fun z => by subst z; rw [q] at s; cases s; cases m)]
  exact s
 ·exact .inr s
theorem aIo {b : Addr} {vs : List V} (q : H a = some o) (m : fC o = true) (s : SqF g.K H b vs) : SqF g.K (upd H a o') b vs := by
 rcases s with ⟨ob,s⟩ | s
 ·refine .inl ⟨ob, ?_⟩
  rw [upd_ne (fun z => by subst z; rw [q] at s; cases s; cases m)]
  exact s
 ·exact .inr s
end
mutual
theorem RV.upd {g : Gx} {μ : List Addr} {H : Hp} {a : Addr} {o o' : HO} (q : H a = some o) (m : fC o = true) : ∀ {w : D} {v : V},w.isTl = false -> RV g μ H w v -> RV g μ (L2.upd H a o') w v
 | .non,_,_,r => r
 | .bl _,_,_,r => r
 | .int _,_,_,r => r
 | .str _,_,_,r => r
 | .ty _,_,_,r => r
 | .fn _,_,_,r => r
 | .cls _,_,_,r => r
 | .ref i,_,_,r => r
 | .xc c ks ws,_,_,r => by
  obtain ⟨b,C,d,vs,e,hC,s,hl,hd,z⟩ := r
  refine ⟨b,C,d,vs,e,hC, ?_,hl, ?_,RVs.upd q m z⟩
  ·rw [upd_ne (fun y => by subst y; rw [q] at s; cases s; cases m)]
   exact s
  ·rcases hd with hd | ⟨dx,e1,e2⟩
   ·exact .inl hd
   ·refine .inr ⟨dx,e1, ?_⟩
    rw [upd_ne (fun y => by subst y; rw [q] at e2; cases e2; cases m)]
    exact e2
 | .tup ws,_,_,r => by
  obtain ⟨b,vs,e,s,z⟩ := r
  refine ⟨b,vs,e, ?_,RVs.upd q m z⟩
  rw [upd_ne (fun y => by subst y; rw [q] at s; cases s; cases m)]
  exact s
 | .kt ws,_,_,r => by
  obtain ⟨b,vs,e,s,z⟩ := r
  exact ⟨b,vs,e,aIq q m s,RVs.upd q m z⟩
 | .fl ws,_,_,r => by
  obtain ⟨b,vs,e,s,z⟩ := r
  exact ⟨b,vs,e,aIo q m s,RVs.upd q m z⟩
 | .tl ws,_,n,_ => by cases n
theorem RVs.upd {g : Gx} {μ : List Addr} {H : Hp} {a : Addr} {o o' : HO} (q : H a = some o) (m : fC o = true) : ∀ {ws : List D} {vs : List V},RVs g μ H ws vs -> RVs g μ (L2.upd H a o') ws vs
 | [],_,r => r
 | w :: ws,_,r => by
  obtain ⟨v,rr,e,nt,z,zs⟩ := r
  exact ⟨v,rr,e,nt,RV.upd q m nt z,RVs.upd q m zs⟩
end
section
variable {g : Gx} {μ μ' μ1 : List Addr} {h : Hh} {H H' H1 : Hp} {a : Addr} {o o' : HO}
theorem RKs.upd {κ : Type} (q : H a = some o) (m : fC o = true) : ∀ {ws : List (κ × D)} {vs : List (κ × V)},RKs g μ H ws vs -> RKs g μ (L2.upd H a o') ws vs
 | [],_,r => r
 | w :: ws,_,r => by
  obtain ⟨v,rr,e,nt,z,zs⟩ := r
  exact ⟨v,rr,e,nt,z.upd q m nt,RKs.upd q m zs⟩
theorem RH.upd (r : RH g μ h H) (q : H a = some o) (m : fC o = true) (na : a ∉ μ) : RH g μ h (L2.upd H a o') :=
 ⟨r.len,r.nd,fun i c e => by
  obtain ⟨b,eb,rc⟩ := r.cell i c e
  have nb : b ≠ a := fun z => na (by rw [<- z]; exact gT eb)
  refine ⟨b,eb, ?_⟩
  cases c with
  | lst ws => obtain ⟨vs,e1,z⟩ := rc; exact ⟨vs,(upd_ne nb).trans e1,z.upd q m⟩
  | dK ws => obtain ⟨vs,e1,z⟩ := rc; exact ⟨vs,(upd_ne nb).trans e1,z.upd q m⟩
  | dT ws => obtain ⟨vs,e1,z⟩ := rc; exact ⟨vs,(upd_ne nb).trans e1,z.upd q m⟩
  | ins c fs => obtain ⟨C,dx,vs,k,e1,z⟩ := rc; exact ⟨C,dx,vs,k,(upd_ne nb).trans e1,z.upd q m⟩,aDb ⟨o,q,m⟩ r.tabs⟩
theorem Ext.updN (x : Ext μ1 H1 μ H) (t : Trk μ1 H1) (n : H1 a = none) : Ext μ1 H1 μ (L2.upd H a o') :=
 ⟨x.pre,fun b u q nb nt => by rw [upd_ne (ne_of_none q n)]; exact x.fr' b u q nb nt,fun y hy => by
  rw [upd_ne (t.ne n hy)]; exact x.lv y hy,fun b ps q => by
  rw [upd_ne (ne_of_none q n)]; exact x.tb b ps q⟩
end
/-- a loop over J: each turn by stp,at the end Fin -/
def wM (J : It) (stp : V -> Hp -> (Hp -> Prop) -> Prop) (H : Hp) (Fin : Hp -> Prop) : Prop := ∃ W : Nat -> Nat -> Hp -> Prop,(∃ m,W 0 m H) /\ ∀ i m H,W i m H ->
 (J.stop i H /\ Fin H) \/ (J.go i H /\ ∃ Nx : Hp -> Prop,(∀ H',Nx H' -> ∃ m',m' < m /\ W (i + 1) m' H') /\ ∀ x H',J.yld i H x H' -> stp x H' Nx)
/-- what has been made so far: acc,told by rel; Gr: the ground it stands on -/
structure Gd (g : Gx) {α : Type} (rel : List Addr -> Hp -> α -> HO -> Prop) (Gr : List Addr -> Hp -> Prop) (a : Addr) (μ : List Addr) (h : Hh) (acc : α) (H : Hp) : Prop where
 x : Gr μ H
 r : RH g μ h H
 na : a ∉ μ
 ob : ∃ o,H a = some o /\ fC o = true /\ rel μ H acc o
structure GrOk (Gr : List Addr -> Hp -> Prop) (a : Addr) : Prop where
 ext : ∀ {μ H μ' H'},Gr μ H -> Trk μ H -> Ext μ H μ' H' -> Gr μ' H'
 up : ∀ {μ H o o'},Gr μ H -> H a = some o -> fC o = true -> a ∉ μ -> fC o' = true -> Gr μ (upd H a o')
def PoL (g : Gx) {α : Type} (rel : List Addr -> Hp -> α -> HO -> Prop) (Gr : List Addr -> Hp -> Prop) (a : Addr) (r : R α) (Fin : Hp -> Prop) : Prop := match r with
 | .ok acc h => ∀ μ H,Gd g rel Gr a μ h acc H -> Fin H
 | .exc _ _ _ => False
 | .bad => False
def lcL {α : Type} (src : Src) (t : Tg) (body : α -> Sg -> Hh -> R α) (σ0 : Sg) : Nat -> Nat -> α -> Hh -> R α
 | 0,_,_,_ => .bad
 | n + 1,i,acc,h => match src i h with
  | none => .bad
  | some none => .ok acc h
  | some (some w) => match t.set w σ0 h with
   | none => .bad
   | some σ1 => (body acc σ1 h).bind fun acc' h' => lcL src t body σ0 n (i + 1) acc' h'
/-- an exception out of a comprehension is not known here -/
def noX {α : Type} (r : R α) : R α := match r with
 | .exc _ _ _ => .bad
 | r => r
theorem aG4 {μ1 : List Addr} {H1 : Hp} {a : Addr} (tr : Trk μ1 H1) (nw : H1 a = none) : GrOk (Ext μ1 H1) a := ⟨fun x _ y => x.trans y,fun x _ _ _ _ => x.updN tr nw⟩
section
variable {g : Gx} {α : Type} {rel : List Addr -> Hp -> α -> HO -> Prop} {Gr Gr' : List Addr -> Hp -> Prop} {a : Addr} {J : It} {src : Src} {t : Tg} {body : α -> Sg -> Hh -> R α} {σ0 : Sg} {stp : V -> Hp -> (Hp -> Prop) -> Prop} {Fin : Hp -> Prop}
theorem PoL.bind {r : R α} {f : α -> Hh -> R α} (p : PoL g rel Gr a (r.bind f) Fin) : PoL g rel Gr a r fun H => ∃ acc h μ,Gd g rel Gr a μ h acc H /\ PoL g rel Gr a (f acc h) Fin := by
 cases r with
 | ok acc h => exact fun μ H G => ⟨acc,h,μ,G,p⟩
 | exc _ _ _ => exact p
 | bad => exact p
theorem Gd.sub {μ : List Addr} {h : Hh} {acc : α} {H : Hp} (G : Gd g rel Gr a μ h acc H) (s : Gr μ H -> Gr' μ H) : Gd g rel Gr' a μ h acc H := ⟨s G.x,G.r,G.na,G.ob⟩
theorem PoL.sub {r : R α} (p : PoL g rel Gr a r Fin) (s : ∀ {μ H},Gr' μ H -> Gr μ H) : PoL g rel Gr' a r Fin := by
 cases r with
 | ok acc h => exact fun μ H G => p μ H (G.sub s)
 | exc _ _ _ => exact p
 | bad => exact p
theorem Gd.ext {μ μ' : List Addr} {h h' : Hh} {acc : α} {H H' : Hp} (go : GrOk Gr a) (mono : ∀ {μ μ' H H' acc o},Trk μ H -> Ext μ H μ' H' -> rel μ H acc o -> rel μ' H' acc o)
  (G : Gd g rel Gr a μ h acc H) (x : Ext μ H μ' H') (r : RH g μ' h' H') : Gd g rel Gr a μ' h' acc H' := by
 obtain ⟨o,eo,mo,ro⟩ := G.ob
 exact ⟨go.ext G.x G.r.trk x,r,x.notin eo G.na,o,x.fr' a o eo G.na (vO mo),mo,mono G.r.trk x ro⟩
theorem yM (go : GrOk Gr a) (mono : ∀ {μ μ' H H' acc o},Trk μ H -> Ext μ H μ' H' -> rel μ H acc o -> rel μ' H' acc o)
  (sk : ∀ μ H h,Gr μ H -> RH g μ h H -> ∀ i,match src i h with
   | none => True
   | some none => J.stop i H
   | some (some w) => J.go i H /\ ∀ x H2,J.yld i H x H2 -> Ext μ H μ H2 /\ RH g μ h H2 /\ w.isTl = false /\ RV g μ H2 w x)
  (step : ∀ (w : D) (x : V) (acc : α) (h : Hh) (μ : List Addr) (H : Hp) (σ1 : Sg) (Nx : Hp -> Prop),Gd g rel Gr a μ h acc H -> w.isTl = false -> RV g μ H w x -> t.set w σ0 h = some σ1 -> PoL g rel Gr a (body acc σ1 h) Nx -> stp x H Nx)
  {n : Nat} {acc : α} {h : Hh} {μ : List Addr} {H : Hp} (G : Gd g rel Gr a μ h acc H) (po : PoL g rel Gr a (lcL src t body σ0 n 0 acc h) Fin) : wM J stp H Fin := by
 refine ⟨fun i m H => ∃ acc h μ,Gd g rel Gr a μ h acc H /\ PoL g rel Gr a (lcL src t body σ0 m i acc h) Fin,⟨n,acc,h,μ,G,po⟩, ?_⟩
 rintro i m H ⟨acc,h,μ,G,po⟩
 cases m with
 | zero => exact po.elim
 | succ n =>
  simp only [lcL] at po
  have sk1 := sk μ H h G.x G.r i
  cases e1 : src i h with
  | none => rw [e1] at po; exact po.elim
  | some ow =>
   rw [e1] at po sk1
   cases ow with
   | none => exact .inl ⟨sk1,po μ H G⟩
   | some w =>
    obtain ⟨go1,yl⟩ := sk1
    refine .inr ⟨go1,fun H' => ∃ acc h μ,Gd g rel Gr a μ h acc H' /\ PoL g rel Gr a (lcL src t body σ0 n (i + 1) acc h) Fin,fun H' q => ⟨n,Nat.lt_succ_self n,q⟩,fun x H2 y => ?_⟩
    obtain ⟨x2,r2,nt,q2⟩ := yl x H2 y
    simp only at po
    cases e2 : t.set w σ0 h with
    | none => rw [e2] at po; exact po.elim
    | some σ1 =>
     rw [e2] at po
     exact step w x acc h μ H2 σ1 _ (G.ext go mono x2 r2) nt q2 e2 (PoL.bind (f := fun acc' h' => lcL src t body σ0 n (i + 1) acc' h') po)
theorem lK {α : Type} {r : R α} {c : Nat} {fs : List (Str × D)} {h : Hh} : noX r ≠ .exc c fs h := by
 cases r <;> intro z <;> cases z
theorem bind_exc {α β : Type} {r : R α} {f : α -> Hh -> R β} {c : Nat} {fs : List (Str × D)} {h : Hh} (e : r.bind f = .exc c fs h) : r = .exc c fs h \/ ∃ a h',r = .ok a h' /\ f a h' = .exc c fs h := by
 cases r with
 | ok a h' => exact .inr ⟨a,h',rfl,e⟩
 | exc c' fs' h' => refine .inl ?_; cases e; rfl
 | bad => cases e
theorem uN {α : Type} {src : Src} {t : Tg} {body : α -> Sg -> Hh -> R α} {σ0 : Sg} (hb : ∀ acc σ h c fs h',body acc σ h ≠ .exc c fs h') {c : Nat} {fs : List (Str × D)} {h' : Hh} : ∀ (n i : Nat) (acc : α) (h : Hh),lcL src t body σ0 n i acc h ≠ .exc c fs h'
 | 0,i,acc,h => fun z => by cases z
 | n + 1,i,acc,h => fun z => by
  simp only [lcL] at z
  split at z
  ·cases z
  ·cases z
  ·split at z
   ·cases z
   ·rcases bind_exc z with z | ⟨a,h2,_,z⟩
    ·exact hb _ _ _ _ _ _ z
    ·exact uN hb n (i + 1) a h2 z
end
def cG (σ : Sg) : List Nat -> Sg
 | [] => σ
 | v :: vs => (cG σ vs).set v none
theorem RS.wipe {g : Gx} {μ : List Addr} {H : Hp} {σw : Sg} {σ : L2.St} (r : RS g μ H σw σ) : ∀ vs : List Nat,RS g μ H (cG σw vs) (L2.wipe σ vs)
 | [] => r
 | v :: vs => by
  have ih := RS.wipe r vs
  refine ⟨by unfold cG L2.wipe; rw [List.length_set,List.length_set]; exact ih.1,fun i w e => ?_⟩
  unfold cG at e
  unfold L2.wipe
  by_cases hv : v = i
  ·subst hv
   by_cases hl : v < (cG σw vs).length
   ·rw [List.getElem?_set_self hl] at e; cases e
   ·rw [List.getElem?_eq_none (by simpa using hl)] at e; cases e
  ·rw [List.getElem?_set_ne hv] at e ⊢
   exact ih.2 i w e
theorem uH (σ : L2.St) (vs : List Nat) : wipe (wipe σ vs) vs = wipe σ vs := by
 have key : ∀ (us : List Nat) (τ : L2.St),(∀ i ∈ us,i < τ.length -> τ[i]? = some none) -> wipe τ us = τ := by
  intro us
  induction us with
  | nil => intro τ _; rfl
  | cons v us ih =>
   intro τ hz
   unfold wipe
   rw [ih τ fun i hi hl => hz i (List.mem_cons_of_mem _ hi) hl]
   by_cases hv : v < τ.length
   ·have e := hz v (by simp) hv
    apply List.ext_getElem?
    intro j
    by_cases hj : v = j
    ·subst hj
     rw [List.getElem?_set_self hv,e]
    ·rw [List.getElem?_set_ne hj]
   ·rw [List.set_eq_of_length_le (by omega)]
 refine key vs (wipe σ vs) fun i hi hl => ?_
 cases q : (wipe σ vs)[i]? with
 | none => rw [List.getElem?_eq_none_iff] at q; omega
 | some o =>
  cases o with
  | none => rfl
  | some v => exact absurd hi (wipe_some q).2
abbrev pM (g : Gx) : List Addr -> Hp -> List D -> HO -> Prop := fun μ H acc o => ∃ vs,o = .lst vs /\ RVs g μ H acc vs
def kP (mt : M Bool) (me : M D) : List D -> Sg -> Hh -> R (List D) := fun acc σ h => (noX (mt σ h)).bind fun b h2 => if b = true then
  (noX (me σ h2)).bind fun y h3 => if acc.length < sizeLine then .ok (acc ++ [(aU y h3).1]) (aU y h3).2 else .bad
 else .ok acc h2
def mLc (mi : M Src) (t : Tg) (mt : M Bool) (me : M D) (vs : List Nat) : M D := fun σ h => (mi σ h).bind fun src h1 => (lcL src t (kP mt me) (cG σ vs) dP 0 [] h1).bind fun acc h2 => .ok (.tl acc) h2
/-- no exception is wanted -/
abbrev WF : WX := fun _ _ _ _ => False
section
variable {g : Gx} {X : Cx} {Wx : WX} {elt tg iter tg1 iter1 : Expr} {ifs ifs1 : List Expr} {scope : Scope} {own : List (Str × Nat)} {pos : Pos} {mi mi1 : M Src} {t t1 : Tg} {mt mt1 : M Bool} {me : M D}
/-- in every block that the comprehension may run in -/
abbrev BX (X : Cx) (scope : Scope) (s : Shared) (H : Hp) (C : Addr) (cl : List (Str × Addr)) (fp : List Addr) : Cx := X.blk s H scope (compEnvC scope cl C X.env) fp
def tB1 (X : Cx) (scope : Scope) (e : Expr) : TE := fun σ H Q => ∀ s0 H0 C cl fp,tOf (BX X scope s0 H0 C cl fp) e σ H Q
def tBG (X : Cx) (scope : Scope) (e : Expr) : TG := fun v σ H Q => ∀ s0 H0 C cl fp,aEe (BX X scope s0 H0 C cl fp) e v σ H Q
def SB (g : Gx) (X : Cx) (scope : Scope) (e : Expr) (m : M D) : Prop := ∀ s0 H0 C cl fp,SE g (BX X scope s0 H0 C cl fp) WF e m
def SBT (g : Gx) (X : Cx) (scope : Scope) (e : Expr) (m : M Bool) : Prop := ∀ s0 H0 C cl fp,ST g (BX X scope s0 H0 C cl fp) WF e m
def SBI (g : Gx) (X : Cx) (scope : Scope) (tg e : Expr) (m : M Src) : Prop := ∀ s0 H0 C cl fp,SI g (BX X scope s0 H0 C cl fp) WF tg e m
def SBG (g : Gx) (X : Cx) (scope : Scope) (e : Expr) (t : Tg) : Prop := ∀ s0 H0 C cl fp,SG g (BX X scope s0 H0 C cl fp) e t
def tBT (X : Cx) (scope : Scope) (e : Expr) : TT := fun σ H Q => ∀ s0 H0 C cl fp,aEh (BX X scope s0 H0 C cl fp) e σ H Q
def tBI (X : Cx) (scope : Scope) (tg e : Expr) : TI := fun σ H R => ∀ s0 H0 C cl fp,zG (BX X scope s0 H0 C cl fp) tg e σ H R
/-- from a loop's wish to an expression's,within a block -/
theorem PoL.po {α β : Type} {rel : List Addr -> Hp -> β -> HO -> Prop} {Gr : List Addr -> Hp -> Prop} {μ : List Addr} {H : Hp} {a : Addr} {σ : L2.St} {acc : β} {h : Hh} {r : R α} {f : α -> Hh -> R β} {Nx : Hp -> Prop} (go : GrOk Gr a)
  (mono : ∀ {μ μ' H H' acc o},Trk μ H -> Ext μ H μ' H' -> rel μ H acc o -> rel μ' H' acc o) (G : Gd g rel Gr a μ h acc H) (p : PoL g rel Gr a ((noX r).bind f) Nx) :
  Po g WF σ μ H r fun x h1 μ1' H1' => (∀ μ2 H2,Ext μ H μ2 H2 -> RH g μ2 h1 H2 -> Gd g rel Gr a μ2 h1 acc H2) /\ PoL g rel Gr a (f x h1) Nx := by
 cases r with
 | ok x h1 => exact fun μ2 H2 x2 r2 => ⟨fun μ3 H3 x3 r3 => G.ext go mono x3 r3,p⟩
 | exc c fs h1 => exact p.elim
 | bad => exact p.elim
theorem oR {μ μ' : List Addr} {H H' : Hp} {acc : List D} {o : HO} (tr : Trk μ H) (x : Ext μ H μ' H') (r : pM g μ H acc o) : pM g μ' H' acc o := by
 obtain ⟨vs,e,z⟩ := r
 exact ⟨vs,e,z.ext tr x⟩
/-- the tests of a clause: none or one -/
inductive STs (g : Gx) (X : Cx) (scope : Scope) : List Expr -> M Bool -> Prop
 | nil : STs g X scope [] (fun _ h => .ok true h)
 | one {c : Expr} {m : M Bool} (hc : SBT g X scope c m) : STs g X scope [c] m
def tTs (X : Cx) (scope : Scope) : List Expr -> TT
 | [c] => tBT X scope c
 | _ => tYes
theorem yS {m : M Bool} (h : STs g X scope ifs m) (s0 : Shared) (H0 : Hp) (C : Addr) (cl : List (Str × Addr)) (fp : List Addr) : PTs (BX X scope s0 H0 C cl fp) ifs (tTs X scope ifs) := by
 cases h with
 | nil => exact pts_nil
 | one hc => exact pts_one ⟨fun pins s σ H Q I hq => hq s0 H0 C cl fp pins s I⟩
theorem wL {m : M Bool} (h : STs g X scope ifs m) {σw : Sg} {hh : Hh} {σ : L2.St} {H : Hp} {μ : List Addr} {Q : Bool -> Hp -> Prop} (rs : RS g μ H σw σ) (rh : RH g μ hh H) (p : Po g WF σ μ H (m σw hh) (fun b h' μ' H' => Q b H')) : tTs X scope ifs σ H Q := by
 cases h with
 | nil => exact p.at rh
 | one hc => exact fun s0 H0 C cl fp => hc s0 H0 C cl fp σw hh σ H μ Q rs rh p
theorem aEq {acc : List D} {σ : Sg} {h : Hh} {c : Nat} {fs : List (Str × D)} {h' : Hh} : kP mt me acc σ h ≠ .exc c fs h' := fun z => by
 unfold kP at z
 rcases bind_exc z with z | ⟨b,h2,_,z⟩
 ·exact lK z
 ·split at z
  ·rcases bind_exc z with z | ⟨y,h3,_,z⟩
   ·exact lK z
   ·split at z <;> cases z
  ·cases z
/-- one turn's end: the test,the element -/
theorem aLX {Gr : List Addr -> Hp -> Prop} {μ : List Addr} {H : Hp} {a : Addr} {acc : List D} {h : Hh} {σw : Sg} {σ : L2.St} {Nx : Hp -> Prop} (go : GrOk Gr a) (hts : STs g X scope ifs mt) (he : SB g X scope elt me)
  (G : Gd g (pM g) Gr a μ h acc H) (rs : RS g μ H σw σ) (p : PoL g (pM g) Gr a (kP mt me acc σw h) Nx) :
  tTs X scope ifs σ H fun b H3 => if b = true then tB1 X scope elt σ H3 fun y H4 => ∃ acc,H4 a = some (.lst acc) /\ acc.length < sizeLine /\ Nx (upd H4 a (.lst (acc ++ [y]))) else Nx H3 := by
 refine wL hts rs G.r ((PoL.po (rel := pM g) go oR G p).imp fun b h2 μ2 H2 x2 r2 q2 => ?_)
 obtain ⟨G2,p2⟩ := q2
 have G2 := G2 μ2 H2 x2 r2
 cases b with
 | false => exact p2 μ2 H2 G2
 | true =>
  simp only [if_true] at p2 ⊢
  intro s0 H0 C cl fp
  refine he s0 H0 C cl fp σw h2 σ H2 μ2 _ (rs.ext G.r.trk x2) r2 ((PoL.po (rel := pM g) go oR G2 p2).imp fun y h3 μ3 H3 x3 r3 q3 v qv fv => ?_)
  obtain ⟨G3,p3⟩ := q3
  obtain ⟨μ3',x3',r3',qv',_⟩ := lP r3 qv fv x3
  have G4 : Gd g (pM g) Gr a μ3' (aU y h3).2 acc H3 := G2.ext go oR x3' r3'
  obtain ⟨x4,r4,na4,o,eo,mo,vs,rfl,z⟩ := G4
  split at p3
  ·rename_i hl
   refine ⟨vs,eo,by rw [z.length]; exact hl,p3 μ3' _ ⟨go.up x4 eo rfl na4 rfl,r4.upd eo rfl na4,na4,_,upd_same,rfl,vs ++ [v],rfl, ?_⟩⟩
   exact RVs.append (z.upd eo rfl) ⟨v,[],rfl,gX,qv'.upd eo rfl gX,rfl⟩
  ·exact p3.elim
theorem aJd {Wx : WX} {μ0 μ1 : List Addr} {H0 H1 : Hp} {D : Addr} {r : R (List PV.D)} {σ : L2.St} {Q : VK} (nx : ∀ c fs h,r ≠ .exc c fs h) (x1 : Ext μ0 H0 μ1 H1) (nD : H1 D = none)
  (p1 : Po g Wx σ μ1 H1 (r.bind fun acc h2 => .ok (.tl acc) h2) fun w h' μ' H' => ∀ v,RV g μ' H' w v -> Fr H0 w v -> Q v H') : PoL g (pM g) (Ext μ1 H1) D r fun H2 => Q (.ref D) H2 := by
 cases r with
 | bad => exact p1.elim
 | exc c fs h2 => exact absurd rfl (nx c fs h2)
 | ok acc h2 =>
  intro μ2 H2 G2
  obtain ⟨o,eo,mo,vs,rfl,z⟩ := G2.ob
  refine p1 μ2 H2 G2.x G2.r (.ref D) ⟨D,vs,rfl,eo,G2.na,z⟩ fun c ec => ?_
  cases ec
  exact Fr.back (w := .tl []) (v := .ref D) x1 (fun c ec => by cases ec; exact nD) D rfl
theorem aI2 {μ1 : List Addr} {H1 : Hp} {h1 : Hh} {D : Addr} (r1 : RH g μ1 h1 H1) (nD : H1 D = none) : Gd g (pM g) (Ext μ1 H1) D μ1 h1 [] (upd H1 D (.lst [])) := ⟨.new r1.trk nD,r1.new nD,fun hm => r1.trk.ne nD hm rfl,_,upd_same,rfl,[],rfl,rfl⟩
/-- the block's slots -/
theorem aHL (hi : SI g X Wx tg iter mi) (hg : SBG g X scope tg t) (hts : STs g X scope ifs mt) (he : SB g X scope elt me) (hsl : ∀ i ∈ t.slots,i ∈ own.map (·.2))
  {σw : Sg} {h : Hh} {σ : L2.St} {H : Hp} {μ : List Addr} {Q : VK} (rs : RS g μ H σw σ) (rh : RH g μ h H)
  (po : Po g Wx σ μ H (mLc mi t mt me (own.map (·.2)) σw h) (fun w h' μ' H' => ∀ v,RV g μ' H' w v -> Fr H w v -> Q v H')) :
  tLc (zG X tg iter) (tBG X scope tg) (tTs X scope ifs) (tB1 X scope elt) (own.map (·.2)) σ H Q := by
 refine hi σw h σ H μ _ rs rh (po.bind.imp fun src h1 μ1 H1 x1 r1 p1 J sk D nD => ?_)
 have rs1 := (rs.ext rh.trk x1).wipe (own.map (·.2))
 have pl := aJd (fun c fs h => uN (fun _ _ _ _ _ _ => aEq) _ _ _ _) x1 nD p1
 have go := aG4 (a := D) r1.trk nD
 refine yM (rel := pM g) go oR (fun μ H h x r i => (sk.ext x).at r i) (fun w x acc h μ H' σ1 Nx G nt qx e2 p2 => ?_) (aI2 r1 nD) pl
 intro s0 H0 C cl fp
 refine hg s0 H0 C cl fp w x _ σ1 h _ H' μ _ (rs1.ext r1.trk G.x) G.r nt qx e2 fun σ' rs' w' => ⟨?_,aLX go hts he G rs' p2⟩
 rw [w' _ hsl,uH]
theorem aLA (hc : X.calm = true) (hN : X.N.Nodup) (ok : BlkOk X.N X.env.scope scope own) (hsl : ∀ i ∈ t.slots,i ∈ own.map (·.2)) (hs : ∀ x,foldedSetIterable iter X.env x = pure x)
  (hi : SI g X Wx tg iter mi) (hg : SBG g X scope tg t) (hts : STs g X scope ifs mt) (he : SB g X scope elt me) : SE g X Wx (.ListComp elt [⟨tg,iter,ifs,0⟩] scope pos) (mLc mi t mt me (own.map (·.2))) := by
 intro σw h σ H μ Q rs rh po
 refine dX (pe_lc hc hN aDP ok (fun s0 H0 C cl fp => (⟨fun pins s σ H v u Q I r q => q s0 H0 C cl fp pins s u I r⟩ : PG _ _ (tBG X scope tg))) (fun s0 H0 C cl fp => yS hts s0 H0 C cl fp)
  (fun s0 H0 C cl fp => (⟨fun pins s σ H Q I q => q s0 H0 C cl fp pins s I⟩ : PE _ _ (tB1 X scope elt))) hs) ?_
 exact aHL hi hg hts he hsl rs rh po
end
end PV
end
section
namespace PV
open PySem PySem.Spec PyProof.Rows L2
structure FnG (P : Program) (w : World) (K : PySem.W.Frag) (mg : Str -> Option Value) (base : Heap) (CX : CXT) (k : Nat) (f : Addr) (fd : FuncData) (ps : List Str) (sp : Sp) : Prop where
 len : ∀ vs H Q E,sp vs H Q E -> vs.length = ps.length
 run : ∀ (A : Around) (outer : List Env) (s : Shared) (H : Hp) (args : Args) (us : List Value) (vs : List V) (Q : VK) (E : XK),A.guards = some [] -> Room k A -> Env0 P w K mg base A outer s H -> BindsTo s fd args (ps.zip us) -> Vals vs us -> sp vs H Q E ->
  codeAny (model P w) A (.call (.ref f) args) (CR CX outer P w H s Q E) s
theorem aIW {CX : CXT} {P : Program} {w : World} {K : PySem.W.Frag} {mg : Str -> Option Value} {base : Heap} {k : Nat} {f : Addr} {name qual : Str} {params : Arguments} {body : List Stmt} {scope : Scope} {dV kV doc pm cdv ct oc : Value} {an od : Option Addr}
  {osl : Array (Option Value)} {N ps : List Str} {sp : Sp} (lk : K.lookup f = some ⟨oc,od, .func (PySem.W.fnOf name qual params body scope dV kV doc pm an cdv ct),osl⟩) (hcd : PySem.W.codeIn K cdv qual = true) (S : FnScope N ps scope)
  (len : ∀ vs H Q E,sp vs H Q E -> vs.length = ps.length)
  (hbody : ∀ (A : Around) (outer : List Env) (s : Shared) (H : Hp) (vs : List V) (Q : VK) (E : XK),A.guards = some [] -> Room k (A.deeper (envOfC qual scope s.heap.objs.size f cdv)) -> sp vs H Q E ->
   ∃ t,PSs (cxOf CX P w K mg base N qual scope f cdv A outer s H E) body t /\ t { nx := fun _ H' => Q .non H',rt := Q } (start N vs) H) :
  FnG P w K mg base CX (k + 1) f (PySem.W.fnOf name qual params body scope dV kV doc pm an cdv ct) ps sp := by
 refine ⟨len,fun A outer s H args us vs Q E hgd hr e0 hb r hsp => ?_⟩
 have hl := len _ _ _ _ hsp
 have KX : K.In s.heap := e0.mod.kin.keeps fun b o e => (e0.bs b o e).1
 have lim : s.heap.NoLimit := e0.mod.nolimit.keeps fun b o e => (e0.bs b o e).1
 have hkind : ∀ y ∈ ps.zip us,scope.names.lookup y.1 = some .local \/ (scope.names.lookup y.1 = some .cell /\ ((cellsFrom (s.heap.objs.size + 1) scope.names []).lookup y.1).isSome = true) := fun ⟨n,v⟩ hy => by
  rcases S.par n (List.of_mem_zip hy).1 with q | q
  ·exact .inl q
  ·exact .inr ⟨q,PySem.W.cellsFrom_some _ _ _ (.inl q)⟩
 refine codeAny_call_function hr.depth (KX _ _ lk) rfl S.co S.gen rfl (PySem.W.codeRec_of KX hcd) (hb _ _ _ _ ?_)
 refine wpAny_newFunctionEnv_cells S.kind hkind fun env he s1 x => ?_
 subst he
 refine ⟨lim.keeps x.toInCall.keep,codeAny_func ?_⟩
 obtain ⟨t,ht,hq⟩ := hbody A outer s H vs Q E hgd (hr.deeper _) hsp
 have I : Inv (cxOf CX P w K mg base N qual scope f cdv A outer s H E) [] (start N vs) H s1 := inv_start S hr.hd e0 hl r x
 refine wpAny_mono (ht.run [] s1 (start N vs) H _ I hq) (fun fl s' hs => ?_) fun e s' hs => hs
 have fin : ∀ {σ' : L2.St} {H' : Hp} {v : V} {u : Value},Inv (cxOf CX P w K mg base N qual scope f cdv A outer s H E) [] σ' H' s' -> RelV v u -> Q v H' -> CE outer P w H s Q u s' :=
  fun {σ' H' v u} J rv q => ⟨v,H',J.os,J.bare,J.base,J.hok,rv,q⟩
 cases fl with
 | ret u =>
  obtain ⟨v,σ',H',J,rv,q⟩ := hs
  exact fin J rv q
 | next =>
  obtain ⟨σ',H',J,q⟩ := hs
  exact fin (v := V.non) (u := Value.none) J rfl q
 | brk =>
  obtain ⟨_,_,_,q⟩ := hs
  exact False.elim q
 | cont =>
  obtain ⟨_,_,_,q⟩ := hs
  exact False.elim q
def aFK (X : Cx) (f : Addr) (vs : List V) (σ : L2.St) (H : Hp) (Q : VK) : Prop := ∀ pins s us,Inv X pins σ H s -> Vals vs us -> wpAny (model X.prog X.w) X.A (call (.ref f) us) (EP X pins σ Q) X.xe s
section
variable {X : Cx} {W : WX} {k : Nat} {f : Addr} {fd : FuncData} {ps : List Str} {sp : Sp} {dvs : List V} {ds : List Value} {x : Str} {p pos : Pos} {e : Expr} {es : List Expr}
theorem aIQ {σ : L2.St} {H : Hp} {Q : VK} {vs : List V} (tk : Takes X W) (hgd : X.A.guards = some []) (F : FnG X.prog X.w X.K X.mg X.base (CX X.prog X.w) k f fd ps sp) (hr : Room k X.A) (hb : Binds X.K fd ps ds) (hd : Vals dvs ds)
  (h : sp (vs ++ dvs) H Q (fun cv d H' => W cv d σ H')) : aFK X f vs σ H Q := by
 intro pins s us I r
 have r2 : Vals (vs ++ dvs) (us ++ ds) := r.append hd
 have hl : (us ++ ds).length = ps.length := by rw [<- r2.length]; exact F.len _ _ _ _ h
 refine wpAny_call (codeAny_mono (F.run X.A X.stack s H ⟨us,[]⟩ (us ++ ds) (vs ++ dvs) Q _ hgd hr I.env0 (hb s us I.kIn hl) r2 h) fun r s' hq => ?_)
 cases r with
 | error e => exact tk _ _ (XE.of_call I (fun _ _ _ z => z) hq)
 | ok fl =>
  cases fl with
  | ret u => exact I.after hq
  | next => exact False.elim hq
  | brk => exact False.elim hq
  | cont => exact False.elim hq
def tCG (X : Cx) (f : Addr) (t : TA) : TE := fun σ H Q => t σ H fun vs H1 => aFK X f vs σ H1 Q
theorem aLf (hg : Gl X x) (hm : X.mg x = some (.ref f)) (hk : PySem.W.keepIn X.K (.ref f) = true) (hdb : (x == ("__debug__" : Str)) = false) (he : starEach (e :: es) X.env = (false,eval e X.env) :: starEach es X.env)
  (hpl : (backTo pos (starEach es X.env)).any (·.1) = false) : PE X (.Call (.Name x p) (e :: es) [] pos) (tCG X f (aEd X (e :: es))) := by
 refine ⟨fun pins s σ H Q I h => ?_⟩
 refine wpAny_Call_Name_kw (ld_glob I hg hm ?_ hdb)
 refine PySem.W.callWith_K (h₀ := X.base) I.ok.mod.kin hk (thn (h pos pins s I) fun us s1 ⟨vs,H1,I1,r,q⟩ => ⟨I1.kIn, ?_⟩) he hpl
 exact q pins s1 us I1 r
end
mutual
def D.lim (n : Nat) : D -> Bool
 | .ref i => decide (i < n)
 | .tup ws => D.lims n ws
 | .kt ws => D.lims n ws
 | .tl ws => D.lims n ws
 | .fl ws => D.lims n ws
 | .xc _ _ ws => D.lims n ws
 | _ => true
def D.lims (n : Nat) : List D -> Bool
 | [] => true
 | w :: ws => D.lim n w && D.lims n ws
end
def gQ {κ : Type} (n : Nat) : List (κ × D) -> Bool
 | [] => true
 | p :: ps => D.lim n p.2 && gQ n ps
def Cl.lim (n : Nat) : Cl -> Bool
 | .lst ws => D.lims n ws
 | .dK kvs => gQ n kvs
 | .dT kvs => gQ n kvs
 | .ins _ fs => gQ n fs
/-- the cells of the caller as they were,or without a hold on new ones -/
def iL (n : Nat) : Hh -> Hh -> Bool
 | [],_ => true
 | c :: cs,d :: ds => (decide (d = c) || d.lim n) && iL n cs ds
 | _ :: _,[] => false
def gc (h : Hh) (w : D) (h' : Hh) : R D := if iL h.length h h' = true then
  if w.lim h.length = true then .ok w (h'.take h.length) else match w with
   | .ref i => match h'[i]? with
    | some (.lst ws) => if D.lims h.length ws = true /\ h.length <= i then .ok (.tl ws) (h'.take h.length) else .ok w h'
    | some c => if c.lim h.length = true /\ h.length <= i then .ok (.ref h.length) (h'.take h.length ++ [c]) else .ok w h'
    | none => .ok w h'
   | w => .ok w h'
 else .ok w h'
def gcX (h : Hh) (c : Nat) (fs : List (Str × D)) (h' : Hh) : R D := if iL h.length h h' = true /\ gQ h.length fs = true then .exc c fs (h'.take h.length) else .exc c fs h'
def gcR (h : Hh) (r : R D) : R D := match r with
 | .ok w h' => gc h w h'
 | .exc c fs h' => gcX h c fs h'
 | .bad => .bad
mutual
theorem RV.lim {g : Gx} {μ : List Addr} {H : Hp} : ∀ {w : D} {v : V},RV g μ H w v -> D.lim μ.length w = true
 | .non,_,_ => rfl
 | .bl _,_,_ => rfl
 | .int _,_,_ => rfl
 | .str _,_,_ => rfl
 | .ty _,_,_ => rfl
 | .fn _,_,_ => rfl
 | .cls _,_,_ => rfl
 | .ref i,_,r => by
  obtain ⟨a,e,_⟩ := r
  simp only [D.lim,decide_eq_true_eq]
  rcases Nat.lt_or_ge i μ.length with z | z
  ·exact z
  ·rw [List.getElem?_eq_none z] at e; cases e
 | .tup ws,_,r => by obtain ⟨_,_,_,_,z⟩ := r; simp only [D.lim]; exact RVs.lim z
 | .xc c ks ws,_,r => by obtain ⟨_,_,_,_,_,_,_,_,_,z⟩ := r; simp only [D.lim]; exact RVs.lim z
 | .kt ws,_,r => by obtain ⟨_,_,_,_,z⟩ := r; simp only [D.lim]; exact RVs.lim z
 | .fl ws,_,r => by obtain ⟨_,_,_,_,z⟩ := r; simp only [D.lim]; exact RVs.lim z
 | .tl ws,_,r => by obtain ⟨_,_,_,_,_,z⟩ := r; simp only [D.lim]; exact RVs.lim z
theorem RVs.lim {g : Gx} {μ : List Addr} {H : Hp} : ∀ {ws : List D} {vs : List V},RVs g μ H ws vs -> D.lims μ.length ws = true
 | [],_,_ => rfl
 | w :: ws,_,r => by
  obtain ⟨v,rr,_,_,q,z⟩ := r
  simp only [D.lims,RV.lim q,RVs.lim z,Bool.and_self]
end
mutual
theorem RV.cut {g : Gx} {μ e : List Addr} {H : Hp} : ∀ {w : D} {v : V},D.lim μ.length w = true -> RV g (μ ++ e) H w v -> RV g μ H w v
 | .non,_,_,r => r
 | .bl _,_,_,r => r
 | .int _,_,_,r => r
 | .str _,_,_,r => r
 | .ty _,_,_,r => r
 | .fn _,_,_,r => r
 | .cls _,_,_,r => r
 | .ref i,_,l,r => by
  obtain ⟨a,ea,q⟩ := r
  simp only [D.lim,decide_eq_true_eq] at l
  rw [List.getElem?_append_left l] at ea
  exact ⟨a,ea,q⟩
 | .xc c ks ws,_,l,r => by obtain ⟨a,C,d,vs,e1,hC,q,hl,hd,z⟩ := r; exact ⟨a,C,d,vs,e1,hC,q,hl,hd,RVs.cut (by simpa only [D.lim] using l) z⟩
 | .tup ws,_,l,r => by obtain ⟨a,vs,e1,q,z⟩ := r; exact ⟨a,vs,e1,q,RVs.cut (by simpa only [D.lim] using l) z⟩
 | .kt ws,_,l,r => by obtain ⟨a,vs,e1,q,z⟩ := r; exact ⟨a,vs,e1,q,RVs.cut (by simpa only [D.lim] using l) z⟩
 | .fl ws,_,l,r => by obtain ⟨a,vs,e1,q,z⟩ := r; exact ⟨a,vs,e1,q,RVs.cut (by simpa only [D.lim] using l) z⟩
 | .tl ws,_,l,r => by obtain ⟨a,vs,e1,q,n,z⟩ := r; exact ⟨a,vs,e1,q,fun hm => n (List.mem_append_left _ hm),RVs.cut (by simpa only [D.lim] using l) z⟩
theorem RVs.cut {g : Gx} {μ e : List Addr} {H : Hp} : ∀ {ws : List D} {vs : List V},D.lims μ.length ws = true -> RVs g (μ ++ e) H ws vs -> RVs g μ H ws vs
 | [],_,_,r => r
 | w :: ws,_,l,r => by
  obtain ⟨v,rr,e1,nt,q,z⟩ := r
  simp only [D.lims,Bool.and_eq_true] at l
  exact ⟨v,rr,e1,nt,RV.cut l.1 q,RVs.cut l.2 z⟩
end
section
variable {g : Gx} {μ e : List Addr} {H H' : Hp} {h h' : Hh}
theorem RKs.cut {κ : Type} : ∀ {ws : List (κ × D)} {vs : List (κ × V)},gQ μ.length ws = true -> RKs g (μ ++ e) H ws vs -> RKs g μ H ws vs
 | [],_,_,r => r
 | w :: ws,_,l,r => by
  obtain ⟨v,rr,e1,nt,q,z⟩ := r
  simp only [gQ,Bool.and_eq_true] at l
  exact ⟨v,rr,e1,nt,q.cut l.1,RKs.cut l.2 z⟩
theorem RKs.lim {κ : Type} : ∀ {ws : List (κ × D)} {vs : List (κ × V)},RKs g μ H ws vs -> gQ μ.length ws = true
 | [],_,_ => rfl
 | w :: ws,_,r => by
  obtain ⟨v,rr,_,_,q,z⟩ := r
  simp only [gQ,q.lim,RKs.lim z,Bool.and_self]
theorem RC.lim {a : Addr} {c : Cl} (r : RC g μ H a c) : c.lim μ.length = true := by
 cases c with
 | lst ws => obtain ⟨_,_,z⟩ := r; exact z.lim
 | dK ws => obtain ⟨_,_,z⟩ := r; exact z.lim
 | dT ws => obtain ⟨_,_,z⟩ := r; exact z.lim
 | ins c fs => obtain ⟨_,_,_,_,_,z⟩ := r; exact z.lim
theorem RC.cut {a : Addr} {c : Cl} (l : c.lim μ.length = true) (r : RC g (μ ++ e) H a c) : RC g μ H a c := by
 cases c with
 | lst ws => obtain ⟨vs,q,z⟩ := r; exact ⟨vs,q,z.cut l⟩
 | dK ws => obtain ⟨vs,q,z⟩ := r; exact ⟨vs,q,z.cut l⟩
 | dT ws => obtain ⟨vs,q,z⟩ := r; exact ⟨vs,q,z.cut l⟩
 | ins c fs => obtain ⟨C,dx,vs,k,q,z⟩ := r; exact ⟨C,dx,vs,k,q,z.cut l⟩
theorem aA8 {n : Nat} : ∀ {h h' : Hh} {i : Nat} {c : Cl},iL n h h' = true -> i < h.length -> h'[i]? = some c -> h[i]? = some c \/ c.lim n = true
 | [],_,i,c,_,hl,_ => by simp at hl
 | d :: ds,[],i,c,k,_,_ => by simp [iL] at k
 | d :: ds,d' :: ds',0,c,k,_,e => by
  simp only [iL,Bool.and_eq_true,Bool.or_eq_true,decide_eq_true_eq] at k
  simp at e; subst e
  rcases k.1 with z | z
  ·exact .inl (by simp [z])
  ·exact .inr z
 | d :: ds,d' :: ds',i + 1,c,k,hl,e => by
  simp only [iL,Bool.and_eq_true] at k
  simp at e hl
  rcases aA8 k.2 (by simpa using hl) e with z | z
  ·exact .inl (by simpa using z)
  ·exact .inr z
theorem aA9 {n : Nat} : ∀ {h h' : Hh},iL n h h' = true -> h.length <= h'.length
 | [],_,_ => Nat.zero_le _
 | d :: ds,[],k => by simp [iL] at k
 | d :: ds,d' :: ds',k => by
  simp only [iL,Bool.and_eq_true] at k
  simp only [List.length_cons]
  exact Nat.succ_le_succ (aA9 k.2)
/-- the cells of the caller,by themselves -/
theorem RH.shrink (r0 : RH g μ h H) (r : RH g (μ ++ e) h' H') (k : iL h.length h h' = true) : RH g μ (h'.take h.length) H' := by
 have hl := aA9 k
 refine ⟨by rw [List.length_take,r0.len]; omega,r0.nd,fun i c ei => ?_,r.tabs⟩
 have hi : i < h.length := by
  rcases Nat.lt_or_ge i h.length with z | z
  ·exact z
  ·rw [List.getElem?_take_eq_none z] at ei; cases ei
 rw [List.getElem?_take_of_lt hi] at ei
 obtain ⟨a,ea,rc⟩ := r.cell i c ei
 rw [List.getElem?_append_left (by rw [r0.len]; exact hi)] at ea
 refine ⟨a,ea,rc.cut ?_⟩
 rcases aA8 k hi ei with z | z
 ·obtain ⟨b,_,rc0⟩ := r0.cell i c z
  exact rc0.lim
 ·rw [r0.len]; exact z
theorem Ext.shrink (x : Ext μ H (μ ++ e) H') : Ext μ H μ H' := ⟨⟨[],by simp,by simp⟩,x.fr',x.lv,x.tb⟩
/-- what a call leaves is enough -/
theorem aG3 {σ : L2.St} {Wx : WX} {r : R D} {Q' : VK} (r0 : RH g μ h H) (po : Po g Wx σ μ H (gcR h r) (fun w h' μ' H' => ∀ v,RV g μ' H' w v -> Fr H w v -> Q' v H')) :
  Po g Wx σ μ H r (fun w h' μ' H' => ∀ v,RV g μ' H' w v -> Fr H w v -> Q' v H') := by
 cases r with
 | bad => exact po
 | exc c fs h1 =>
  simp only [gcR,gcX] at po
  split at po
  ·rename_i k
   intro μ1 H1 cv d x1 r1 xv
   obtain ⟨⟨e1,rfl,_⟩,_,_⟩ := id x1
   obtain ⟨C,vs,k1,k2,k3,z⟩ := xv
   exact po μ H1 cv d x1.shrink (r0.shrink r1 k.1) ⟨C,vs,k1,k2,k3,z.cut (by rw [r0.len]; exact k.2)⟩
  ·exact po
 | ok w h1 =>
  simp only [gcR,gc] at po
  split at po
  ·rename_i k
   intro μ1 H1 x1 r1 v qv fv
   obtain ⟨⟨e1,rfl,fr1⟩,_,_⟩ := id x1
   have r2 := r0.shrink r1 k
   split at po
   ·rename_i kl
    exact po μ H1 x1.shrink r2 v (qv.cut (by rw [r0.len]; exact kl)) fv
   ·split at po
    ·rename_i i _
     have plain : ∀ {r : R D},r = .ok (.ref i) h1 -> Po g Wx σ μ H r (fun w h' μ' H' => ∀ v,RV g μ' H' w v -> Fr H w v -> Q' v H') -> Q' v H1 := fun er p => by
      subst er; exact p (μ ++ e1) H1 x1 r1 v qv fv
     obtain ⟨a,ea,rfl⟩ := qv
     split at po
     ·rename_i ws ec
      split at po
      ·rename_i hc
       obtain ⟨b,eb,vs,hb,z⟩ := r1.cell i _ ec
       rw [ea] at eb; cases eb
       rw [List.getElem?_append_right (by rw [r0.len]; exact hc.2)] at ea
       have hm : a ∈ e1 := gT ea
       have na : a ∉ μ := fun h2 => (List.nodup_append.mp r1.nd).2.2 a h2 a hm rfl
       exact po μ H1 x1.shrink r2 (.ref a) ⟨a,vs,rfl,hb,na,z.cut (by rw [r0.len]; exact hc.1)⟩ fun c ec => by cases ec; exact fr1 a hm
      ·exact plain rfl po
     ·rename_i c ncl ec
      split at po
      ·rename_i hc
       obtain ⟨b,eb,rc⟩ := r1.cell i _ ec
       rw [ea] at eb; cases eb
       rw [List.getElem?_append_right (by rw [r0.len]; exact hc.2)] at ea
       have hm : a ∈ e1 := gT ea
       have na : a ∉ μ := fun h2 => (List.nodup_append.mp r1.nd).2.2 a h2 a hm rfl
       have x3 : Ext μ H (μ ++ [a]) H1 := ⟨⟨[a],rfl,fun y hy => by
        have : y = a := by simpa using hy
        subst this; exact fr1 _ hm⟩,x1.fr',x1.lv,x1.tb⟩
       refine po (μ ++ [a]) H1 x3 (r2.track na (rc.cut (by rw [r0.len]; exact hc.1))) (.ref a) ⟨a, ?_,rfl⟩ (.of rfl)
       rw [<- r0.len]; simp
      ·exact plain rfl po
     ·exact plain rfl po
    ·exact po (μ ++ e1) H1 x1 r1 v qv fv
  ·exact po
end
end PV
end
section
namespace PV
open PySem PySem.Spec PyProof.Rows L2
/-- the values in the order of the parameters -/
def dQ {α : Type} (perm : List Nat) (l : List α) : Option (List α) := aK (fun i => l[i]?) perm
abbrev Cll := Nat -> List D -> Hh -> R D
def aR (cl : Cll) (f : Nat) (m : M (List D)) : M D := fun σ h => gcR h ((m σ h).bind fun ws h1 => cl f ws h1)
def nV (cl : Cll) (f : Nat) (m : M (List D)) (perm : List Nat) : M D := fun σ h => gcR h ((m σ h).bind fun ws h1 => match dQ perm ws with
 | some ws => cl f ws h1
 | none => .bad)
/-- a def by its own-level meaning -/
def sQ (g : Gx) (n : Nat) (cl : List D -> Hh -> R D) : Sp := fun vs H Q E => ∃ (ws : List D) (h : Hh) (μ : List Addr) (σ : L2.St),vs.length = n /\ RVs g μ H ws vs /\ RH g μ h H /\
 Po g (fun cv d _ H' => E cv d H') σ μ H (cl ws h) (fun w h' μ' H' => ∀ v,RV g μ' H' w v -> Fr H w v -> Q v H')
section
variable {g : Gx} {X : Cx} {Wx : WX} {k : Nat} {f : Nat} {fa : Addr} {fd : FuncData} {ps : List Str} {cl : Cll} {x : Str} {p pos : Pos} {e : Expr} {es : List Expr} {ms : List (M D)}
theorem aIP {n : Nat} {ds : List Value} {dws : List D} {dvs : List V} {σ : L2.St} {H : Hp} {Q : VK} {vs : List V} {ws : List D} {h : Hh} {μ : List Addr} (tk : Takes X Wx) (hgd : X.A.guards = some []) (hr : Room k X.A)
  (F : FnG X.prog X.w X.K X.mg X.base (CX X.prog X.w) k fa fd ps (sQ g ps.length (cl f))) (hb : Binds X.K fd ps ds) (hd : Vals dvs ds) (rd : RVs g μ H dws dvs)
  (hl : vs.length + dvs.length = ps.length) (q : RVs g μ H ws vs) (rh : RH g μ h H)
  (po : Po g Wx σ μ H (cl f (ws ++ dws) h) (fun w h' μ' H' => ∀ v,RV g μ' H' w v -> Fr H w v -> Q v H')) : aFK X fa vs σ H Q := by
 refine aIQ tk hgd F hr hb hd ⟨ws ++ dws,h,μ,σ,by rw [List.length_append]; exact hl,q.append rd,rh, ?_⟩
 cases hx : cl f (ws ++ dws) h with
 | ok w h1 => rw [hx] at po; exact po
 | exc c fs h1 => rw [hx] at po; exact po
 | bad => rw [hx] at po; exact po
theorem aIe {ds : List Value} {dws : List D} {dvs : List V} (tk : Takes X Wx) (hgd : X.A.guards = some []) (hr : Room k X.A) (F : FnG X.prog X.w X.K X.mg X.base (CX X.prog X.w) k fa fd ps (sQ g ps.length (cl f)))
  (hb : Binds X.K fd ps ds) (hd : Vals dvs ds) (rd : ∀ μ H,RVs g μ H dws dvs) (hg : Gl X x) (hm : X.mg x = some (.ref fa)) (hk : PySem.W.keepIn X.K (.ref fa) = true) (hdb : (x == ("__debug__" : Str)) = false)
  (he : starEach (e :: es) X.env = (false,eval e X.env) :: starEach es X.env) (hpl : (backTo pos (starEach es X.env)).any (·.1) = false) (hl : ms.length + dws.length = ps.length)
  (ha : SA g X Wx (e :: es) (aA ms)) : SE g X Wx (.Call (.Name x p) (e :: es) [] pos) (aR (fun f ws h => cl f (ws ++ dws) h) f (aA ms)) := by
 intro σw h σ H μ Q rs rh po
 refine dX (aLf hg hm hk hdb he hpl) ?_
 have po2 := aG3 rh po
 cases hx : aA ms σw h with
 | bad => rw [hx] at po2; exact po2.elim
 | exc c fs h1 =>
  rw [hx] at po2
  refine ha σw h σ H μ _ rs rh ?_
  rw [hx]; exact po2
 | ok ws h1 =>
  rw [hx,R.bind_ok] at po2
  refine ha σw h σ H μ _ rs rh ?_
  rw [hx]
  intro μ1 H1 x1 r1 vs qs
  have l1 := qs.length
  have l2 := tM hx
  have l3 := (rd μ1 H1).length
  exact aIP (n := 0) tk hgd hr F hb hd (rd μ1 H1) (by omega) qs r1 ((po2.ext x1).imp fun w h3 μ3 H3 x3 r3 q3 v qv fv => q3 v qv (fv.back x1))
def aEg (X : Cx) (kws : List Keyword) : TA := fun σ H Q => ∀ pos pins s,Inv X pins σ H s -> wpAny (model X.prog X.w) X.A (evalAll ((backToKw pos (keywordEach kws X.env)).map (·.2))) (AP X pins σ Q) X.xe s
theorem aLg {kws : List Keyword} : PK X kws (aEg X kws) := ⟨fun pos pins s σ H Q I h => h pos pins s I⟩
theorem aJn {kws : List Keyword} {t : TA} (p : PK X kws t) {σ : L2.St} {H : Hp} {Q : List V -> Hp -> Prop} (h : t σ H Q) : aEg X kws σ H Q := fun pos pins s I => p.run pos pins s σ H Q I h
def SK (g : Gx) (X : Cx) (Wx : WX) (kws : List Keyword) (m : M (List D)) : Prop := ∀ (σw : Sg) (h : Hh) (σ : L2.St) (H : Hp) (μ : List Addr) (Q : List V -> Hp -> Prop),RS g μ H σw σ -> RH g μ h H ->
 Po g Wx σ μ H (m σw h) (fun ws h' μ' H' => ∀ vs,RVs g μ' H' ws vs -> Q vs H') -> aEg X kws σ H Q
theorem aKd : SK g X Wx [] (aA []) := fun σw h σ H μ Q rs rh po => aJn pk_nil (po.at rh [] rfl)
theorem aIi {nm : Option Str} {kpos : Pos} {kws : List Keyword} {ma : M D} (ha : SE g X Wx e ma) (hr : SK g X Wx kws (aA ms)) : SK g X Wx (⟨nm,e,kpos⟩ :: kws) (aA (ma :: ms)) := by
 intro σw h σ H μ Q rs rh po
 refine aJn (pk_cons bC aLg) (ha σw h σ H μ _ rs rh (po.bind2.imp fun w h1 μ1 H1 x1 r1 p1 v qv fv => ?_))
 obtain ⟨μ1',x1',r1',q1',_⟩ := lP r1 qv fv x1
 refine hr σw _ σ H1 μ1' _ (rs.ext rh.trk x1') r1' ((p1 μ1' H1 x1').bind.imp fun ws h2 μ2 H2 x2 r2 p2 vs qs => ?_)
 exact p2.at r2 (v :: vs) ⟨v,vs,rfl,gX,q1'.ext r1'.trk x2,qs⟩
/-- how a call with keywords binds -/
def KB (K : PySem.W.Frag) (fd : FuncData) (ps : List Str) (n : Nat) (ks : List Str) (perm : List Nat) : Prop := ∀ (s : Shared) (us ws xs : List Value),K.In s.heap -> us.length = n -> ws.length = ks.length -> dQ perm (us ++ ws) = some xs ->
 BindsTo s fd ⟨us,ks.zip ws⟩ (ps.zip xs)
theorem aEX {μ : List Addr} {H : Hp} {ws xs : List D} {vs : List V} : ∀ {perm : List Nat},dQ perm ws = some xs -> RVs g μ H ws vs -> ∃ ys,dQ perm vs = some ys /\ RVs g μ H xs ys
 | perm,e,r => by
  unfold dQ at e ⊢
  induction perm generalizing xs with
  | nil => unfold aK at e; cases e; exact ⟨[],rfl,rfl⟩
  | cons i perm ih =>
   unfold aK at e
   split at e
   ·rename_i a b ea eb
    cases e
    obtain ⟨v,ev,nt,q⟩ := r.get ea
    obtain ⟨ys,ey,z⟩ := ih eb
    refine ⟨v :: ys, ?_,v,ys,rfl,nt,q,z⟩
    unfold aK
    rw [ev,ey]
   ·cases e
theorem aDN {vs ys : List V} {us : List Value} : ∀ {perm : List Nat},dQ perm vs = some ys -> Vals vs us -> ∃ xs,dQ perm us = some xs /\ Vals ys xs
 | perm,e,r => by
  unfold dQ at e ⊢
  induction perm generalizing ys with
  | nil => unfold aK at e; cases e; exact ⟨[],rfl, .nil⟩
  | cons i perm ih =>
   unfold aK at e
   split at e
   ·rename_i a b ea eb
    cases e
    obtain ⟨u,eu,q⟩ := r.get ea
    obtain ⟨xs,ex,z⟩ := ih eb
    refine ⟨u :: xs, ?_, .cons q z⟩
    unfold aK
    rw [eu,ex]
   ·cases e
/-- the call by values,with keywords -/
theorem aHu {kws : List Keyword} {ks : List Str} {perm : List Nat} {n : Nat} {σ : L2.St} {H : Hp} {Q : VK} {vs zs ys : List V} {us zus : List Value} {pins : List (Addr × Obj)} {s : Shared} {sp : Sp} (tk : Takes X Wx) (hgd : X.A.guards = some []) (hr : Room k X.A)
  (F : FnG X.prog X.w X.K X.mg X.base (CX X.prog X.w) k fa fd ps sp) (kb : KB X.K fd ps n ks perm) (I : Inv X pins σ H s) (r : Vals vs us) (rz : Vals zs zus) (hn : vs.length = n) (hz : zs.length = ks.length)
  (ep : dQ perm (vs ++ zs) = some ys) (h : sp ys H Q (fun cv d H' => Wx cv d σ H')) : wpAny (model X.prog X.w) X.A (call (.ref fa) us (ks.zip zus)) (EP X pins σ Q) X.xe s := by
 obtain ⟨xs,ex,rx⟩ := aDN ep (r.append rz)
 have hu : us.length = n := by rw [<- r.length]; exact hn
 have hw : zus.length = ks.length := by rw [<- rz.length]; exact hz
 refine wpAny_call (codeAny_mono (F.run X.A X.stack s H ⟨us,ks.zip zus⟩ xs ys Q _ hgd hr I.env0 (kb s us zus xs I.kIn hu hw ex) rx h) fun r s' hq => ?_)
 cases r with
 | error e => exact tk _ _ (XE.of_call I (fun _ _ _ z => z) hq)
 | ok fl =>
  cases fl with
  | ret u => exact I.after hq
  | next => exact False.elim hq
  | brk => exact False.elim hq
  | cont => exact False.elim hq
theorem aFj {kws : List Keyword} {ks : List Str} {perm : List Nat} (tk : Takes X Wx) (hgd : X.A.guards = some []) (hr : Room k X.A) (F : FnG X.prog X.w X.K X.mg X.base (CX X.prog X.w) k fa fd ps (sQ g ps.length (cl f)))
  (kb : KB X.K fd ps 0 ks perm) (hg : Gl X x) (hm : X.mg x = some (.ref fa)) (hk : PySem.W.keepIn X.K (.ref fa) = true) (hdb : (x == ("__debug__" : Str)) = false)
  (hall : (backToKw pos (keywordEach kws X.env)).all (·.1.isSome) = true) (hks : (backToKw pos (keywordEach kws X.env)).filterMap (·.1) = ks) (hno : (backToKw pos (keywordEach kws X.env)).any (·.1.isNone) = false)
  (hp : perm.length = ps.length) (hlk : ms.length = ks.length) (ha : SK g X Wx kws (aA ms)) : SE g X Wx (.Call (.Name x p) [] kws pos) (nV cl f (aA ms) perm) := by
 intro σw h σ H μ Q rs rh po
 have po2 := aG3 rh po
 intro pins s I
 refine wpAny_Call_Name_kw (ld_glob I hg hm ?_ hdb)
 have main : aEg X kws σ H fun zs H1 => ∀ pins s us,Inv X pins σ H1 s -> Vals zs us -> wpAny (model X.prog X.w) X.A (call (.ref fa) [] (ks.zip us)) (EP X pins σ Q) X.xe s := by
  refine ha σw h σ H μ _ rs rh ?_
  cases hx : aA ms σw h with
  | bad => rw [hx] at po2; exact po2.elim
  | exc c fs h1 => rw [hx] at po2; exact po2
  | ok ws h1 =>
   rw [hx,R.bind_ok] at po2
   intro μ1 H1 x1 r1 vs qs pins s us I r
   have l1 := qs.length
   have l2 := tM hx
   cases ep : dQ perm ws with
   | none => rw [ep] at po2; exact po2.elim
   | some xs =>
    rw [ep] at po2
    simp only at po2
    obtain ⟨ys,ey,z⟩ := aEX ep qs
    refine aHu (kws := kws) tk hgd hr F kb I (.nil) r rfl (by omega) (by simpa using ey) ⟨xs,h1,μ1,σ, ?_,z,r1, ?_⟩
    ·rw [vS ey]; exact hp
    ·have po3 := (po2.ext x1).imp (Q' := fun w h' μ' H' => ∀ v,RV g μ' H' w v -> Fr H1 w v -> Q v H') fun w h3 μ3 H3 x3 r3 q3 v qv fv => q3 v qv (fv.back x1)
     cases hc : cl f xs h1 with
     | ok w h4 => rw [hc] at po3; exact po3
     | exc c fs h4 => rw [hc] at po3; exact po3
     | bad => rw [hc] at po3; exact po3
 refine PySem.W.callWith_KW0 (h₀ := X.base) I.ok.mod.kin hk hall (thn (main pos pins s I) fun us s1 ⟨vs,H1,I1,r,q⟩ => ⟨I1.kIn, ?_⟩) (by rw [hno]; rfl)
 rw [hks]
 exact q pins s1 us I1 r
end
end PV
end
section
namespace PV
open PySem PySem.Spec PyProof.Rows L2
def yQ (x : D) (h : Hh) : R D := match x with
 | .int i => .ok (.int (-i)) h
 | _ => .bad
def gG (f f' : D -> D -> Hh -> R D) (a b c : M D) : M D := fun σ h => (a σ h).bind fun x h1 => (b σ h1).bind fun y h2 => (f x y h2).bind fun z h3 => match z with
 | .bl true => (c σ h3).bind fun w h4 => f' y w h4
 | .bl false => .ok (.bl false) h3
 | _ => .bad
section
variable {g : Gx} {X : Cx} {Wx : WX} {a b c : Expr} {ma mb mc : M D} {f f' : D -> D -> Hh -> R D} {pos : Pos}
theorem aJ6 (ha : SE g X Wx a ma) : SE g X Wx (.UnaryOp .USub a pos) (mF1 yQ ma) := by
 intro σw h σ H μ Q rs rh po
 refine dX (pe_un un_neg bC) (ha σw h σ H μ _ rs rh (po.bind.imp fun x h1 μ1 H1 x1 r1 p1 v qv fv => ?_))
 unfold yQ at p1
 split at p1
 ·exact ⟨_,qv,p1.at r1 _ rfl (.of rfl)⟩
 ·exact p1.elim
theorem zP {op op' : CmpOp} (so : SO g X Wx (compareOp op) f) (so' : SO g X Wx (compareOp op') f') (ha : SE g X Wx a ma) (hb : SE g X Wx b mb) (hc : SE g X Wx c mc) {σw : Sg} {h : Hh} {σ : L2.St} {H : Hp} {μ : List Addr} {Q : VK} (rs : RS g μ H σw σ) (rh : RH g μ h H)
  (po : Po g Wx σ μ H (gG f f' ma mb mc σw h) (fun w h' μ' H' => ∀ v,RV g μ' H' w v -> Fr H w v -> Q v H')) : tChain (rOf X (compareOp op)) (rOf X (compareOp op')) (tOf X a) (tOf X b) (tOf X c) σ H Q := by
 refine ha σw h σ H μ _ rs rh (po.bind.imp fun x h1 μ1 H1 x1 r1 p1 vx qx fx => ?_)
 refine hb σw h1 σ H1 μ1 _ (rs.ext rh.trk x1) r1 (p1.bind.imp fun y h2 μ2 H2 x2 r2 p2 vy qy fy => ?_)
 have rs2 := rs.ext rh.trk (x1.trans x2)
 refine so x y h2 σ H2 μ2 vx vy _ r2 (qx.ext r1.trk x2) qy (p2.bind.imp fun z h3 μ3 H3 x3 r3 p3 vz qz fz => ?_)
 split at p3
 ·refine ⟨true,qz, ?_⟩
  rw [if_pos rfl]
  refine hc σw h3 σ H3 μ3 _ (rs2.ext r2.trk x3) r3 (p3.bind.imp fun w h4 μ4 H4 x4 r4 p4 vw qw fw => ?_)
  exact so' y w h4 σ H4 μ4 vy vw Q r4 ((qy.ext r2.trk x3).ext r3.trk x4) qw (p4.imp fun w5 h5 μ5 H5 x5 r5 q5 v qv fv => q5 v qv (fv.back (((x1.trans x2).trans x3).trans x4)))
 ·refine ⟨false,qz, ?_⟩
  rw [if_neg Bool.false_ne_true]
  exact p3.at r3 _ rfl (.of rfl)
 ·exact p3.elim
theorem aGE {op op' : CmpOp} (so : SO g X Wx (compareOp op) f) (so' : SO g X Wx (compareOp op') f') (ha : SE g X Wx a ma) (hb : SE g X Wx b mb) (hc : SE g X Wx c mc) (hm : lastMarks [op,op'] [b,c] = false) :
  SE g X Wx (.Compare a [op,op'] [b,c] pos) (gG f f' ma mb mc) := fun σw h σ H μ Q rs rh po => dX (pe_chain rS rS bC bC bC hm) (zP so so' ha hb hc rs rh po)
theorem aGO {op op' : CmpOp} (so : SO g X Wx (compareOp op) f) (so' : SO g X Wx (compareOp op') f') (ha : SE g X Wx a ma) (hb : SE g X Wx b mb) (hc : SE g X Wx c mc) (hm : lastMarks [op,op'] [b,c] = false) :
  ST g X Wx (.Compare a [op,op'] [b,c] pos) (mB (gG f f' ma mb mc)) := fun σw h σ H μ Q rs rh po => aDS (pt_chain rS rS bC bC bC hm) (zP (Q := fun v H' => ∃ k,v = .bl k /\ Q k H') so so' ha hb hc rs rh (zH po))
end
end PV
end
section
namespace PV
open PySem PySem.Spec PyProof.Rows L2
abbrev FST := Program -> World -> PySem.W.Frag -> (Str -> Option Value) -> Heap -> Gx -> Nat -> Cll -> Prop
structure Good (FS : FST) (g : Gx) (k : Nat) (cl : Cll) (N : List Str) (sc : Scope) (fq : Str -> Bool) (X : Cx) (Wx : WX) : Prop where
 K : X.K = g.K
 calm : X.calm = true
 eN : X.N = N
 nd : N.Nodup
 sc : X.env.scope = sc
 fn : X.fn = fq
 room : Room (k + 3) X.A
 gd : X.A.guards = some []
 tk : Takes X Wx
 fs : FS X.prog X.w X.K X.mg X.base g k cl
def okV (N : List Str) (sc : Scope) (i : Nat) (x : Str) : Bool := decide (N[i]? = some x) && (match sc.names.lookup x with
 | some .local => true
 | some .cell => true
 | some .free => true
 | _ => false) && !(x == ("__debug__" : Str)) && !(x == ("__classdict__" : Str))
def okT (N : List Str) (sc : Scope) (fq : Str -> Bool) (i : Nat) (x : Str) : Bool := decide (N[i]? = some x) && (match sc.names.lookup x with
 | some .local => true
 | some .cell => fq x
 | _ => false)
def okL (N : List Str) (sc : Scope) (i : Nat) (x : Str) : Bool := decide (N[i]? = some x) && (match sc.names.lookup x with
 | some .local => true
 | _ => false)
def okG (sc : Scope) (x : Str) : Bool := (match sc.names.lookup x with
 | some .globalImplicit => true
 | _ => false) && !(x == ("__debug__" : Str)) && !(decide (x = "__name__"))
section
variable {FS : FST} {g : Gx} {k : Nat} {cl : Cll} {N : List Str} {sc : Scope} {fq : Str -> Bool} {X : Cx} {Wx : WX} {pos p : Pos} {x : Str} {i : Nat}
theorem Good.un (G : Good FS g k cl N sc fq X Wx) : X.A.units + 65 < cLine := by have := G.room.un; omega
theorem Good.xN (G : Good FS g k cl N sc fq X Wx) : X.N.Nodup := by rw [G.eN]; exact G.nd
theorem Good.var (G : Good FS g k cl N sc fq X Wx) (i : Nat) (h : okV N sc i x = true) : SE g X Wx (.Name x pos) (mV i) := by
 unfold okV at h
 simp only [Bool.and_eq_true,Bool.not_eq_true',decide_eq_true_eq] at h
 obtain ⟨⟨⟨h1,h2⟩,h3⟩,h4⟩ := h
 refine aFk (by rw [G.eN]; exact h1) ?_ h3 h4
 rw [G.sc]
 unfold Vis
 split at h2
 ·exact .inl ‹_›
 ·exact .inr (.inl ‹_›)
 ·exact .inr (.inr ‹_›)
 ·cases h2
theorem Good.tgt (G : Good FS g k cl N sc fq X Wx) (i : Nat) (h : okT N sc fq i x = true) : SG g X (.Name x pos) (.nm i) := by
 unfold okT at h
 simp only [Bool.and_eq_true,decide_eq_true_eq] at h
 obtain ⟨h1,h2⟩ := h
 refine aC7 G.xN (by rw [G.eN]; exact h1) ?_ ?_
 ·rw [G.sc]
  unfold L2.Loc
  split at h2
  ·exact .inl ‹_›
  ·exact .inr ‹_›
  ·cases h2
 ·rw [G.sc,G.fn]
  split at h2
  ·exact .inr ‹_›
  ·exact .inl h2
  ·cases h2
theorem Good.loc (G : Good FS g k cl N sc fq X Wx) (h : okL N sc i x = true) : X.N[i]? = some x /\ X.env.scope.names.lookup x = some .local := by
 unfold okL at h
 simp only [Bool.and_eq_true,decide_eq_true_eq] at h
 obtain ⟨h1,h2⟩ := h
 refine ⟨by rw [G.eN]; exact h1, ?_⟩
 rw [G.sc]
 split at h2
 ·rename_i e; exact e
 ·cases h2
theorem Good.gl (G : Good FS g k cl N sc fq X Wx) (h : okG sc x = true) : Gl X x /\ (x == ("__debug__" : Str)) = false /\ x ≠ "__name__" := by
 unfold okG at h
 simp only [Bool.and_eq_true,Bool.not_eq_true',decide_eq_false_iff_not] at h
 obtain ⟨⟨h1,h2⟩,h3⟩ := h
 refine ⟨?_,h2,h3⟩
 unfold Gl Env.kindOf
 rw [G.sc]
 split at h1
 ·rename_i e; exact e
 ·cases h1
/-- a name of the module that holds a plain value -/
theorem Good.con (G : Good FS g k cl N sc fq X Wx) {u : Value} {v : V} {w : D} (h : okG sc x = true) (hm : X.mg x = some u) (ru : RelV v u) (nt : w.isTl = false) (rv : ∀ μ H,RV g μ H w v) : SE g X Wx (.Name x pos) (mC w) := by
 obtain ⟨h1,h2,h3⟩ := G.gl h
 exact yY ⟨fun pins s σ H Q I q => ld_glob I h1 hm ⟨v,H,I,ru,q⟩ h2⟩ nt rv
/-- a built-in type by its name -/
theorem Good.typ (G : Good FS g k cl N sc fq X Wx) {n : String} (h : okG sc x = true) (hm : X.mg x = none) (hv : bootBuiltins x = some (.type n)) : SE g X Wx (.Name x pos) (mC (.ty n)) := by
 obtain ⟨h1,h2,h3⟩ := G.gl h
 exact yY ⟨fun pins s σ H Q I q => ld_blt I h1 hm hv (show _ from ⟨.ty n,H,I,rfl,q⟩) h3 h2⟩ rfl fun _ _ => rfl
theorem Good.b1 (G : Good FS g k cl N sc fq X Wx) {bv : Value} {f : D -> Hh -> R D} {a : Expr} {ma : M D} (h : okG sc x = true) (hm : X.mg x = none) (hv : bootBuiltins x = some bv) (hb : pL bv = true) (s : SC1 g X Wx bv f) (he : starEach [a] X.env = [(false,eval a X.env)]) (ha : SE g X Wx a ma) :
  SE g X Wx (.Call (.Name x p) [a] [] pos) (mF1 f ma) := by
 obtain ⟨h1,h2,h3⟩ := G.gl h
 exact aHm s hb h1 hm hv h3 h2 he ha
theorem Good.b2 (G : Good FS g k cl N sc fq X Wx) {bv : Value} {f : D -> D -> Hh -> R D} {a b : Expr} {ma mb : M D} (h : okG sc x = true) (hm : X.mg x = none) (hv : bootBuiltins x = some bv) (hb : pL bv = true) (s : SC2 g X Wx bv f)
  (he : starEach [a,b] X.env = [(false,eval a X.env),(false,eval b X.env)]) (he2 : starEach [b] X.env = [(false,eval b X.env)]) (ha : SE g X Wx a ma) (hb' : SE g X Wx b mb) :
  SE g X Wx (.Call (.Name x p) [a,b] [] pos) (mOp f ma mb) := by
 obtain ⟨h1,h2,h3⟩ := G.gl h
 exact aLx s hb h1 hm hv h3 h2 he he2 ha hb'
end
/-- a def of the module: its object,its promise -/
def FnF (P : Program) (w : World) (K : PySem.W.Frag) (mg : Str -> Option Value) (base : Heap) (g : Gx) (k : Nat) (cl : Cll) (f : Nat) (x : Str) (st : Stmt) (ps : List Str) : Prop :=
 ∃ fa fd,mg x = some (.ref fa) /\ g.fa f = some fa /\ FunD K x x (defArgs st) (defBody st) (defScope st) [] [] fa fd /\ FnG P w K mg base (CX P w) (k + 3) fa fd ps (sQ g ps.length (cl f))
/-- how its arguments are bound,all by place -/
def BdF (x : Str) (st : Stmt) (ps : List Str) : Prop := ∀ (kV doc pm : Value) (an : Option Addr) (cdv ct : Value) (us : List Value),us.length = ps.length -> bindArgs (PySem.W.fnOf x x (defArgs st) (defBody st) (defScope st) .none kV doc pm an cdv ct) ⟨us,[]⟩ = pure (ps.zip us)
def BdK (x : Str) (st : Stmt) (ps ks : List Str) (perm : List Nat) : Prop := ∀ (kV doc pm : Value) (an : Option Addr) (cdv ct : Value) (ws xs : List Value),ws.length = ks.length -> dQ perm ws = some xs ->
 bindArgs (PySem.W.fnOf x x (defArgs st) (defBody st) (defScope st) .none kV doc pm an cdv ct) ⟨[],ks.zip ws⟩ = pure (ps.zip xs)
section
variable {FS : FST} {g : Gx} {k : Nat} {cl : Cll} {N : List Str} {sc : Scope} {fq : Str -> Bool} {X : Cx} {Wx : WX} {pos p : Pos} {x : Str} {i f : Nat} {st : Stmt} {ps : List Str} {e : Expr} {es : List Expr} {ms : List (M D)}
theorem aGd (cl : Cll) (f : Nat) (m : M (List D)) : aR (fun f ws h => cl f (ws ++ []) h) f m = aR cl f m := by
 simp only [List.append_nil]
theorem Good.call (G : Good FS g k cl N sc fq X Wx) (h : okG sc x = true) (F : FnF X.prog X.w X.K X.mg X.base g k cl f x st ps) (bd : BdF x st ps)
  (he : starEach (e :: es) X.env = (false,eval e X.env) :: starEach es X.env) (hpl : (backTo pos (starEach es X.env)).any (·.1) = false) (hl : ms.length = ps.length)
  (ha : SA g X Wx (e :: es) (aA ms)) : SE g X Wx (.Call (.Name x p) (e :: es) [] pos) (aR cl f (aA ms)) := by
 obtain ⟨h1,h2,h3⟩ := G.gl h
 obtain ⟨fa,fd,hm,hf,D,FG⟩ := F
 rw [<- aGd]
 exact aIe (dws := []) (dvs := []) (ds := []) G.tk G.gd G.room FG (D.bindsN bd) .nil (fun _ _ => rfl) h1 hm D.kp h2 he hpl (by simpa using hl) ha
theorem FunD.kb {K : PySem.W.Frag} {fa : Addr} {fd : FuncData} {ks : List Str} {perm : List Nat} (D : FunD K x x (defArgs st) (defBody st) (defScope st) [] [] fa fd) (bd : BdK x st ps ks perm) : KB K fd ps 0 ks perm := by
 obtain ⟨oc,od,dV,kV,doc,pm,an,cdv,ct,osl,rfl,lk,hcd,hD,hK⟩ := D.ex
 rcases hD with ⟨_,rfl⟩ | ⟨e,_⟩
 ·intro s us ws xs KX hu hw ex
  have : us = [] := List.eq_nil_of_length_eq_zero hu
  subst this
  exact .of_eq (bd kV doc pm an cdv ct ws xs hw ex)
 ·exact absurd rfl e
theorem Good.callK (G : Good FS g k cl N sc fq X Wx) {kws : List Keyword} (ks : List Str) (perm : List Nat) (h : okG sc x = true) (F : FnF X.prog X.w X.K X.mg X.base g k cl f x st ps) (bd : BdK x st ps ks perm)
  (hall : (backToKw pos (keywordEach kws X.env)).all (·.1.isSome) = true) (hks : (backToKw pos (keywordEach kws X.env)).filterMap (·.1) = ks) (hno : (backToKw pos (keywordEach kws X.env)).any (·.1.isNone) = false)
  (hp : perm.length = ps.length) (hlk : ms.length = ks.length) (ha : SK g X Wx kws (aA ms)) : SE g X Wx (.Call (.Name x p) [] kws pos) (nV cl f (aA ms) perm) := by
 obtain ⟨h1,h2,h3⟩ := G.gl h
 obtain ⟨fa,fd,hm,hf,D,FG⟩ := F
 exact aFj G.tk G.gd G.room FG (FunD.kb D bd) h1 hm D.kp h2 hall hks hno hp hlk ha
end
theorem Good.blk {FS : FST} {g : Gx} {k : Nat} {cl : Cll} {N : List Str} {sc : Scope} {fq : Str -> Bool} {X : Cx} {Wx : WX} (G : Good FS g k cl N sc fq X Wx) (scope : Scope) (s0 : Shared) (H0 : Hp) (C : Addr) (cls : List (Str × Addr)) (fp : List Addr) :
  Good FS g k cl N (relS scope sc) (fun x => scope.names.lookup x == some .cell) (BX X scope s0 H0 C cls fp) WF where
 K := G.K
 calm := G.calm
 eN := G.eN
 nd := G.nd
 sc := by rw [<- G.sc]; rfl
 fn := rfl
 room := G.room
 gd := G.gd
 tk := fun u s' ⟨a,B,sI,pins,σ,H,cls,d,e,I,nb,up,sky,na,os,ag,w⟩ => w.elim
 fs := G.fs
/-- the names of a block -/
def okB (N : List Str) (sc scope : Scope) (own : List (Str × Nat)) : Bool := (match scope.kind with
  | .function => true
  | _ => false) && scope.names.all (fun y => match scope.names.lookup y.1,y.2 with
  | some .local, .local => true
  | some .cell, .cell => true
  | some .free, .free => true
  | some .globalImplicit, .globalImplicit => true
  | _,_ => false) && own.all (fun p => decide (N[p.2]? = some p.1)) && scope.names.all (fun y => match y.2 with
  | .free => (match sc.names.lookup y.1 with
   | some .cell => true
   | some .free => true
   | _ => false)
  | .local => decide (y.1 ∈ own.map (·.1)) || decide (y.1 ∉ N)
  | .cell => decide (y.1 ∈ own.map (·.1)) || decide (y.1 ∉ N)
  | .globalImplicit => true
  | _ => false)
theorem Good.bok {FS : FST} {g : Gx} {k : Nat} {cl : Cll} {N : List Str} {sc : Scope} {fq : Str -> Bool} {X : Cx} {Wx : WX} {scope : Scope} {own : List (Str × Nat)} (G : Good FS g k cl N sc fq X Wx) (h : okB N sc scope own = true) : BlkOk X.N X.env.scope scope own := by
 unfold okB at h
 simp only [Bool.and_eq_true,List.all_eq_true,decide_eq_true_eq] at h
 obtain ⟨⟨⟨h1,h2⟩,h3⟩,h4⟩ := h
 rw [G.eN,G.sc]
 refine ⟨?_,fun y hy => ?_,h3,fun y hy e => ?_,fun y hy e => ?_⟩
 ·split at h1
  ·assumption
  ·cases h1
 ·have z := h2 y hy
  split at z
  ·rw [‹y.2 = _›]; assumption
  ·rw [‹y.2 = _›]; assumption
  ·rw [‹y.2 = _›]; assumption
  ·rw [‹y.2 = _›]; assumption
  ·cases z
 ·have z := h4 y hy
  rw [e] at z
  simp only at z
  split at z
  ·exact .inl ‹_›
  ·exact .inr ‹_›
  ·cases z
 ·have z := h4 y hy
  rcases e with e | e
  ·rw [e] at z
   simpa using z
  ·rw [e] at z
   simpa using z
def sS (l vs : List Nat) : Bool := l.all fun i => decide (i ∈ vs)
theorem uV {l vs : List Nat} (h : sS l vs = true) : ∀ i ∈ l,i ∈ vs := fun i hi => of_decide_eq_true (List.all_eq_true.mp h i hi)
section
variable {FS : FST} {g : Gx} {k : Nat} {cl : Cll} {N : List Str} {sc : Scope} {fq : Str -> Bool} {X : Cx} {Wx : WX} {elt tg iter tg1 iter1 : Expr} {ifs ifs1 : List Expr} {scope : Scope} {pos py spos : Pos} {mi mi1 : M Src} {t t1 : Tg} {mt mt1 : M Bool} {me : M D} {y : Str}
abbrev fqB (scope : Scope) : Str -> Bool := fun x => scope.names.lookup x == some .cell
/-- none or one test,within a block -/
inductive GTs (FS : FST) (g : Gx) (k : Nat) (cl : Cll) (N : List Str) (sc : Scope) (fq : Str -> Bool) : List Expr -> M Bool -> Prop
 | nil : GTs FS g k cl N sc fq [] (fun _ h => .ok true h)
 | one {c : Expr} {m : M Bool} (hc : ∀ X,Good FS g k cl N sc fq X WF -> ST g X WF c m) : GTs FS g k cl N sc fq [c] m
theorem GTs.sts (G : Good FS g k cl N sc fq X Wx) (h : GTs FS g k cl N (relS scope sc) (fqB scope) ifs mt) : STs g X scope ifs mt := by
 cases h with
 | nil => exact .nil
 | one hc => exact .one fun s0 H0 C c1 fp => hc _ (G.blk scope s0 H0 C c1 fp)
theorem Good.lc (G : Good FS g k cl N sc fq X Wx) (own : List (Str × Nat)) (vs : List Nat) (hB : okB N sc scope own = true) (hvs : own.map (·.2) = vs) (hsl : sS t.slots vs = true) (hs : ∀ x,foldedSetIterable iter X.env x = pure x) (hi : SI g X Wx tg iter mi)
  (hg : ∀ X,Good FS g k cl N (relS scope sc) (fqB scope) X WF -> SG g X tg t) (ht : GTs FS g k cl N (relS scope sc) (fqB scope) ifs mt) (he : ∀ X,Good FS g k cl N (relS scope sc) (fqB scope) X WF -> SE g X WF elt me) :
  SE g X Wx (.ListComp elt [⟨tg,iter,ifs,0⟩] scope pos) (mLc mi t mt me vs) := by
 subst hvs
 exact aLA G.calm G.xN (G.bok hB) (uV hsl) hs hi (fun s0 H0 C c1 fp => hg _ (G.blk scope s0 H0 C c1 fp)) (ht.sts G) (fun s0 H0 C c1 fp => he _ (G.blk scope s0 H0 C c1 fp))
theorem aDa {ts : List Expr} {v : Expr} {env env' : Env} (h : env.scope = env'.scope) : swappedStores ts v env = swappedStores ts v env' := by
 unfold swappedStores Env.blockKind Env.kindOf
 rw [h]
/-- some environment with this scope -/
def env0 (sc : Scope) : Env := { scope := sc,locals := 0,globals := 0,cells := [],qual := "",func := none,code := .none,frame := none,builtins := 0 }
theorem Good.par (G : Good FS g k cl N sc fq X Wx) (i j : Nat) {x y : Str} {a b : Expr} {ma mb : M D} {px py pt : Pos} {kt k2 pt2} (hi : okL N sc i x = true) (hj : okL N sc j y = true) (hij : i ≠ j) (ha : SA g X Wx [a,b] (aA [ma,mb]))
  (hw : swappedStores [.Tuple [.Name x px, .Name y py] kt pt] (.Tuple [a,b] k2 pt2) (env0 sc) = pure (some [x,y])) (hs : swapsWithSole [.Tuple [.Name x px, .Name y py] kt pt] (.Tuple [a,b] k2 pt2) spos.line X.env = pure false) :
  SS g X Wx (.Assign [.Tuple [.Name x px, .Name y py] kt pt] (.Tuple [a,b] k2 pt2) spos) (bI (.tu [.nm i, .nm j]) (bM (aA [ma,mb]))) := by
 obtain ⟨h1,h2⟩ := G.loc hi
 obtain ⟨h3,h4⟩ := G.loc hj
 exact aKo G.calm G.xN h1 h3 hij h2 h4 ha ((aDa G.sc).trans hw) hs
end
end PV
end
section
namespace PV
open PySem PySem.Spec PyProof.Rows L2
/-- what a def's own body has,and a try's body too -/
structure HP (X : Cx) : Prop where
 p : PassesOwn (model X.prog X.w) X.A X.env X.xe
 st : X.stack = X.env :: X.outer
 fr : X.env.frame = some X.env.locals
 ex : X.ex = []
def aT (n : Nat) (ws : List D) : Sg := ws.map some ++ List.replicate (n - ws.length) none
def eV (r : RT) : R D := match r with
 | .nx _ h => .ok .non h
 | .ret w h => .ok w h
 | .exc c fs _ h => .exc c fs h
 | _ => .bad
/-- a def: how many names,how many parameters,what its body does -/
structure Fd where
 nN : Nat
 np : Nat
 body : Cll -> MS
abbrev Tab := Nat -> Option Fd
def aBI (d : Fd) (cl : Cll) (ws : List D) (h : Hh) : R D := if ws.length = d.np then eV (d.body cl (aT d.nN ws) h) else .bad
def aM (T : Tab) : Nat -> Cll
 | 0 => fun _ _ _ => .bad
 | k + 1 => fun f ws h => match T f with
  | some d => aBI d (aM T k) ws h
  | none => .bad
theorem aFt {g : Gx} {μ : List Addr} {H : Hp} {N : List Str} : ∀ {ws : List D} {vs : List V},RVs g μ H ws vs -> ws.length <= N.length -> RS g μ H (aT N.length ws) (L2.start N vs) := by
 intro ws vs q hl
 have l := q.length
 refine ⟨?_,fun i w e => ?_⟩
 ·unfold aT L2.start
  simp [l]
 ·unfold aT at e
  unfold L2.start
  rcases Nat.lt_or_ge i ws.length with hi | hi
  ·rw [List.getElem?_append_left (by simpa using hi)] at e
   rw [List.getElem?_map] at e
   cases e2 : ws[i]? with
   | none => rw [e2] at e; cases e
   | some w' =>
    rw [e2] at e
    cases e
    obtain ⟨v,ev,nt,z⟩ := q.get e2
    refine ⟨v, ?_,nt,z⟩
    rw [List.getElem?_append_left (by simpa [l] using hi),List.getElem?_map,ev]
    rfl
  ·rw [List.getElem?_append_right (by simpa using hi)] at e
   rw [List.getElem?_replicate] at e
   split at e <;> cases e
section
variable {FS : FST} {P : Program} {w : World} {K : PySem.W.Frag} {mg : Str -> Option Value} {base : Heap} {g : Gx} {k : Nat} {x : Str} {st : Stmt} {fa : Addr} {fd : FuncData} {N ps : List Str} {T : Tab} {f : Nat} {m : Cll -> MS}
theorem aFV {n : Nat} : FnG P w K mg base (CX P w) n fa fd ps (sQ g ps.length (aM T 0 f)) :=
 ⟨fun vs H Q E ⟨ws,h,μ,σ,hl,_⟩ => hl,fun A outer s H args us vs Q E _ _ _ _ _ ⟨ws,h,μ,σ,hl,q,rh,po⟩ => po.elim⟩
theorem aA1 {q : Str} {dvs : List V} {kws : List (Str × V)} (D : FunD K x q (defArgs st) (defBody st) (defScope st) dvs kws fa fd) (S : FnScope N ps (defScope st)) (hK : K = g.K) (fs : FS P w K mg base g k (aM T k)) (hT : T f = some ⟨N.length,ps.length,m⟩) (hn : ps.length <= N.length)
  (sl : ∀ X Wx,Good FS g k (aM T k) N (defScope st) (fun _ => true) X Wx -> HP X -> SL g X Wx (defBody st) (m (aM T k))) :
  FnG P w K mg base (CX P w) (k + 1 + 3) fa fd ps (sQ g ps.length (aM T (k + 1) f)) := by
 obtain ⟨oc,od,dV,kV,doc,pm,an,cdv,ct,osl,rfl,lk,hcd,_,_⟩ := D.ex
 refine aIW (k := k + 3) lk hcd S (fun vs H Q E ⟨ws,h,μ,σ,hl,_⟩ => hl) fun A outer s H vs Q E hgd hr ⟨ws,h,μ,σ,hl,qq,rh,po⟩ => ?_
 have l := qq.length
 refine ⟨_,tP, ?_⟩
 have G : Good FS g k (aM T k) N (defScope st) (fun _ => true) (cxOf (CX P w) P w K mg base N q (defScope st) fa cdv A outer s H E) (fun cv d _ H' => E cv d H') :=
  ⟨hK,rfl,rfl,S.nd,rfl,rfl,hr,hgd,takes_of rfl rfl rfl rfl,fs⟩
 refine sl _ _ G ⟨passes_of rfl,rfl,rfl,rfl⟩ (aT N.length ws) h (L2.start N vs) H μ _ (aFt qq (by omega)) rh ?_
 have e : aM T (k + 1) f ws h = aBI ⟨N.length,ps.length,m⟩ (aM T k) ws h := by simp only [aM,hT]
 rw [e] at po
 have hw : ws.length = ps.length := by omega
 simp only [aBI,hw,if_true] at po
 cases hx : m (aM T k) (aT N.length ws) h with
 | nx σ1 h1 => rw [hx] at po; exact fun μ1 H1 σ1' x1 r1 s1 => po μ1 H1 x1 r1 .non rfl (.of rfl)
 | ret w1 h1 => rw [hx] at po; exact fun μ1 H1 v x1 r1 q1 f1 => po μ1 H1 x1 r1 v q1 f1
 | brk σ1 h1 => rw [hx] at po; exact po.elim
 | cont σ1 h1 => rw [hx] at po; exact po.elim
 | exc c fs1 σ1 h1 => rw [hx] at po; exact fun μ1 H1 σ1' cv d x1 r1 s1 v1 => po μ1 H1 cv d x1 r1 v1
 | bad => rw [hx] at po; exact po.elim
theorem bQ (D : FunD K x x (defArgs st) (defBody st) (defScope st) [] [] fa fd) (hm : mg x = some (.ref fa)) (hf : g.fa f = some fa) : FnF P w K mg base g 0 (aM T 0) f x st ps := ⟨fa,fd,hm,hf,D,aFV⟩
end
end PV
end
section
namespace PV
open PySem PySem.Spec PyProof.Rows L2
/-- the script alone may be tracked,and it is never written -/
structure Alone (K : PySem.W.Frag) (H : Hp) (a : Addr) : Prop where
 at_ : ∀ b,H b = none \/ b = a /\ ∃ o xs,H b = some (.frz o (.lst xs))
 own : H a = none \/ K.lookup a = none
section
variable {P : Program} {w : World} {K : PySem.W.Frag} {mg mb : Str -> Option Value} {k : Nat} {fa a : Addr} {fd : FuncData} {x : Str} {sp : Sp} {s₁ : Shared} {vs : List Value} {ns : List Int} {H : Hp}
theorem aBf (al : Alone K H a) (KX : K.In s₁.heap) (hns : s₁.heap.Ns mainGlobals mg) (hb : s₁.heap.Ns builtinsNs mb) (hbb : ∀ x : Str,x ≠ "__name__" -> mb x = bootBuiltins x) (hlim : s₁.heap.NoLimit) (hg : s₁.gens = #[])
  (ha : s₁.heap.get? a = some { cls := .type "list",data := .seq vs.toArray }) (hok : HOk P w H s₁.heap) (hr : Room k callerA)
  (F : ∀ base : Heap,K.In base -> base.Ns mainGlobals mg -> FnG P w K mg base (CX P w) k fa fd [x] sp) (hbind : ∀ (s : Shared) (u : Value),BindsTo s fd ⟨[u],[]⟩ [(x,u)])
  (hsp : sp [.ref a] H (fun v _ => v = .bl true) fun _ _ _ => False) :
  codeAny (model P w) callerA (.call (.ref fa) ⟨[.ref a],[]⟩) (fun r s' => r = .ok (.ret (.bool true)) /\ OldK s₁.heap s'.heap /\ s'.os = s₁.os /\ AllBare s'.gens) s₁ := by
 generalize hB : hidT s₁.heap H = B
 have get : ∀ {b : Addr} {o : Obj},s₁.heap.get? b = some o -> H b = none -> B.get? b = some o := fun e n => by rw [<- hB]; exact hidT_get e n
 have dict : ∀ {b : Addr} {o : Obj} {es : Array DictEntry} {ep : Nat},s₁.heap.get? b = some o -> o.data = .dict es ep -> H b = none := by
  intro b o es ep e d
  rcases al.at_ b with z | ⟨rfl,_⟩
  ·exact z
  ·exfalso
   rw [ha] at e
   cases Option.some.inj e
   exact Data.noConfusion d
 have keepNs : ∀ {b : Addr} {m : Str -> Option Value},s₁.heap.Ns b m -> B.Ns b m := by
  rintro b m ⟨o,es,ep,e,d,r⟩
  exact ⟨o,es,ep,get e (dict e d),d,r⟩
 have kb : K.In B := by
  intro b o e
  refine get (KX b o e) ?_
  rcases al.at_ b with z | ⟨rfl,_⟩
  ·exact z
  ·rcases al.own with z | z
   ·exact z
   ·rw [z] at e; cases e
 obtain ⟨mc,c1,c2⟩ := hlim
 have env : Env0 P w K mg B callerA [] s₁ H := ⟨rfl,⟨kb,keepNs hns,⟨mb,keepNs hb,hbb⟩,⟨mc,keepNs c1,c2⟩⟩,fun b o e => of_hidT (by rw [hB]; exact e),by rw [<- hB]; exact Nat.le_of_eq (hidT_size _ _),trivial,fun b hb => absurd (show b ∈ ([] : List Addr) from hb) (by simp),hok, .of_eq hg⟩
 have run := (F B kb (keepNs hns)).run callerA [] s₁ H ⟨[.ref a],[]⟩ [.ref a] [.ref a] _ _ rfl hr env (hbind s₁ (.ref a)) (.cons rfl .nil) hsp
 refine codeAny_mono run ?_
 rintro (e | fl) s' hq
 ·obtain ⟨_,_,_,_,_,_,_,_,_,_,_,_,z⟩ := hq
  exact z.elim
 ·cases fl with
  | next => exact False.elim hq
  | brk => exact False.elim hq
  | cont => exact False.elim hq
  | ret u =>
   obtain ⟨v,H',os,bare,un,hok',rv,qv⟩ := hq
   rw [show v = .bl true from qv] at rv
   rw [show u = Value.bool true from rv]
   refine ⟨rfl,OldK.of_keep fun b o e => ?_,os,bare⟩
   rcases al.at_ b with z | ⟨rfl,ob,xs,z⟩
   ·exact un.keep b o e z (fun z => absurd (show b ∈ ([] : List Addr) from z) (by simp)) (by simp)
   ·have h1 := (hok b _ z).1
    have h2 := (hok' b _ (un.frzs b ob _ z)).1
    exact h2.trans (h1.symm.trans e)
theorem aEK (KX : K.In s₁.heap) (hns : s₁.heap.Ns mainGlobals mg) (hb : s₁.heap.Ns builtinsNs mb) (hbb : ∀ x : Str,x ≠ "__name__" -> mb x = bootBuiltins x) (hlim : s₁.heap.NoLimit) (hg : s₁.gens = #[])
  (ha : s₁.heap.get? a = some { cls := .type "list",data := .seq vs.toArray }) (hi : IntsAre vs ns) (hl : ns.length <= sizeLine) (hr : Room k callerA)
  (F : ∀ base : Heap,K.In base -> base.Ns mainGlobals mg -> FnG P w K mg base (CX P w) k fa fd [x] sp) (hbind : ∀ (s : Shared) (u : Value),BindsTo s fd ⟨[u],[]⟩ [(x,u)])
  (hsp : ∀ H : Hp,SqF K H a (ns.map V.int) -> sp [.ref a] H (fun v _ => v = .bl true) fun _ _ _ => False) :
  codeAny (model P w) callerA (.call (.ref fa) ⟨[.ref a],[]⟩) (fun r s' => r = .ok (.ret (.bool true)) /\ OldK s₁.heap s'.heap /\ s'.os = s₁.os /\ AllBare s'.gens) s₁ := by
 have rv := vals_ints hi
 have lv := hi.length
 by_cases hk : K.lookup a = none
 ·have e : (fun b : Addr => if b = a then some (HO.frz { cls := .type "list",data := .seq vs.toArray } (.lst (ns.map V.int))) else none) a = some (HO.frz { cls := .type "list",data := .seq vs.toArray } (.lst (ns.map V.int))) := if_pos rfl
  generalize hH : (fun b : Addr => if b = a then some (HO.frz { cls := .type "list",data := .seq vs.toArray } (.lst (ns.map V.int))) else none) = H at e
  have other : ∀ b,b ≠ a -> H b = none := fun b n => by rw [<- hH]; exact if_neg n
  refine aBf (H := H) ⟨fun b => ?_, .inr hk⟩ KX hns hb hbb hlim hg ha (fun b u z => ?_) hr F hbind (hsp H (.inl ⟨_,e⟩))
  ·by_cases n : b = a
   ·exact .inr ⟨n,by rw [n]; exact ⟨_,_,e⟩⟩
   ·exact .inl (other b n)
  ·by_cases n : b = a
   ·subst n
    rw [e] at z
    cases Option.some.inj z
    exact ⟨ha,by rw [List.length_map]; exact hl,vs,_,rv,ha⟩
   ·rw [other b n] at z; cases z
 ·cases q : K.lookup a with
  | none => exact absurd q hk
  | some o =>
   have e := KX a o q
   rw [ha] at e
   cases Option.some.inj e
   exact aBf (H := fun _ => none) ⟨fun _ => .inl rfl, .inl rfl⟩ KX hns hb hbb hlim hg ha (fun b u z => by cases z) hr F hbind
    (hsp _ (.inr ⟨_,vs.toArray,_,q,rfl,rfl,rfl,by rw [List.size_toArray,lv]; exact hl,by simpa using rv⟩))
end
theorem walkG {l : PySem.W.OpenLaw} {n k : Nat} {q : Program} {loose : List Str} {XP : (Str -> Option Value) -> Heap -> Prop} {YP : World -> Heap -> Prop} {d : DefRec} {x : Str} (hn : l.most = some n) (hn2 : n <= sizeLine) (hdf : d.params.defaults = []) (hr : Room k callerA)
  (F : ∀ (w : World) (mg : Str -> Option Value) (fa : Addr) (h : Heap),YP w h -> h.Ns mainGlobals mg -> mg d.name = some (.ref fa) ->
   ∃ (K : PySem.W.Frag) (fd : FuncData) (sp : Sp),K.In h /\ (∀ (s : Shared) (u : Value),BindsTo s fd ⟨[u],[]⟩ [(x,u)]) /\
    (∀ (H : Hp) (a : Addr) (ns : List Int),ns.length <= n -> SqF K H a (ns.map V.int) -> sp [.ref a] H (fun v _ => v = .bl true) fun _ _ _ => False) /\
    ∀ base : Heap,K.In base -> base.Ns mainGlobals mg -> FnG l.prog w K mg base (CX l.prog w) k fa fd [x] sp) :
  PySem.W.WalkO q loose XP YP l.row.toRowW d [] (fun f vs => PySem.call f vs) := by
 refine Att.attach_call hn hdf ?_
 intro w s₀ s₁ mg mb fa o pm cd doc a vs ns G Y ho hd hcd hmg hobj hints hlen hg
 obtain ⟨K,fd,sp,KX,hb,hsp,hF⟩ := F w mg fa _ Y G.T.g hmg
 exact aEK KX G.T.g G.T.b G.T.builtins G.T.nolimit hg hobj hints (Nat.le_trans hlen hn2) hr hF hb fun H hS => hsp H a ns hlen hS
end PV
end
section
namespace PV
open PySem PySem.Spec PyProof.Rows L2
def on1 (T : String) (op : Op1) : String -> Option Op1 := fun t => if t = T then some op else none
def on0 (T : String) (op : Op0) : String -> Option Op0 := fun t => if t = T then some op else none
def on2 (T : String) (op : Op2) : String -> Option Op2 := fun t => if t = T then some op else none
theorem tO : MtF "list" "append" "list.append" := ⟨PySem.F.plainAttrs_list,PySem.F.slot_list_append,PySem.F.type_list_append⟩
theorem zX : MtF "list" "extend" "list.extend" := ⟨PySem.F.plainAttrs_list,PySem.F.slot_list_extend,PySem.F.type_list_extend⟩
theorem aEP : MtF "list" "pop" "list.pop" := ⟨PySem.F.plainAttrs_list,PySem.F.slot_list_pop,PySem.F.type_list_pop⟩
section
variable {FS : FST} {g : Gx} {k : Nat} {cl : Cll} {N : List Str} {sc : Scope} {fq : Str -> Bool} {X : Cx} {Wx : WX} {o a b : Expr} {mo ma mb : M D} {name : Str} {apos cpos : Pos} {T id : String} {op0 : Op0} {op1 : Op1} {op2 : Op2}
theorem Good.m1 (G : Good FS g k cl N sc fq X Wx) (F : MtF T name id) (sm : SM1 g X Wx id op1) (hbase : attributeBase o name X.env (eval o X.env) = eval o X.env) (hline : (apos.endLine == cpos.line) = true) (hs : starEach [a] X.env = [(false,eval a X.env)])
  (ho : SE g X Wx o mo) (ha : SE g X Wx a ma) : SE g X Wx (.Call (.Attribute o name apos) [a] [] cpos) (mM1 (on1 T op1) mo ma) :=
 aLB G.K F (fun T' op e => by
  unfold on1 at e
  split at e
  ·rename_i h; subst h; cases e; exact ⟨id,F,sm⟩
  ·cases e) hbase hline hs ho ha
theorem Good.m2 (G : Good FS g k cl N sc fq X Wx) (F : MtF T name id) (sm : SM2 g X Wx id op2) (hbase : attributeBase o name X.env (eval o X.env) = eval o X.env) (hline : (apos.endLine == cpos.line) = true)
  (hs : starEach [a,b] X.env = [(false,eval a X.env),(false,eval b X.env)]) (hs2 : starEach [b] X.env = [(false,eval b X.env)])
  (ho : SE g X Wx o mo) (ha : SE g X Wx a ma) (hb : SE g X Wx b mb) : SE g X Wx (.Call (.Attribute o name apos) [a,b] [] cpos) (mM2 (on2 T op2) mo ma mb) :=
 aLC G.K F (fun T' op e => by
  unfold on2 at e
  split at e
  ·rename_i h; subst h; cases e; exact ⟨id,F,sm⟩
  ·cases e) hbase hline hs hs2 ho ha hb
/-- isinstance with one built-in type -/
def gP (x y : D) (h : Hh) : R D := match y with
 | .ty n => match aAC h x n with
  | some b => .ok (.bl b) h
  | none => .bad
 | _ => .bad
theorem aJT (hK : X.K = g.K) : SC2 g X Wx (.builtin "isinstance") gP := by
 intro x y h σ H μ vx vy Q rh qx qy po
 unfold gP at po
 split at po
 ·rename_i n
  split at po
  ·rename_i r e
   unfold aAC at e
   split at e
   ·rename_i t et
    rw [show vy = .ty n from qy]
    exact gD call_isi ⟨vx, .ty n, .type t, .type n,r,rfl, .ty n,by rw [hK]; exact aKD rh qx et,kit_ty e,po.at rh _ rfl (.of rfl)⟩
   ·cases e
  ·exact po.elim
 ·exact po.elim
end
end PV
end
section
namespace PV
open PySem PySem.Spec PyProof.Rows L2
section
variable {FS : FST} {g : Gx} {k : Nat} {cl : Cll} {N : List Str} {sc : Scope} {fq : Str -> Bool} {X : Cx} {Wx : WX} {x : Str} {pos : Pos}
theorem Good.u1 (G : Good FS g k cl N sc fq X Wx) : X.A.units + 1 < cLine := by have := G.un; omega
theorem Good.u64 (G : Good FS g k cl N sc fq X Wx) : X.A.units + 64 < cLine := by have := G.un; omega
theorem Good.u0 (G : Good FS g k cl N sc fq X Wx) : X.A.units < cLine := by have := G.un; omega
theorem Good.conS (G : Good FS g k cl N sc fq X Wx) {z : Str} (h : okG sc x = true) (hm : ∃ t,X.mg x = some (.str z t)) : SE g X Wx (.Name x pos) (mC (.str z)) := by
 obtain ⟨t,hm⟩ := hm
 exact G.con (v := .str z) h hm ⟨t,rfl⟩ rfl fun _ _ => rfl
theorem Good.conI (G : Good FS g k cl N sc fq X Wx) {z : Int} (h : okG sc x = true) (hm : ∃ t,X.mg x = some (.int z t)) : SE g X Wx (.Name x pos) (mC (.int z)) := by
 obtain ⟨t,hm⟩ := hm
 exact G.con (v := .int z) h hm ⟨t,rfl⟩ rfl fun _ _ => rfl
theorem Good.sws (G : Good FS g k cl N sc fq X Wx) {ts : List Expr} {v : Expr} {r : Sem (Option (List Str))} (h : swappedStores ts v (env0 sc) = r) : swappedStores ts v X.env = r := (aDa (env' := env0 sc) G.sc).trans h
end
end PV
end
section
namespace PV
open PySem PySem.Spec PyProof.Rows L2
/-- no starred one -/
def nSt : Expr -> Bool
 | .Starred _ _ => false
 | _ => true
def gU : List Expr -> Bool
 | [] => true
 | e :: es => nSt e && gU es
/-- no comprehension,no set -/
def nCo : Expr -> Bool
 | .ListComp .. => false
 | .SetComp .. => false
 | .DictComp .. => false
 | _ => true
def yP : Expr -> Bool
 | .Set .. => false
 | _ => true
def nSl : Expr -> Bool
 | .Slice .. => false
 | _ => true
/-- a test whose value is looked at -/
def vTe : Expr -> Bool
 | .UnaryOp .. => false
 | .BoolOp .. => false
 | .IfExp .. => false
 | .Compare .. => false
 | _ => true
def nC0 : Expr -> Bool
 | .Call _ [] _ _ => false
 | _ => true
section
variable {e a b o i : Expr} {es : List Expr} {env : Env} {pos tpos : Pos}
theorem xY (h : nSt e = true) : starEach (e :: es) env = (false,eval e env) :: starEach es env := by cases e <;> first | rfl | cases h
theorem sR (h : nSt a = true) : starEach [a] env = [(false,eval a env)] := xY h
theorem aFs (h : gU [a,b] = true) : starEach [a,b] env = [(false,eval a env),(false,eval b env)] := by
 simp only [gU,Bool.and_true,Bool.and_eq_true] at h
 rw [xY h.1,sR h.2]
theorem aLQ (h : gU es = true) : (backTo pos (starEach es env)).any (·.1) = false := by
 induction es with
 | nil => rfl
 | cons e es ih =>
  simp only [gU,Bool.and_eq_true] at h
  rw [xY h.1]
  unfold backTo
  rw [List.map_cons,List.any_cons]
  exact ih h.2
theorem aFF (h : nSt e = true) : assignEach (e :: es) env = (false,assign e env) :: assignEach es env := by cases e <;> first | rfl | cases h
theorem aDg (h : nSt e = true) : (assignEach (e :: es) env).map (·.2) = assign e env :: (assignEach es env).map (·.2) := by rw [aFF h]; rfl
theorem aMo (h : gU es = true) : (assignEach es env).length = es.length := by
 induction es with
 | nil => rfl
 | cons e es ih =>
  simp only [gU,Bool.and_eq_true] at h
  rw [aFF h.1,List.length_cons,List.length_cons,ih h.2]
theorem aMn (h : gU es = true) : (assignEach es env).findIdx? (·.1) = none := by
 induction es with
 | nil => rfl
 | cons e es ih =>
  simp only [gU,Bool.and_eq_true] at h
  rw [aFF h.1,List.findIdx?_cons]
  simp [ih h.2]
theorem swN {t : Option Expr} {l : Nat} (h : nCo e = true) : swapsWith e t l env = pure false := by cases e <;> first | rfl | cases h
theorem swS {t : Expr} {l : Nat} (h : nCo e = true) : swapsWithSole [t] e l env = pure false := swN h
theorem aAA {x : Value} (h : yP e = true) : foldedSetIterable e env x = pure x := by cases e <;> first | rfl | cases h
theorem ixP (h : nSl b = true) : PlainIx b := fun o i => by cases b <;> first | rfl | cases h
theorem aLT {whole : Sem Value} (h : vTe a = true) : isTrue a env whole = (do let v <- whole; standAt a.pos; holding [v] (truthy v)) := by cases a <;> first | rfl | cases h
theorem aII {n : Str} (h : nC0 o = true) : attributeBase o n env (eval o env) = eval o env := by
 cases o
 case Call f as ks p =>
  cases as with
  | nil => cases h
  | cons a as => cases f <;> rfl
 all_goals rfl
theorem aIw {x : Str} {p : Pos} : swappedStores [.Name x p] e env = pure none := by cases e <;> rfl
theorem aKy {p : Pos} : swappedStores [.Subscript o i p] e env = pure none := by cases e <;> rfl
theorem aIH (h : nSl i = true) (v : Value) : assign (.Subscript o i tpos) env v = (do
   let ov <- holding [v] (eval o env)
   let iv <- holding [v,ov] (eval i env)
   standAt tpos
   holding [v,ov,iv] (setItem ov iv v)
   release [v,ov,iv] []) := by cases i <;> first | rfl | cases h
end
section
variable {FS : FST} {g : Gx} {k : Nat} {cl : Cll} {N : List Str} {sc : Scope} {fq : Str -> Bool} {X : Cx} {Wx : WX} {pos p apos cpos tpos spos : Pos} {x name : Str} {f : Nat} {st : Stmt} {ps : List Str} {e a b o i tg iter : Expr} {es : List Expr} {ma mb mo me mi : M D} {ms : List (M D)}
theorem sac (ha : SE g X Wx e ma) (hr : SA g X Wx es (aA ms)) (h : nSt e = true) : SA g X Wx (e :: es) (aA (ma :: ms)) := aIb ha hr (xY h)
theorem Good.cal (G : Good FS g k cl N sc fq X Wx) (h : okG sc x = true) (F : FnF X.prog X.w X.K X.mg X.base g k cl f x st ps) (bd : BdF x st ps) (hs : gU (e :: es) = true) (hl : ms.length = ps.length) (ha : SA g X Wx (e :: es) (aA ms)) :
  SE g X Wx (.Call (.Name x p) (e :: es) [] pos) (aR cl f (aA ms)) := by
 simp only [gU,Bool.and_eq_true] at hs
 exact G.call h F bd (xY hs.1) (aLQ hs.2) hl ha
theorem Good.calK (G : Good FS g k cl N sc fq X Wx) {kws : List Keyword} (ks : List Str) (perm : List Nat) (h : okG sc x = true) (F : FnF X.prog X.w X.K X.mg X.base g k cl f x st ps) (bd : BdK x st ps ks perm)
  (hks : kws.map (·.arg) = ks.map some) (hp : perm.length = ps.length) (hlk : ms.length = ks.length) (ha : SK g X Wx kws (aA ms)) : SE g X Wx (.Call (.Name x p) [] kws pos) (nV cl f (aA ms) perm) := by
 have key : ∀ (kws : List Keyword) (ks : List Str),kws.map (·.arg) = ks.map some ->
   (backToKw pos (keywordEach kws X.env)).all (·.1.isSome) = true /\ (backToKw pos (keywordEach kws X.env)).filterMap (·.1) = ks /\ (backToKw pos (keywordEach kws X.env)).any (·.1.isNone) = false := by
  intro kws
  induction kws with
  | nil => intro ks h; cases ks with
   | nil => exact ⟨rfl,rfl,rfl⟩
   | cons _ _ => cases h
  | cons q kws ih =>
   intro ks h
   cases ks with
   | nil => cases h
   | cons y ks =>
    simp only [List.map_cons,List.cons.injEq] at h
    obtain ⟨h1,h2,h3⟩ := ih ks h.2
    obtain ⟨n,v,pp⟩ := q
    have h0 : n = some y := h.1
    subst h0
    have e : backToKw pos (keywordEach (⟨some y,v,pp⟩ :: kws) X.env) = (some y,do let v <- eval v X.env; standAt pos; pure v) :: backToKw pos (keywordEach kws X.env) := rfl
    rw [e]
    refine ⟨?_, ?_, ?_⟩
    ·rw [List.all_cons,h1]; rfl
    ·rw [List.filterMap_cons,h2]
    ·rw [List.any_cons,h3]; rfl
 obtain ⟨h1,h2,h3⟩ := key kws ks hks
 exact G.callK ks perm h F bd h1 h2 h3 hp hlk ha
theorem Good.f1 (G : Good FS g k cl N sc fq X Wx) {bv : Value} {f : D -> Hh -> R D} (h : okG sc x = true) (hm : X.mg x = none) (hv : bootBuiltins x = some bv) (hb : pL bv = true) (s : SC1 g X Wx bv f) (hs : nSt a = true) (ha : SE g X Wx a ma) :
  SE g X Wx (.Call (.Name x p) [a] [] pos) (mF1 f ma) := G.b1 h hm hv hb s (sR hs) ha
theorem Good.f2 (G : Good FS g k cl N sc fq X Wx) {bv : Value} {f : D -> D -> Hh -> R D} (h : okG sc x = true) (hm : X.mg x = none) (hv : bootBuiltins x = some bv) (hb : pL bv = true) (s : SC2 g X Wx bv f) (hs : gU [a,b] = true) (ha : SE g X Wx a ma) (hb' : SE g X Wx b mb) :
  SE g X Wx (.Call (.Name x p) [a,b] [] pos) (mOp f ma mb) := by
 have h2 := hs
 simp only [gU,Bool.and_true,Bool.and_eq_true] at h2
 exact G.b2 h hm hv hb s (aFs hs) (sR h2.2) ha hb'
theorem Good.k1 (G : Good FS g k cl N sc fq X Wx) {T id : String} {op : Op1} (F : MtF T name id) (sm : SM1 g X Wx id op) (hb : nC0 o = true) (hline : (apos.endLine == cpos.line) = true) (hs : nSt a = true) (ho : SE g X Wx o mo) (ha : SE g X Wx a ma) :
  SE g X Wx (.Call (.Attribute o name apos) [a] [] cpos) (mM1 (on1 T op) mo ma) := G.m1 F sm (aII hb) hline (sR hs) ho ha
theorem Good.k2 (G : Good FS g k cl N sc fq X Wx) {T id : String} {op : Op2} (F : MtF T name id) (sm : SM2 g X Wx id op) (hb : nC0 o = true) (hline : (apos.endLine == cpos.line) = true) (hs : gU [a,b] = true) (ho : SE g X Wx o mo) (ha : SE g X Wx a ma) (hb' : SE g X Wx b mb) :
  SE g X Wx (.Call (.Attribute o name apos) [a,b] [] cpos) (mM2 (on2 T op) mo ma mb) := by
 have h2 := hs
 simp only [gU,Bool.and_true,Bool.and_eq_true] at h2
 exact G.m2 F sm (aII hb) hline (aFs hs) (sR h2.2) ho ha hb'
theorem Good.ix (G : Good FS g k cl N sc fq X Wx) (ha : SE g X Wx a ma) (hb : SE g X Wx b mb) (h : nSl b = true) : SE g X Wx (.Subscript a b pos) (mOp ixW ma mb) := aLz G.K G.u1 ha hb (ixP h)
theorem stv (ha : SE g X Wx a ma) (h : vTe a = true) : ST g X Wx a (mB ma) := aKt ha fun _ => aLT h
theorem Good.r1 (G : Good FS g k cl N sc fq X Wx) (h : okG sc "range" = true) (hm : X.mg "range" = none) (hs : nSt e = true) (he : SE g X Wx e me) : SI g X Wx tg (.Call (.Name "range" p) [e] [] pos) (iO me) := aLF (G.gl h).1 hm (sR hs) he
theorem sgc {t : Tg} {ts : List Tg} (h1 : SG g X e t) (h2 : SGs g X es ts) (h : nSt e = true) : SGs g X (e :: es) (t :: ts) := aGF h1 h2 (aDg h)
theorem Good.tup {n : Nat} {ts : List Tg} (G : Good FS g k cl N sc fq X Wx) (hs : SGs g X es ts) (h : gU es = true) (hl : es.length = ts.length) : SG g X (.Tuple es n pos) (.tu ts) := aKc G.K G.calm hs ((aMo h).trans hl) (aMn h)
theorem aHr {t : Tg} (he : SE g X Wx e me) (hg : SG g X (.Name x p) t) (h : nCo e = true) : SS g X Wx (.Assign [.Name x p] e spos) (bI t me) := aFr he hg (swS h) aIw (aDg rfl)
theorem Good.asgT {n : Nat} {t : Tg} (G : Good FS g k cl N sc fq X Wx) (he : SE g X Wx e me) (hg : SG g X (.Tuple es n p) t) (h : nCo e = true) (h2 : swappedStores [.Tuple es n p] e (env0 sc) = pure none) : SS g X Wx (.Assign [.Tuple es n p] e spos) (bI t me) := aFr he hg (swS h) (G.sws h2) (aDg rfl)
theorem Good.sub (G : Good FS g k cl N sc fq X Wx) (he : SE g X Wx e me) (ho : SE g X Wx o mo) (hi : SE g X Wx i mi) (h : nCo e = true) (h2 : nSl i = true) : SS g X Wx (.Assign [.Subscript o i tpos] e spos) (lS me mo mi) :=
 aKq G.u1 he ho hi (aIH h2) (swS h) aKy (aDg rfl)
theorem sse (he : SE g X Wx e me) (h : nCo e = true) : SS g X Wx (.Expr e spos) (iP me) := aIu he (swN h)
theorem ssf {t : Tg} {mi : M Src} {mb : MS} {body : List Stmt} (hp : PassesOwn (model X.prog X.w) X.A X.env X.xe) (G : Good FS g k cl N sc fq X Wx) (hi : SI g X Wx tg iter mi) (hg : SG g X tg t) (hb : SL g X Wx body mb) (h : yP iter = true) : SS g X Wx (.For tg iter body [] pos) (kY mi t mb) :=
 aKn hp G.calm hi hg hb fun _ => aAA h
end
end PV
end
section
namespace PV
open PySem PySem.Spec PyProof.Rows L2
structure QE (g : Gx) (X : Cx) (Wx : WX) (e : Expr) (m : M D) : Prop where
 p : SE g X Wx e m
structure QT (g : Gx) (X : Cx) (Wx : WX) (e : Expr) (m : M Bool) : Prop where
 p : ST g X Wx e m
structure QW (g : Gx) (X : Cx) (Wx : WX) (e : Expr) (m : M Bool) : Prop where
 p : SW g X Wx e m
structure QA (g : Gx) (X : Cx) (Wx : WX) (es : List Expr) (m : M (List D)) : Prop where
 p : SA g X Wx es m
structure QK (g : Gx) (X : Cx) (Wx : WX) (kws : List Keyword) (m : M (List D)) : Prop where
 p : SK g X Wx kws m
structure QP (g : Gx) (X : Cx) (Wx : WX) (e : Option Expr) (m : Option (M D)) : Prop where
 p : SP' g X Wx e m
structure QG (g : Gx) (X : Cx) (e : Expr) (t : Tg) : Prop where
 p : SG g X e t
structure QGs (g : Gx) (X : Cx) (es : List Expr) (ts : List Tg) : Prop where
 p : SGs g X es ts
structure QI (g : Gx) (X : Cx) (Wx : WX) (tg e : Expr) (m : M Src) : Prop where
 p : SI g X Wx tg e m
structure QS (g : Gx) (X : Cx) (Wx : WX) (s : Stmt) (m : MS) : Prop where
 p : SS g X Wx s m
structure QL (g : Gx) (X : Cx) (Wx : WX) (s : List Stmt) (m : MS) : Prop where
 p : SL g X Wx s m
structure QO (g : Gx) (X : Cx) (Wx : WX) (f : Value -> Value -> Sem Value) (m : D -> D -> Hh -> R D) : Prop where
 p : SO g X Wx f m
structure QC1 (g : Gx) (X : Cx) (Wx : WX) (f : Value) (m : D -> Hh -> R D) : Prop where
 p : SC1 g X Wx f m
structure QC2 (g : Gx) (X : Cx) (Wx : WX) (f : Value) (m : D -> D -> Hh -> R D) : Prop where
 p : SC2 g X Wx f m
structure QM1 (g : Gx) (X : Cx) (Wx : WX) (id : String) (op : Op1) : Prop where
 p : SM1 g X Wx id op
section
variable {FS : FST} {g : Gx} {k : Nat} {cl : Cll} {N : List Str} {sc : Scope} {fq : Str -> Bool} {X : Cx} {Wx : WX} {pos p apos cpos tpos spos p2 : Pos} {x name y : Str} {f : Nat} {st : Stmt} {ps : List Str} {e a b c o i tg iter tg1 iter1 elt : Expr} {es : List Expr} {ma mb mc mo me mi : M D} {ms : List (M D)} {ta tb mt mt1 : M Bool} {m m2 : MS} {mA : M (List D)} {t t1 : Tg} {ts : List Tg} {mI mI1 : M Src} {s0 : Stmt} {rest ss1 ss2 : List Stmt} {scope : Scope} {ifs ifs1 : List Expr} {lo hi : Option Expr} {ml mh : Option (M D)} {nn kk : Nat}
theorem aB {ii : Int} {j : Nat}  : QE g X Wx (.Constant (.int ii) j pos) (mC (.int ii)) :=
 ⟨aJ4⟩
theorem fP {ii : Bool} {j : Nat}  : QE g X Wx (.Constant (.bool ii) j pos) (mC (.bl ii)) :=
 ⟨aLy⟩
theorem aFb {j : Nat}  : QE g X Wx (.Constant .none j pos) (mC .non) :=
 ⟨aJ7⟩
theorem aH {j : Nat}  : QE g X Wx (.Constant (.str x) j pos) (mC (.str x)) :=
 ⟨aKa⟩
theorem Good.qvar  (G : Good FS g k cl N sc fq X Wx) (i : Nat) (h : okV N sc i x = true) : QE g X Wx (.Name x pos) (mV i) :=
 ⟨G.var i h⟩
theorem Good.qconS  (G : Good FS g k cl N sc fq X Wx) {z : Str} (h : okG sc x = true) (hm : ∃ t,X.mg x = some (.str z t)) : QE g X Wx (.Name x pos) (mC (.str z)) :=
 ⟨G.conS h hm⟩
theorem Good.qconI  (G : Good FS g k cl N sc fq X Wx) {z : Int} (h : okG sc x = true) (hm : ∃ t,X.mg x = some (.int z t)) : QE g X Wx (.Name x pos) (mC (.int z)) :=
 ⟨G.conI h hm⟩
theorem Good.qtyp  (G : Good FS g k cl N sc fq X Wx) {n : String} (h : okG sc x = true) (hm : X.mg x = none) (hv : bootBuiltins x = some (.type n)) : QE g X Wx (.Name x pos) (mC (.ty n)) :=
 ⟨G.typ h hm hv⟩
theorem aL {op : Operator} {ff : D -> D -> Hh -> R D} (so : QO g X Wx (binaryOp op) ff) (ha : QE g X Wx a ma) (hb : QE g X Wx b mb) : QE g X Wx (.BinOp a op b pos) (mOp ff ma mb) :=
 ⟨aJZ so.p ha.p hb.p⟩
theorem gH {op : CmpOp} {ff : D -> D -> Hh -> R D} (so : QO g X Wx (compareOp op) ff) (ha : QE g X Wx a ma) (hb : QE g X Wx b mb) (hm : behindInMarks op b = false) : QE g X Wx (.Compare a [op] [b] pos) (mOp ff ma mb) :=
 ⟨aJ0 so.p ha.p hb.p hm⟩
theorem bT {op : CmpOp} {ff : D -> D -> Hh -> R D} (so : QO g X Wx (compareOp op) ff) (ha : QE g X Wx a ma) (hb : QE g X Wx b mb) (hm : behindInMarks op b = false) : QT g X Wx (.Compare a [op] [b] pos) (mB (mOp ff ma mb)) :=
 ⟨aKr so.p ha.p hb.p hm⟩
theorem aBE {op op2 : CmpOp} {ff ff2 : D -> D -> Hh -> R D} (so : QO g X Wx (compareOp op) ff) (so2 : QO g X Wx (compareOp op2) ff2) (ha : QE g X Wx a ma) (hb : QE g X Wx b mb) (hc : QE g X Wx c mc) (hm : lastMarks [op,op2] [b,c] = false) : QE g X Wx (.Compare a [op,op2] [b,c] pos) (gG ff ff2 ma mb mc) :=
 ⟨aGE so.p so2.p ha.p hb.p hc.p hm⟩
theorem aBF {op op2 : CmpOp} {ff ff2 : D -> D -> Hh -> R D} (so : QO g X Wx (compareOp op) ff) (so2 : QO g X Wx (compareOp op2) ff2) (ha : QE g X Wx a ma) (hb : QE g X Wx b mb) (hc : QE g X Wx c mc) (hm : lastMarks [op,op2] [b,c] = false) : QT g X Wx (.Compare a [op,op2] [b,c] pos) (mB (gG ff ff2 ma mb mc)) :=
 ⟨aGO so.p so2.p ha.p hb.p hc.p hm⟩
theorem Good.oaddW  (G : Good FS g k cl N sc fq X Wx) : QO g X Wx (binaryOp .Add) bP :=
 ⟨aKh G.K⟩
theorem Good.osubW  (G : Good FS g k cl N sc fq X Wx) : QO g X Wx (binaryOp .Sub) kD :=
 ⟨aKm⟩
theorem Good.omulW  (G : Good FS g k cl N sc fq X Wx) : QO g X Wx (binaryOp .Mult) mN :=
 ⟨aKk⟩
theorem Good.ofdivW  (G : Good FS g k cl N sc fq X Wx) : QO g X Wx (binaryOp .FloorDiv) uL :=
 ⟨aIk⟩
theorem Good.omodW  (G : Good FS g k cl N sc fq X Wx) : QO g X Wx (binaryOp .Mod) lJ :=
 ⟨aKj⟩
theorem Good.opowW  (G : Good FS g k cl N sc fq X Wx) : QO g X Wx (binaryOp .Pow) rV :=
 ⟨aKl⟩
theorem Good.oeqW  (G : Good FS g k cl N sc fq X Wx) : QO g X Wx (compareOp .Eq) eqW :=
 ⟨aHo G.K G.u64⟩
theorem Good.oneW  (G : Good FS g k cl N sc fq X Wx) : QO g X Wx (compareOp .NotEq) neW :=
 ⟨aLN G.K G.u64⟩
theorem Good.oinW  (G : Good FS g k cl N sc fq X Wx) : QO g X Wx (compareOp .In) inW :=
 ⟨aLK G.K G.un⟩
theorem Good.oniW  (G : Good FS g k cl N sc fq X Wx) : QO g X Wx (compareOp .NotIn) niW :=
 ⟨aLO G.K G.un⟩
theorem Good.oltW  (G : Good FS g k cl N sc fq X Wx) : QO g X Wx (compareOp .Lt) ltW :=
 ⟨aLM G.K G.u0⟩
theorem Good.oleW  (G : Good FS g k cl N sc fq X Wx) : QO g X Wx (compareOp .LtE) leW :=
 ⟨aLL⟩
theorem Good.ogtW  (G : Good FS g k cl N sc fq X Wx) : QO g X Wx (compareOp .Gt) gtW :=
 ⟨aLJ⟩
theorem Good.ogeW  (G : Good FS g k cl N sc fq X Wx) : QO g X Wx (compareOp .GtE) geW :=
 ⟨aLI⟩
theorem Good.oinotW  (G : Good FS g k cl N sc fq X Wx) : QO g X Wx (compareOp .IsNot) xA :=
 ⟨aGJ⟩
theorem Good.clenW  (G : Good FS g k cl N sc fq X Wx) : QC1 g X Wx (.builtin "len") bW :=
 ⟨aJU G.K⟩
theorem Good.cabsW  (G : Good FS g k cl N sc fq X Wx) : QC1 g X Wx (.builtin "abs") vC :=
 ⟨aJQ⟩
theorem Good.cintW  (G : Good FS g k cl N sc fq X Wx) : QC1 g X Wx (.type "int") nS :=
 ⟨aJS⟩
theorem Good.ctupleW  (G : Good FS g k cl N sc fq X Wx) : QC1 g X Wx (.type "tuple") hV :=
 ⟨aGD G.K⟩
theorem Good.clistW  (G : Good FS g k cl N sc fq X Wx) : QC1 g X Wx (.type "list") jO :=
 ⟨aIc G.K G.calm⟩
theorem Good.callW  (G : Good FS g k cl N sc fq X Wx) : QC1 g X Wx (.builtin "all") jD :=
 ⟨aJR G.K G.calm⟩
theorem Good.csumW  (G : Good FS g k cl N sc fq X Wx) : QC1 g X Wx (.builtin "sum") tY :=
 ⟨aJX G.K G.calm⟩
theorem Good.cmaxW  (G : Good FS g k cl N sc fq X Wx) : QC2 g X Wx (.builtin "max") vT :=
 ⟨aJV G.calm⟩
theorem Good.cminW  (G : Good FS g k cl N sc fq X Wx) : QC2 g X Wx (.builtin "min") vU :=
 ⟨aJW G.calm⟩
theorem Good.cisiW  (G : Good FS g k cl N sc fq X Wx) : QC2 g X Wx (.builtin "isinstance") gP :=
 ⟨aJT G.K⟩
theorem Good.mappendW  (G : Good FS g k cl N sc fq X Wx) : QM1 g X Wx "list.append" hW :=
 ⟨aFo⟩
theorem Good.mextendW  (G : Good FS g k cl N sc fq X Wx) : QM1 g X Wx "list.extend" lG :=
 ⟨aFp⟩
theorem Good.mpopAtW  (G : Good FS g k cl N sc fq X Wx) : QM1 g X Wx "list.pop" lZ :=
 ⟨aGI⟩
theorem aJI  (ha : QE g X Wx a ma) : QE g X Wx (.UnaryOp .USub a pos) (mF1 yQ ma) :=
 ⟨aJ6 ha.p⟩
theorem aJJ  (ha : QE g X Wx a ma) : QE g X Wx (.UnaryOp .Not a pos) (aAE ma) :=
 ⟨aJ8 ha.p⟩
theorem lA  (ha : QT g X Wx a ta) : QT g X Wx (.UnaryOp .Not a pos) (iX ta) :=
 ⟨aKs ha.p⟩
theorem xR {op : BoolOp} (ha : QE g X Wx a ma) : QE g X Wx (.BoolOp op [a] pos) ma :=
 ⟨aJ9 ha.p⟩
theorem mD  (ha : QE g X Wx a ma) (hb : QE g X Wx (.BoolOp .And (b :: es) pos) mb) : QE g X Wx (.BoolOp .And (a :: b :: es) pos) (jP ma mb) :=
 ⟨aJY ha.p hb.p⟩
theorem yW  (ha : QT g X Wx a ta) : QW g X Wx (.BoolOp .And [a] pos) ta :=
 ⟨aIv ha.p⟩
theorem mE  (ha : QT g X Wx a ta) : QW g X Wx (.BoolOp .Or [a] pos) ta :=
 ⟨aKx ha.p⟩
theorem tU  (ha : QT g X Wx a ta) (hb : QW g X Wx (.BoolOp .And (b :: es) pos) tb) : QW g X Wx (.BoolOp .And (a :: b :: es) pos) (kW ta tb) :=
 ⟨aKw ha.p hb.p⟩
theorem jU  (ha : QT g X Wx a ta) (hb : QW g X Wx (.BoolOp .Or (b :: es) pos) tb) : QW g X Wx (.BoolOp .Or (a :: b :: es) pos) (gR ta tb) :=
 ⟨aLS ha.p hb.p⟩
theorem QW.te  (ha : QW g X Wx a ta) : QT g X Wx a ta :=
 ⟨SW.st ha.p⟩
theorem qtv  (ha : QE g X Wx a ma) (h : vTe a = true) : QT g X Wx a (mB ma) :=
 ⟨stv ha.p h⟩
theorem xQ  (hc : QT g X Wx c ta) (ha : QE g X Wx a ma) (hb : QE g X Wx b mb) : QE g X Wx (.IfExp c a b pos) (mIf ta ma mb) :=
 ⟨aJ3 hc.p ha.p hb.p⟩
theorem aE   : QA g X Wx [] (aA []) :=
 ⟨aJP⟩
theorem qac  (ha : QE g X Wx e ma) (hr : QA g X Wx es (aA ms)) (h : nSt e = true) : QA g X Wx (e :: es) (aA (ma :: ms)) :=
 ⟨sac ha.p hr.p h⟩
theorem aJK   : QK g X Wx [] (aA []) :=
 ⟨aKd⟩
theorem qkc {nm : Option Str} {kws : List Keyword} (ha : QE g X Wx e ma) (hr : QK g X Wx kws (aA ms)) : QK g X Wx (⟨nm,e,pos⟩ :: kws) (aA (ma :: ms)) :=
 ⟨aIi ha.p hr.p⟩
theorem bO  (ha : QA g X Wx es mA) : QE g X Wx (.Tuple es nn pos) (bM mA) :=
 ⟨aKb ha.p⟩
theorem cY  (ha : QA g X Wx es mA) : QE g X Wx (.List es pos) (dJ mA) :=
 ⟨aJ5 ha.p⟩
theorem Good.qix  (G : Good FS g k cl N sc fq X Wx) (ha : QE g X Wx a ma) (hb : QE g X Wx b mb) (h : nSl b = true) : QE g X Wx (.Subscript a b pos) (mOp ixW ma mb) :=
 ⟨G.ix ha.p hb.p h⟩
theorem jA   : QP g X Wx none none :=
 ⟨aIl⟩
theorem gI  (ha : QE g X Wx a ma) : QP g X Wx (some a) (some ma) :=
 ⟨aIm ha.p⟩
theorem Good.qsl  (G : Good FS g k cl N sc fq X Wx) (ha : QE g X Wx a ma) (hl : QP g X Wx lo ml) (hh : QP g X Wx hi mh) : QE g X Wx (.Subscript a (.Slice lo hi none p2) pos) (mSl ma ml mh) :=
 ⟨aLD G.K ha.p hl.p hh.p⟩
theorem Good.qcal  (G : Good FS g k cl N sc fq X Wx) (h : okG sc x = true) (F : FnF X.prog X.w X.K X.mg X.base g k cl f x st ps) (bd : BdF x st ps) (hs : gU (e :: es) = true) (hl : ms.length = ps.length) (ha : QA g X Wx (e :: es) (aA ms)) : QE g X Wx (.Call (.Name x p) (e :: es) [] pos) (aR cl f (aA ms)) :=
 ⟨G.cal h F bd hs hl ha.p⟩
theorem Good.qcalK  (G : Good FS g k cl N sc fq X Wx) {kws : List Keyword} (ks : List Str) (perm : List Nat) (h : okG sc x = true) (F : FnF X.prog X.w X.K X.mg X.base g k cl f x st ps) (bd : BdK x st ps ks perm) (hks : kws.map (·.arg) = ks.map some) (hp : perm.length = ps.length) (hlk : ms.length = ks.length) (ha : QK g X Wx kws (aA ms)) : QE g X Wx (.Call (.Name x p) [] kws pos) (nV cl f (aA ms) perm) :=
 ⟨G.calK ks perm h F bd hks hp hlk ha.p⟩
theorem Good.qf1  (G : Good FS g k cl N sc fq X Wx) {bv : Value} {ff : D -> Hh -> R D} (h : okG sc x = true) (hm : X.mg x = none) (hv : bootBuiltins x = some bv) (hb : pL bv = true) (s : QC1 g X Wx bv ff) (hs : nSt a = true) (ha : QE g X Wx a ma) : QE g X Wx (.Call (.Name x p) [a] [] pos) (mF1 ff ma) :=
 ⟨G.f1 h hm hv hb s.p hs ha.p⟩
theorem Good.qf2  (G : Good FS g k cl N sc fq X Wx) {bv : Value} {ff : D -> D -> Hh -> R D} (h : okG sc x = true) (hm : X.mg x = none) (hv : bootBuiltins x = some bv) (hb : pL bv = true) (s : QC2 g X Wx bv ff) (hs : gU [a,b] = true) (ha : QE g X Wx a ma) (hb2 : QE g X Wx b mb) : QE g X Wx (.Call (.Name x p) [a,b] [] pos) (mOp ff ma mb) :=
 ⟨G.f2 h hm hv hb s.p hs ha.p hb2.p⟩
theorem Good.qk1  (G : Good FS g k cl N sc fq X Wx) {T id : String} {op : Op1} (F : MtF T name id) (sm : QM1 g X Wx id op) (hb : nC0 o = true) (hline : (apos.endLine == cpos.line) = true) (hs : nSt a = true) (ho : QE g X Wx o mo) (ha : QE g X Wx a ma) : QE g X Wx (.Call (.Attribute o name apos) [a] [] cpos) (mM1 (on1 T op) mo ma) :=
 ⟨G.k1 F sm.p hb hline hs ho.p ha.p⟩
theorem Good.qsie  (G : Good FS g k cl N sc fq X Wx) (he : QE g X Wx e me) : QI g X Wx tg e (miE me) :=
 ⟨aNa G.K he.p⟩
theorem Good.qr1  (G : Good FS g k cl N sc fq X Wx) (h : okG sc "range" = true) (hm : X.mg "range" = none) (hs : nSt e = true) (he : QE g X Wx e me) : QI g X Wx tg (.Call (.Name "range" p) [e] [] pos) (iO me) :=
 ⟨G.r1 h hm hs he.p⟩
theorem Good.qtgt  (G : Good FS g k cl N sc fq X Wx) (i : Nat) (h : okT N sc fq i x = true) : QG g X (.Name x pos) (.nm i) :=
 ⟨G.tgt i h⟩
theorem yV   : QGs g X [] [] :=
 ⟨aIg⟩
theorem qgc  (h1 : QG g X e t) (h2 : QGs g X es ts) (h : nSt e = true) : QGs g X (e :: es) (t :: ts) :=
 ⟨sgc h1.p h2.p h⟩
theorem Good.qtup  (G : Good FS g k cl N sc fq X Wx) (hs : QGs g X es ts) (h : gU es = true) (hl : es.length = ts.length) : QG g X (.Tuple es nn pos) (.tu ts) :=
 ⟨G.tup hs.p h hl⟩
/-- none or one test,within a block -/
inductive QTs (FS : FST) (g : Gx) (k : Nat) (cl : Cll) (N : List Str) (sc : Scope) (fq : Str -> Bool) : List Expr -> M Bool -> Prop
 | nil : QTs FS g k cl N sc fq [] (fun _ h => .ok true h)
 | one {c : Expr} {m : M Bool} (hc : ∀ X,Good FS g k cl N sc fq X WF -> QT g X WF c m) : QTs FS g k cl N sc fq [c] m
theorem QTs.un (h : QTs FS g k cl N sc fq ifs mt) : GTs FS g k cl N sc fq ifs mt := by
 cases h with
 | nil => exact .nil
 | one hc => exact .one fun X G => (hc X G).p
theorem Good.qlc  (G : Good FS g k cl N sc fq X Wx) (own : List (Str × Nat)) (vs : List Nat) (hB : okB N sc scope own = true) (hvs : own.map (·.2) = vs) (hsl : sS t.slots vs = true) (hs : yP iter = true) (hi : QI g X Wx tg iter mI) (hg : ∀ X,Good FS g k cl N (relS scope sc) (fqB scope) X WF -> QG g X tg t) (ht : QTs FS g k cl N (relS scope sc) (fqB scope) ifs mt) (he : ∀ X,Good FS g k cl N (relS scope sc) (fqB scope) X WF -> QE g X WF elt me) : QE g X Wx (.ListComp elt [⟨tg,iter,ifs,0⟩] scope pos) (mLc mI t mt me vs) :=
 ⟨G.lc own vs hB hvs hsl (fun _ => aAA hs) hi.p (fun X G => (hg X G).p) ht.un (fun X G => (he X G).p)⟩
theorem cS   : QL g X Wx [] cJ :=
 ⟨aKf⟩
theorem aS  (h1 : QS g X Wx s0 m) : QL g X Wx [s0] m :=
 ⟨aKg h1.p⟩
theorem aJ  (h1 : QS g X Wx s0 m) (h2 : QL g X Wx rest m2) : QL g X Wx (s0 :: rest) (aN m m2) :=
 ⟨aIj h1.p h2.p⟩
theorem qse  (he : QE g X Wx e me) (h : nCo e = true) : QS g X Wx (.Expr e spos) (iP me) :=
 ⟨sse he.p h⟩
theorem bB  (he : QE g X Wx e me) : QS g X Wx (.Return (some e) pos) (bA me) :=
 ⟨aKp he.p⟩
theorem dE  (hc : QT g X Wx e ta) (ha : QL g X Wx ss1 m) (hb : QL g X Wx ss2 m2) : QS g X Wx (.If e ss1 ss2 pos) (dD ta m m2) :=
 ⟨aLP hc.p ha.p hb.p⟩
theorem qsf  (hp : PassesOwn (model X.prog X.w) X.A X.env X.xe) (G : Good FS g k cl N sc fq X Wx) (hi : QI g X Wx tg iter mI) (hg : QG g X tg t) (hb : QL g X Wx ss1 m) (h : yP iter = true) : QS g X Wx (.For tg iter ss1 [] pos) (kY mI t m) :=
 ⟨ssf hp G hi.p hg.p hb.p h⟩
theorem bU  (he : QE g X Wx e me) (hg : QG g X (.Name x p) t) (h : nCo e = true) : QS g X Wx (.Assign [.Name x p] e spos) (bI t me) :=
 ⟨aHr he.p hg.p h⟩
theorem Good.qasgT  (G : Good FS g k cl N sc fq X Wx) (he : QE g X Wx e me) (hg : QG g X (.Tuple es nn p) t) (h : nCo e = true) (h2 : swappedStores [.Tuple es nn p] e (env0 sc) = pure none) : QS g X Wx (.Assign [.Tuple es nn p] e spos) (bI t me) :=
 ⟨G.asgT he.p hg.p h h2⟩
theorem Good.qsub  (G : Good FS g k cl N sc fq X Wx) (he : QE g X Wx e me) (ho : QE g X Wx o mo) (hi : QE g X Wx i mi) (h : nCo e = true) (h2 : nSl i = true) : QS g X Wx (.Assign [.Subscript o i tpos] e spos) (lS me mo mi) :=
 ⟨G.sub he.p ho.p hi.p h h2⟩
theorem Good.qpar  (G : Good FS g k cl N sc fq X Wx) (i1 i2 : Nat) {px py pt : Pos} {kt k2 pt2} (hi : okL N sc i1 x = true) (hj : okL N sc i2 y = true) (hij : i1 ≠ i2) (ha : QA g X Wx [a,b] (aA [ma,mb])) (hw : swappedStores [.Tuple [.Name x px, .Name y py] kt pt] (.Tuple [a,b] k2 pt2) (env0 sc) = pure (some [x,y])) : QS g X Wx (.Assign [.Tuple [.Name x px, .Name y py] kt pt] (.Tuple [a,b] k2 pt2) spos) (bI (.tu [.nm i1, .nm i2]) (bM (aA [ma,mb]))) :=
 ⟨G.par i1 i2 hi hj hij ha.p hw (swS rfl)⟩
end
end PV
end
section
namespace PV
open PySem PySem.Spec PyProof.Rows L2
theorem aBc {g : Gx} {μ : List Addr} {H : Hp} : ∀ ns : List Int,RVs g μ H (ns.map D.int) (ns.map V.int)
 | [] => rfl
 | n :: ns => ⟨.int n,ns.map V.int,rfl,rfl,rfl,aBc ns⟩
end PV
end
section
namespace PV
open PySem PySem.Spec PyProof.Rows L2
end PV
end
section
namespace PV
open PySem PySem.Spec PyProof.Rows L2
/-- d[y] = v within a comprehension -/
theorem aFR {X : Cx} {pins : List (Addr × Obj)} {σ : L2.St} {H H' : Hp} {s : Shared} {E : Value -> Shared -> Prop} {D : Addr} {y v : V} {u r : Value} {Q : Unit -> Shared -> Prop} (hu : X.A.units + 1 < cLine) (I : Inv X pins σ H s) (p : DPut H D y v H') (ry : RelV y u) (rv : RelV v r)
  (k : ∀ s',Inv X pins σ H' s' -> Q () s') : wpAny (model X.prog X.w) X.A (dictSet D u r) Q E s := by
 rcases p with ⟨kvs,key,eD,rfl,hl,rfl⟩ | ⟨kvs,key,b,eD,rfl,eb,hl,rfl⟩
 ·exact d_dictSet I eD hl ry rv k
 ·cases (show u = Value.ref b from ry)
  obtain ⟨z,hd,xs,rel,dd⟩ := dt_of I.hok eD
  refine wpAny_dictSet_heap (hsz := by rw [<- Paired.length rel]; exact z) (show X.A.units < cLine from Nat.lt_of_succ_lt hu) (key_of I.hok eb) dd fun h' dd' hs => k _ ?_
  obtain ⟨q,es,ep,hq,h2,h3,h4,_,h5⟩ := dd'
  have hl2 := length_putK kvs key v
  refine d_write I (by rw [eD]; exact True.intro) hs ⟨q,hq⟩ ⟨by omega,hd,_,(rel.put key eb rv).keeps fun c ys ec => ?_,q,es,ep,hq,h2,h3,h4,h5⟩
  exact (upd_ne (ne_of ec eD (fun z => nomatch z))).trans ec
/-- one turn of an iterator: what came stays pinned until the turn's end -/
theorem aG5 {X : Cx} {pins : List (Addr × Obj)} {σ : L2.St} {H : Hp} {s : Shared} {tg : Expr} {J : It} {fp : List Addr} {it : Addr} {tn : Nat -> Heap -> Prop} {i : Nat} {E : Value -> Shared -> Prop} {Q : Value -> Shared -> Prop} (T : Turn X.prog X.w X.K tg J fp it tn) (hc : X.calm = true) (I : Inv X pins σ H s) (f : ∀ b ∈ fp,FpOk X pins H b) (st : tn i s.heap) (go : J.go i H)
  (k : ∀ u x H1 s1,Inv X (pins ++ pinsAt fp s1.heap) σ H1 s1 -> RelV x u -> J.yld i H x H1 -> (∀ {σ2 : L2.St} {H2 : Hp} {s2 : Shared},Inv X (pins ++ pinsAt fp s1.heap) σ2 H2 s2 -> Inv X pins σ2 H2 s2 /\ tn (i + 1) s2.heap /\ ∀ b ∈ fp,H2 b = none) -> Q u s1) :
  wpAny (model X.prog X.w) X.A (pyNext (.ref it)) (fun r s1 => ∃ u,r = some u /\ wpAny (model X.prog X.w) X.A (letOwnedTupleGo tg (.ref it) u) (fun _ s2 => Q u s2) E s1) E s := by
 refine wpAny_mono (T.item X rfl rfl rfl hc i pins s σ H E I f st go) (fun r s1 ⟨u,e,z⟩ => ⟨u,e,wpAny_mono z (fun _ s2 ⟨x,H1,I1,rx,y,st1,n1⟩ => ?_) fun _ _ z => z⟩) fun _ _ z => z
 refine k u x H1 s2 (I1.pinned (fun b hb => ⟨n1 b hb,(f b hb).2⟩) (T.obj _ _ st1)) rx y fun {σ2 H2 s3} I2 => ?_
 have p : ∀ b ∈ fp,∀ o,s2.heap.get? b = some o -> s3.heap.get? b = some o /\ H2 b = none := fun b hb o eo => by
  have q := I2.pin (b,o) (List.mem_append_right _ (List.mem_append_right _ (mem_pinsAt hb eo)))
  exact ⟨q.1,q.2.1⟩
 refine ⟨I2.unpinned,T.keep _ _ _ st1 fun b hb o eo => (p b hb o eo).1,fun b hb => ?_⟩
 obtain ⟨o,eo,_⟩ := T.obj _ _ st1 b hb
 exact (p b hb o eo).2
/-- a new dict,of either kind -/
def aF5 (o : HO) : Prop := o = .dK [] \/ o = .dT []
/-- what the loop of a dict comprehension finds -/
structure DEnt (X : Cx) (pins : List (Addr × Obj)) (σ : L2.St) (vs : List Nat) (Qd : Addr -> Hp -> Prop) (R : Addr -> Result -> Shared -> Prop) (Xb : Cx) (tg : Expr) (J : It) (it D : Addr) (fp : List Addr) (tn : Nat -> Heap -> Prop) (H3 : Hp) (s4 : Shared) : Prop where
 turn : Turn Xb.prog Xb.w Xb.K tg J fp it tn
 st : tn 0 s4.heap
 inv : Inv Xb [] (wipe σ vs) H3 s4
 nfp : ∀ b ∈ fp,H3 b = none
 fpo : ∀ {σ' : L2.St} {H' : Hp} {s' : Shared},Inv Xb [] σ' H' s' -> (∀ b ∈ fp,H' b = none) -> ∀ b ∈ fp,FpOk Xb [] H' b
 done : ∀ {H' : Hp} {s' : Shared},Inv Xb [] (wipe σ vs) H' s' -> Qd D H' -> R D (.ok .next) s'
theorem aDs {X : Cx} {pins : List (Addr × Obj)} {s : Shared} {σ : L2.St} {H : Hp} {kx vx tg iter : Expr} {ifs : List Expr} {rest : List Comprehension} {scope : Scope} {own : List (Str × Nat)} {pos : Pos} {wi : TI} {o0 : HO} {Qd : Addr -> Hp -> Prop} {wish : It -> Addr -> Hp -> Prop} {Q : VK}
  (hN : X.N.Nodup) (I : Inv X pins σ H s) (hi : PI X tg iter wi) (ok : BlkOk X.N X.env.scope scope own) (hs : ∀ x,foldedSetIterable iter X.env x = pure x) (h0 : aF5 o0)
  (h : wi σ H fun J H1 => ∀ D,H1 D = none -> wish J D (upd H1 D o0)) (hQ : ∀ D H',Qd D H' -> Q (.ref D) H')
  (loop : ∀ (R : Addr -> Result -> Shared -> Prop) (s3 : Shared) (H3 : Hp) (C : Addr) (cl : List (Str × Addr)) (fp : List Addr) (J : It) (it D : Addr) (tn : Nat -> Heap -> Prop) (s4 : Shared),DEnt X pins σ (own.map (·.2)) Qd R (BX X scope s3 H3 C cl fp) tg J it D fp tn H3 s4 -> wish J D H3 ->
   codeAny (model X.prog X.w) X.A (.compLoop (.DictComp kx vx (⟨tg,iter,ifs,0⟩ :: rest) scope pos) 0 (.ref it) (.ref D) (compEnvC scope cl C X.env)) (R D) s4) :
  wpAny (model X.prog X.w) X.A (eval (.DictComp kx vx (⟨tg,iter,ifs,0⟩ :: rest) scope pos) X.env) (EP X pins σ Q) X.xe s := by
 have fr : ∀ y ∈ scope.names,y.2 = .free -> ∃ c,X.env.cells.lookup y.1 = some c := fun y hy e => (ok.free y hy e).elim (fun k => I.ok.has _ (.inl k)) fun k => I.ok.has _ (.inr k)
 rw [arm_eval_DictComp]
 refine wpAny_comprehension_free (use := none) rfl hs (closure_ok fr) ok.kind (fun y hy e => by rw [ok.uniq y hy,e]) (thn (hi.run pins s σ H _ I h) fun xv s1 hx => thn hx fun itv s2 z2 => ?_)
 obtain ⟨it,fp,tn,J,H2,rfl,I2,T,st2,f2,q⟩ := z2
 refine wpAny_newObj_type (newEnv_comp ?_)
 generalize eD : s2.heap.objs.size = D
 have nD : H2 D = none := I2.hok.fresh (Nat.le_of_eq eD)
 have wsh := q D nD
 generalize es3 : ({ s2 with heap := s2.heap.push { cls := .type "dict",data := .dict #[] } } : Shared) = s3
 have hp3 : s3.heap = s2.heap.push { cls := .type "dict",data := .dict #[] } := by rw [<- es3]
 have I3 : Inv X pins σ (upd H2 D o0) s3 := by
  subst es3
  refine I2.laid (t' := s2.toks) (fun b o e => Heap.get?_push_of_some _ e) (Nat.le_of_eq eD) ?_
  rw [<- eD]
  rcases h0 with rfl | rfl
  ·exact dk_empty s2.heap I2.big
  ·exact dt_empty s2.heap I2.big
 have lt3 : ∀ b ∈ fp,b < s2.heap.objs.size := fun b hb => let ⟨o,e,_⟩ := T.obj _ _ st2 b hb; Heap.lt_size e
 have f3 : ∀ b ∈ fp,FpOk X pins (upd H2 D o0) b /\ b < s3.heap.objs.size := fun b hb => by
  have l := lt3 b hb
  have ne : b ≠ D := by rw [<- eD]; exact Nat.ne_of_lt l
  exact ⟨⟨(upd_ne ne).trans (f2 b hb).1,(f2 b hb).2⟩,by rw [hp3,Heap.size_push]; exact Nat.lt_succ_of_lt l⟩
 have st3 : tn 0 s3.heap := T.keep _ _ _ st2 fun b _ o e => by rw [hp3]; exact Heap.get?_push_of_some _ e
 have I4 := block_start I3 ok hN f3
 generalize eH3 : upd H2 D o0 = H3 at I3 I4 wsh f3
 generalize ecl : cellsFrom (s3.heap.objs.size + 1) scope.names (cloFrom X.env.cells scope.names []) = cl at I4
 generalize es4 : ({ s3 with heap := pushCells (s3.heap.push { cls := .type "dict",data := .dict #[] }) scope.names } : Shared) = s4 at I4
 have st4 : tn 0 s4.heap := T.keep _ _ _ st3 fun b _ o e => by rw [<- es4]; exact pushCells_keeps _ _ _ _ (Heap.get?_push_of_some _ e)
 have lp := loop (fun D => compPost (model X.prog X.w) X.A X.xe none (EP X pins σ Q) (.ref D) s3.heap.objs.size) s3 H3 s3.heap.objs.size cl fp J it D tn s4 ⟨T,st4,I4,fun b hb => (f3 b hb).1.1,fun {σ' H' s'} I' hn b hb => ⟨hn b hb,(I'.ok.exf b hb).1,I'.ok.exfs b hb, .inl hb,fun x c e => (I'.ok.exf b hb).2 x c e,fun p hp => absurd (show p ∈ ([] : List (Addr × Obj)) ++ [] from hp) (by simp)⟩,fun {H' s'} I' qd => ?_⟩ wsh
 ·subst ecl es4
  exact codeAny_compStart_dict lp (T.self X.A 0 _ _ _ st4 lp)
 ·have I7 : Inv X pins σ H' s' := I3.call' (ch := fp) I'.os I'.base I'.hok I'.bare fun b hb => ⟨(f3 b hb).1.2.2.2.1,(f3 b hb).1.2.1,(f3 b hb).1.2.2.2.2.1,(f3 b hb).1.2.2.2.2.2⟩
  have nC : H' s3.heap.objs.size = none := I'.free
  obtain ⟨m,hn,_⟩ := I'.loc
  obtain ⟨g0,g1,g2,g3,g4,g5⟩ := I3.fpOk (H' := H') (Nat.le_refl _) nC
  refine ⟨m,hn,fun h'' sb => ?_⟩
  exact ⟨.ref D,H',I7.turned (t' := s'.toks) (fun b o hb e => (sb.2 b hb).trans e) g0 g1 g3 g4 g5,rfl,hQ D H' qd⟩
/-- slots behind a turn that know what was known ahead -/
theorem knows {σ σ2 : L2.St} {vs : List Nat} (e : wipe σ2 vs = wipe σ vs) : (wipe σ vs).length = σ2.length /\ ∀ (j : Nat) v,(wipe σ vs)[j]? = some (some v) -> σ2[j]? = some (some v) :=
 ⟨by rw [<- e,wipe_length],fun j v q => by rw [<- e] at q; exact (wipe_some q).1⟩
end PV
end
section
namespace PV
open PySem PySem.Spec PyProof.Rows L2
section
variable {prog : Program} {w : World} {A : Around} {R : Result -> Shared -> Prop} {s : Shared} {kx vx tA iA tB iB : Expr} {cA cB : List Expr} {scope : Scope} {pos : Pos} {it : Value} {D : Addr} {env : Env}
abbrev dc2 (kx vx tA iA : Expr) (cA : List Expr) (tB iB : Expr) (cB : List Expr) (scope : Scope) (pos : Pos) : Expr := .DictComp kx vx [⟨tA,iA,cA,0⟩,⟨tB,iB,cB,0⟩] scope pos
theorem aEw : compTurn (dc2 kx vx tA iA cA tB iB cB scope pos) 0 it (.ref D) env = (do
   standAt iA.pos
   match <- pyNext it with
   | none => pure (.done .next)
   | some got =>
    letOwnedTupleGo tA it got
    assign tA env got
    let mut good := true
    for cond in cA do
     if good then good <- isTrue cond env (eval cond env)
    if good then
     let inner <- eval iB env
     standAt iB.pos
     let inner <- foldedSetIterable iB env inner
     let _ <- runOwn (.compStart (dc2 kx vx tA iA cA tB iB cB scope pos) 1 (<- holding [inner] (pyIter inner)) (.ref D) env) env
    again (.compLoop (dc2 kx vx tA iA cA tB iB cB scope pos) 0 it (.ref D) env)) := by rfl
theorem aFS : compTurn (dc2 kx vx tA iA cA tB iB cB scope pos) 1 it (.ref D) env = (do
   standAt iB.pos
   match <- pyNext it with
   | none => pure (.done .next)
   | some got =>
    letOwnedTupleGo tB it got
    assign tB env got
    let mut good := true
    for cond in cB do
     if good then good <- isTrue cond env (eval cond env)
    if good then
     (do
      let kv <- eval kx env
      let vv <- holding [kv] (eval vx env)
      standAt { kx.pos with endLine := vx.pos.endLine,endCol := vx.pos.endCol }
      holding [kv,vv] (dictSet D kv vv))
    again (.compLoop (dc2 kx vx tA iA cA tB iB cB scope pos) 1 it (.ref D) env)) := by rfl
/-- a clause's tests -/
abbrev aDc (cs : List Expr) (env : Env) : Sem Bool := forIn cs true fun c r => if r = true then do let ok <- isTrue c env (eval c env); pure (ForInStep.yield ok) else pure (ForInStep.yield r)
theorem aEu (hs : ∀ x,foldedSetIterable iB env x = pure x) (J : Nat -> Shared -> Prop)
  (turn : ∀ n s,J n s -> wpAny (model prog w) A (pyNext it) (fun r s1 => match r with
   | none => R (.ok .next) s1
   | some got => wpAny (model prog w) A (letOwnedTupleGo tA it got) (fun _ s2 => wpAny (model prog w) A (assign tA env got) (fun _ s3 => wpAny (model prog w) A (aDc cA env) (fun good s4 => if good = true then
     wpAny (model prog w) A (eval iB env) (fun x s5 => wpAny (model prog w) A (pyIter x) (fun jt s6 => codeAny (model prog w) A (.compStart (dc2 kx vx tA iA cA tB iB cB scope pos) 1 jt (.ref D) env) (fun r s' => match r with
      | .ok _ => ∃ m,m < n /\ J m s'
      | .error _ => False) s6) (fun _ _ => False) s5) (fun _ _ => False) s4
    else ∃ m,m < n /\ J m s4) (fun _ _ => False) s3) (fun _ _ => False) s2) (fun _ _ => False) s1) (fun _ _ => False) s)
  (n : Nat) (h : J n s) : codeAny (model prog w) A (.compLoop (dc2 kx vx tA iA cA tB iB cB scope pos) 0 it (.ref D) env) R s := by
 refine codeAny_loop rfl J (fun n s hJ => ?_) n h
 show wpAny _ A ((compTurn (dc2 kx vx tA iA cA tB iB cB scope pos) 0 it (.ref D) env).onRaise (fun x => do noteFrame x env; theTreesLotGoes x)) _ _ s
 refine wpAny_noted ?_
 rw [aEw]
 refine wpAny_bind (wpAny_standAt (wpAny_bind (thnF (turn n s hJ) fun r s1 z1 => ?_)))
 cases r with
 | none => exact wpAny_pure z1
 | some got =>
  refine wpAny_bind (thnF z1 fun _ s2 z2 => wpAny_bind (thnF z2 fun _ s3 z3 => wpAny_bind (thnF z3 fun good s4 z4 => ?_)))
  cases good with
  | false => exact wpAny_pure ⟨rfl,z4⟩
  | true =>
   refine wpAny_bind (thnF z4 fun x s5 z5 => wpAny_bind (wpAny_standAt (wpAny_bind (wpAny_of_eq (hs x) (wpAny_bind (wpAny_holding (thnF z5 fun jt s6 z6 => ?_)))))))
   refine wpAny_bind (wpAny_runOwn ?_)
   rw [Around.mark_none]
   refine codeAny_mono z6 fun r s' hr => ?_
   cases r with
   | error e => exact hr.elim
   | ok f =>
    first
     | exact wpAny_pure ⟨rfl,hr⟩
     | exact wpAny_bind (wpAny_pure (wpAny_pure ⟨rfl,hr⟩))
theorem aFP (J : Nat -> Shared -> Prop)
  (turn : ∀ n s,J n s -> wpAny (model prog w) A (pyNext it) (fun r s1 => match r with
   | none => R (.ok .next) s1
   | some got => wpAny (model prog w) A (letOwnedTupleGo tB it got) (fun _ s2 => wpAny (model prog w) A (assign tB env got) (fun _ s3 => wpAny (model prog w) A (aDc cB env) (fun good s4 => if good = true then
     wpAny (model prog w) A (eval kx env) (fun kv s5 => wpAny (model prog w) A (eval vx env) (fun vv s6 => wpAny (model prog w) A (dictSet D kv vv) (fun _ s7 => ∃ m,m < n /\ J m s7) (fun _ _ => False) s6) (fun _ _ => False) s5) (fun _ _ => False) s4
    else ∃ m,m < n /\ J m s4) (fun _ _ => False) s3) (fun _ _ => False) s2) (fun _ _ => False) s1) (fun _ _ => False) s)
  (n : Nat) (h : J n s) : codeAny (model prog w) A (.compLoop (dc2 kx vx tA iA cA tB iB cB scope pos) 1 it (.ref D) env) R s := by
 refine codeAny_loop rfl J (fun n s hJ => ?_) n h
 show wpAny _ A ((compTurn (dc2 kx vx tA iA cA tB iB cB scope pos) 1 it (.ref D) env).onRaise (fun x => do noteFrame x env; theTreesLotGoes x)) _ _ s
 refine wpAny_noted ?_
 rw [aFS]
 refine wpAny_bind (wpAny_standAt (wpAny_bind (thnF (turn n s hJ) fun r s1 z1 => ?_)))
 cases r with
 | none => exact wpAny_pure z1
 | some got =>
  refine wpAny_bind (thnF z1 fun _ s2 z2 => wpAny_bind (thnF z2 fun _ s3 z3 => wpAny_bind (thnF z3 fun good s4 z4 => ?_)))
  cases good with
  | false => exact wpAny_pure ⟨rfl,z4⟩
  | true => exact wpAny_bind (wpAny_bind (thnF z4 fun kv s5 z5 => wpAny_bind (wpAny_holding (thnF z5 fun vv s6 z6 => wpAny_bind (wpAny_standAt (wpAny_holding (thnF z6 fun _ s7 z7 => wpAny_pure ⟨rfl,z7⟩)))))))
theorem aEv (h0 : codeAny (model prog w) A (.compLoop (dc2 kx vx tA iA cA tB iB cB scope pos) 1 it (.ref D) env) R s)
  (h1 : wpAny (model prog w) A (pyIter it) (fun jt s' => codeAny (model prog w) A (.compLoop (dc2 kx vx tA iA cA tB iB cB scope pos) 1 jt (.ref D) env) R s') (notedBy (model prog w) A env fun x s' => R (.error x) s') s) :
  codeAny (model prog w) A (.compStart (dc2 kx vx tA iA cA tB iB cB scope pos) 1 it (.ref D) env) R s := by
 refine codeAny_of_tree ?_
 show wpAny _ _ ((compStart (dc2 kx vx tA iA cA tB iB cB scope pos) 1 it (.ref D) env).onRaise (fun x => do noteFrame x env; standAt theWindowsPlace)) _ _ s
 refine wpAny_notedAt ?_
 unfold compStart
 show wpAny _ _ (ask >>= _) _ _ s
 refine wpAny_bind (wpAny_askSetting (wpAny_ite ?_))
 split
 ·first
   | exact wpAny_pure ⟨rfl,h0⟩
   | exact wpAny_bind (wpAny_pure (wpAny_pure ⟨rfl,h0⟩))
 ·have fin : ∀ {t : Sem Value} {M : Model},True := fun {_ _} => trivial
  refine wpAny_bind (wpAny_rule ?_)
  first
   | exact wpAny_bind (wpAny_standAt (wpAny_bind (wpAny_mono h1 (fun jt s' z => wpAny_pure ⟨rfl,z⟩) fun _ _ z => z)))
   | (show wpAny _ _ (standAt iB.pos >>= _) _ _ s
      exact wpAny_bind (wpAny_standAt (wpAny_bind (wpAny_mono h1 (fun jt s' z => wpAny_pure ⟨rfl,z⟩) fun _ _ z => z))))
end
end PV
end
section
namespace PV
open PySem PySem.Spec PyProof.Rows L2
theorem uA {α : Type} {t : Sem α} {Q Q' : α -> Shared -> Prop} {M : Model} {A : Around} {E E0 : Value -> Shared -> Prop} {s : Shared} (ex : ∀ v s,E0 v s -> False) (h : wpAny M A t Q E0 s) (hQ : ∀ a s,Q a s -> Q' a s) : wpAny M A t Q' E s := wpAny_mono h hQ fun _ _ z => (ex _ _ z).elim
def aKz (o0 : HO) (wi : TI) (g : TG) (tt : TT) (wi1 : TI) (g1 : TG) (tt1 : TT) (tk tv : TE) (vs vs1 : List Nat) : TE := fun σ H Q => wi σ H fun J H1 => ∀ D,H1 D = none ->
 wM J (fun x H' Nx => g x (wipe σ vs) H' fun σ2 H2 => wipe σ2 vs = wipe σ vs /\ tt σ2 H2 fun b H3 => if b = true then wi1 σ2 H3 fun J1 H4 =>
   wM J1 (fun x1 H5 Nx1 => g1 x1 (wipe σ2 vs1) H5 fun σ3 H6 => wipe σ3 vs1 = wipe σ2 vs1 /\ tt1 σ3 H6 fun b1 H7 => if b1 = true then tk σ3 H7 fun y H8 => tv σ3 H8 fun z H9 => ∃ HA,DPut H9 D y z HA /\ Nx1 HA else Nx1 H7) H4 Nx
  else Nx H3) (upd H1 D o0) fun H' => Q (.ref D) H'
theorem aJm {X : Cx} {kx vx tg iter tg1 iter1 : Expr} {ifs ifs1 : List Expr} {scope : Scope} {own : List (Str × Nat)} {vs1 : List Nat} {pos : Pos} {o0 : HO} {wi wi1 : TI} {g g1 : TG} {tt tt1 : TT} {tk tv : TE} (hc : X.calm = true) (hu : X.A.units + 1 < cLine) (hN : X.N.Nodup) (h0 : aF5 o0) (hi : PI X tg iter wi) (ok : BlkOk X.N X.env.scope scope own) (hv1 : ∀ i ∈ vs1,i ∈ own.map (·.2))
  (hg : ∀ s H C cl fp,PG (BX X scope s H C cl fp) tg g) (ht : ∀ s H C cl fp,PTs (BX X scope s H C cl fp) ifs tt) (hi1 : ∀ s H C cl fp,PI (BX X scope s H C cl fp) tg1 iter1 wi1) (hg1 : ∀ s H C cl fp,PG (BX X scope s H C cl fp) tg1 g1) (ht1 : ∀ s H C cl fp,PTs (BX X scope s H C cl fp) ifs1 tt1)
  (hk : ∀ s H C cl fp,PE (BX X scope s H C cl fp) kx tk) (hv : ∀ s H C cl fp,PE (BX X scope s H C cl fp) vx tv) (hs : ∀ x,foldedSetIterable iter X.env x = pure x) (hs1 : ∀ env x,foldedSetIterable iter1 env x = pure x) :
  PE X (.DictComp kx vx [⟨tg,iter,ifs,0⟩,⟨tg1,iter1,ifs1,0⟩] scope pos) (aKz o0 wi g tt wi1 g1 tt1 tk tv (own.map (·.2)) vs1) := by
 refine ⟨fun pins s σ H Q I h => aDs (rest := [⟨tg1,iter1,ifs1,0⟩]) (Qd := fun D H' => Q (.ref D) H') (wish := fun J D Hs => wM J (fun x H' Nx => g x (wipe σ (own.map fun p : Str × Nat => p.2)) H' fun σ2 H2 => wipe σ2 (own.map fun p : Str × Nat => p.2) = wipe σ (own.map fun p : Str × Nat => p.2) /\ tt σ2 H2 fun b H3 => if b = true then wi1 σ2 H3 fun J1 H4 =>
   wM J1 (fun x1 H5 Nx1 => g1 x1 (wipe σ2 vs1) H5 fun σ3 H6 => wipe σ3 vs1 = wipe σ2 vs1 /\ tt1 σ3 H6 fun b1 H7 => if b1 = true then tk σ3 H7 fun y H8 => tv σ3 H8 fun z H9 => ∃ HA,DPut H9 D y z HA /\ Nx1 HA else Nx1 H7) H4 Nx
  else Nx H3) Hs fun H' => Q (.ref D) H') hN I hi ok hs h0 h (fun _ _ q => q) ?_⟩
 rintro R s3 H3 C cl fp J it D tn s4 ⟨T,st4,I4,n4,fo,dn⟩ ⟨W,⟨m0,w0⟩,step⟩
 have hvv : ∀ i ∈ vs1,i ∈ own.map fun p : Str × Nat => p.2 := hv1
 generalize (own.map fun p : Str × Nat => p.2) = vs at *
 generalize eXb : BX X scope s3 H3 C cl fp = Xb at I4 fo dn T
 have eP : Xb.prog = X.prog := by rw [<- eXb]
 have eW : Xb.w = X.w := by rw [<- eXb]
 have eA : Xb.A = X.A := by rw [<- eXb]
 have eE : Xb.env = compEnvC scope cl C X.env := by rw [<- eXb]
 have ex : ∀ v s,Xb.xe v s -> False := by rw [<- eXb]; exact fun _ _ z => z
 have hcb : Xb.calm = true := by rw [<- eXb]; exact hc
 have hub : Xb.A.units + 1 < cLine := by rw [eA]; exact hu
 have pg : PG Xb tg g := by rw [<- eXb]; exact hg s3 H3 C cl fp
 have pt : PTs Xb ifs tt := by rw [<- eXb]; exact ht s3 H3 C cl fp
 have pi1 : PI Xb tg1 iter1 wi1 := by rw [<- eXb]; exact hi1 s3 H3 C cl fp
 have pg1 : PG Xb tg1 g1 := by rw [<- eXb]; exact hg1 s3 H3 C cl fp
 have pt1 : PTs Xb ifs1 tt1 := by rw [<- eXb]; exact ht1 s3 H3 C cl fp
 have pk : PE Xb kx tk := by rw [<- eXb]; exact hk s3 H3 C cl fp
 have pv : PE Xb vx tv := by rw [<- eXb]; exact hv s3 H3 C cl fp
 rw [<- eP,<- eW,<- eA,<- eE]
 refine aEu (hs1 _) (fun n s' => ∃ i H',Inv Xb [] (wipe σ vs) H' s' /\ tn i s'.heap /\ (∀ b ∈ fp,H' b = none) /\ W i n H') ?_ m0 ⟨0,H3,I4,st4,n4,w0⟩
 rintro n s5 ⟨i,H5,I5,st5,n5,w5⟩
 rcases step i n H5 w5 with ⟨stop,fin⟩ | ⟨go,Nx,hNx,body⟩
 ·refine thnF (T.done _ rfl rfl rfl hcb i [] s5 _ H5 (fun _ _ => False) I5 (fo I5 n5) st5 stop) fun r s6 ⟨hr,I6⟩ => ?_
  subst hr
  exact dn I6 fin
 ·refine thnF (aG5 T hcb I5 (fo I5 n5) st5 go (E := fun _ _ => False) (Q := fun u s7 => ∃ x H7,Inv Xb ([] ++ pinsAt fp s7.heap) (wipe σ vs) H7 s7 /\ RelV x u /\ J.yld i H5 x H7 /\ (∀ {σ2 : L2.St} {H2 : Hp} {s2 : Shared},Inv Xb ([] ++ pinsAt fp s7.heap) σ2 H2 s2 -> Inv Xb [] σ2 H2 s2 /\ tn (i + 1) s2.heap /\ ∀ b ∈ fp,H2 b = none))
   fun u x H1 s1 a b c d => ⟨x,H1,a,b,c,@d⟩) fun r s6 ⟨u,hr,z⟩ => ?_
  subst hr
  refine thnF z fun _ s7 ⟨x,H7,I7,r7,y7,back⟩ => ?_
  refine uA ex (pg.run _ s7 _ H7 x u _ I7 r7 (body x H7 y7)) fun _ s8 ⟨σ8,H8,I8,w8,q8⟩ => ?_
  refine uA ex (pt.run _ s8 σ8 H8 _ I8 q8) fun b s9 ⟨H9,I9,q9⟩ => ?_
  have fin : ∀ {σ9 : L2.St} {s' : Shared} {H' : Hp},Inv Xb ([] ++ pinsAt fp s7.heap) σ9 H' s' -> (wipe σ vs).length = σ9.length -> (∀ (j : Nat) v,(wipe σ vs)[j]? = some (some v) -> σ9[j]? = some (some v)) -> Nx H' -> ∃ m,m < n /\ ∃ i H',Inv Xb [] (wipe σ vs) H' s' /\ tn i s'.heap /\ (∀ b ∈ fp,H' b = none) /\ W i m H' := fun {σ9 s' H'} I' hl hkn nx => by
   obtain ⟨m',hm,w'⟩ := hNx H' nx
   obtain ⟨a,b,c⟩ := back I'
   exact ⟨m',hm,i + 1,H',a.weak hl hkn,b,c,w'⟩
  cases b with
  | false => exact fin I9 (knows w8).1 (knows w8).2 q9
  | true =>
   refine uA ex (pi1.run _ s9 σ8 H9 _ I9 q9) fun xv sA zA => uA ex zA fun itv sB zB => ?_
   obtain ⟨jt,fq,tm,J1,HB,rfl,IB,T1,stB,fB,W1,⟨m1,w1⟩,step1⟩ := zB
   have kn1 : ∀ (j : Nat) v,(wipe σ vs)[j]? = some (some v) -> (wipe σ8 vs1)[j]? = some (some v) := fun j v e => by
    rw [<- w8] at e
    obtain ⟨e1,e2⟩ := wipe_some e
    rw [wipe_out fun z => e2 (hvv j z)]
    exact e1
   have lp : codeAny (model Xb.prog Xb.w) Xb.A (.compLoop (dc2 kx vx tg iter ifs tg1 iter1 ifs1 scope pos) 1 (.ref jt) (.ref D) Xb.env) (fun r s' => match r with
      | .ok _ => ∃ m,m < n /\ ∃ i H',Inv Xb [] (wipe σ vs) H' s' /\ tn i s'.heap /\ (∀ b ∈ fp,H' b = none) /\ W i m H'
      | .error _ => False) sB := by
    refine aFP (fun k s' => ∃ j H',Inv Xb ([] ++ pinsAt fp s7.heap) (wipe σ8 vs1) H' s' /\ tm j s'.heap /\ (∀ b ∈ fq,H' b = none) /\ W1 j k H') ?_ m1 ⟨0,HB,IB.weak (wipe_length _ _) (fun j v e => (wipe_some e).1),stB,fun b hb => (fB b hb).1,w1⟩
    rintro k sC ⟨j,HC,IC,stC,nC,wC⟩
    have foC : ∀ b ∈ fq,FpOk Xb ([] ++ pinsAt fp s7.heap) HC b := fun b hb => ⟨nC b hb,(fB b hb).2⟩
    rcases step1 j k HC wC with ⟨stop1,nx1⟩ | ⟨go1,Nx1,hNx1,body1⟩
    ·refine thnF (T1.done _ rfl rfl rfl hcb j _ sC (wipe σ8 vs1) HC (fun _ _ => False) IC foC stC stop1) fun r sD ⟨hr,ID⟩ => ?_
     subst hr
     exact fin ID ((knows w8).1.trans (wipe_length σ8 vs1).symm) kn1 nx1
    ·refine thnF (aG5 T1 hcb IC foC stC go1 (E := fun _ _ => False) (Q := fun u sF => ∃ x HF,Inv Xb (([] ++ pinsAt fp s7.heap) ++ pinsAt fq sF.heap) (wipe σ8 vs1) HF sF /\ RelV x u /\ J1.yld j HC x HF /\ (∀ {σ2 : L2.St} {H2 : Hp} {s2 : Shared},Inv Xb (([] ++ pinsAt fp s7.heap) ++ pinsAt fq sF.heap) σ2 H2 s2 -> Inv Xb ([] ++ pinsAt fp s7.heap) σ2 H2 s2 /\ tm (j + 1) s2.heap /\ ∀ b ∈ fq,H2 b = none))
      fun u x H1 s1 a b c d => ⟨x,H1,a,b,c,@d⟩) fun r sE ⟨u1,hr,z1⟩ => ?_
     subst hr
     refine thnF z1 fun _ sF ⟨x1,HF,IF,rF,yF,back1⟩ => ?_
     refine uA ex (pg1.run _ sF _ HF x1 u1 _ IF rF (body1 x1 HF yF)) fun _ sG ⟨σG,HG,IG,wG,qG⟩ => ?_
     refine uA ex (pt1.run _ sG σG HG _ IG qG) fun b1 sH ⟨HH,IH,qH⟩ => ?_
     have fin1 : ∀ {s' : Shared} {H' : Hp},Inv Xb (([] ++ pinsAt fp s7.heap) ++ pinsAt fq sF.heap) σG H' s' -> Nx1 H' -> ∃ m,m < k /\ ∃ j H',Inv Xb ([] ++ pinsAt fp s7.heap) (wipe σ8 vs1) H' s' /\ tm j s'.heap /\ (∀ b ∈ fq,H' b = none) /\ W1 j m H' := fun {s' H'} I' nx => by
      obtain ⟨m',hm,w'⟩ := hNx1 H' nx
      obtain ⟨a,b,c⟩ := back1 I'
      exact ⟨m',hm,j + 1,H',a.weak (knows wG).1 (knows wG).2,b,c,w'⟩
     cases b1 with
     | false => exact fin1 IH qH
     | true =>
      refine uA ex (pk.run _ sH σG HH _ IH qH) fun zk sI ⟨yk,HI,II,rI,qI⟩ => ?_
      refine uA ex (pv.run _ sI σG HI _ II qI) fun zv sJ ⟨yv,HJ,IJ,rJ,HL,put,nx⟩ => ?_
      exact aFR hub IJ put rI rJ fun sK IK => fin1 IK nx
   exact aEv lp (T1.self Xb.A 0 _ _ _ stB lp)
end PV
end
section
namespace PV
open PySem PySem.Spec PyProof.Rows L2
/-- keys: ints and strs,or tuples of such -/
structure KKind (κ : Type) where
 obj : List (κ × V) -> HO
 cell : List (κ × D) -> Cl
 key : D -> Option κ
def kK : KKind Key := ⟨.dK, .dK,toK⟩
structure KOk {κ : Type} [DecidableEq κ] (K : KKind κ) : Prop where
 d0 : aF5 (K.obj [])
 mu : ∀ vs,fC (K.obj vs) = true
 put : ∀ {g : Gx} {μ : List Addr} {H : Hp} {a : Addr} {y : D} {vy vz : V} {vs : List (κ × V)} {k : κ},K.key y = some k -> RV g μ H y vy -> H a = some (K.obj vs) -> vs.length < sizeLine -> DPut H a vy vz (upd H a (K.obj (putK vs k vz)))
 rc : ∀ {g : Gx} {μ : List Addr} {H : Hp} {a : Addr} {kvs : List (κ × D)} {vs : List (κ × V)},RKs g μ H kvs vs -> H a = some (K.obj vs) -> RC g μ H a (K.cell kvs)
theorem aK3 : KOk kK := ⟨.inl rfl,fun _ => rfl,fun e q ha hl => by rw [yA e q]; exact DPut.k ha hl,fun r ha => ⟨_,ha,r⟩⟩
section
variable {κ : Type} [DecidableEq κ] {K : KKind κ}
def mR (K : KKind κ) (mt : M Bool) (mk mv : M D) : List (κ × D) -> Sg -> Hh -> R (List (κ × D)) := fun acc σ h => (noX (mt σ h)).bind fun b h2 => if b = true then
  (noX (mk σ h2)).bind fun y h3 => (noX (mv σ h3)).bind fun z h4 => match K.key y with
   | some k => if acc.length < sizeLine then .ok (kB acc k (aU z h4).1) (aU z h4).2 else .bad
   | none => .bad
 else .ok acc h2
def rP (K : KKind κ) (mi : M Src) (t : Tg) (mt : M Bool) (mi1 : M Src) (t1 : Tg) (mt1 : M Bool) (mk mv : M D) (vs vs1 : List Nat) : M D := fun σ h => (mi σ h).bind fun src h1 =>
 (lcL src t (fun acc σ1 h => (noX (mt σ1 h)).bind fun b h2 => if b = true then (noX (mi1 σ1 h2)).bind fun src1 h3 => lcL src1 t1 (mR K mt1 mk mv) (cG σ1 vs1) dP 0 acc h3 else .ok acc h2) (cG σ vs) dP 0 [] h1).bind fun acc h2 => .ok (.ref h2.length) (h2 ++ [K.cell acc])
abbrev kC (K : KKind κ) (g : Gx) : List Addr -> Hp -> List (κ × D) -> HO -> Prop := fun μ H acc o => ∃ vs,o = K.obj vs /\ RKs g μ H acc vs
variable {g : Gx} {X : Cx} {Wx : WX} {kx vx tg iter tg1 iter1 : Expr} {ifs ifs1 : List Expr} {scope : Scope} {own : List (Str × Nat)} {pos : Pos} {mi mi1 : M Src} {t t1 : Tg} {mt mt1 : M Bool} {mk mv : M D}
theorem gL {μ μ' : List Addr} {H H' : Hp} {acc : List (κ × D)} {o : HO} (tr : Trk μ H) (x : Ext μ H μ' H') (r : kC K g μ H acc o) : kC K g μ' H' acc o := by
 obtain ⟨vs,e,z⟩ := r
 exact ⟨vs,e,z.ext tr x⟩
theorem aEp {acc : List (κ × D)} {σ : Sg} {h : Hh} {c : Nat} {fs : List (Str × D)} {h' : Hh} : mR K mt mk mv acc σ h ≠ .exc c fs h' := fun z => by
 unfold mR at z
 rcases bind_exc z with z | ⟨b,h2,_,z⟩
 ·exact lK z
 ·split at z
  ·rcases bind_exc z with z | ⟨y,h3,_,z⟩
   ·exact lK z
   ·rcases bind_exc z with z | ⟨y2,h4,_,z⟩
    ·exact lK z
    ·split at z
     ·split at z <;> cases z
     ·cases z
  ·cases z
/-- one turn's end: the test,the key,the value -/
theorem aLW (KO : KOk K) {Gr : List Addr -> Hp -> Prop} {μ : List Addr} {H : Hp} {a : Addr} {acc : List (κ × D)} {h : Hh} {σw : Sg} {σ : L2.St} {Nx : Hp -> Prop} (go : GrOk Gr a) (hts : STs g X scope ifs mt) (hk : SB g X scope kx mk) (hv : SB g X scope vx mv)
  (G : Gd g (kC K g) Gr a μ h acc H) (rs : RS g μ H σw σ) (p : PoL g (kC K g) Gr a (mR K mt mk mv acc σw h) Nx) :
  tTs X scope ifs σ H fun b H3 => if b = true then tB1 X scope kx σ H3 fun y H4 => tB1 X scope vx σ H4 fun z H5 => ∃ H6,DPut H5 a y z H6 /\ Nx H6 else Nx H3 := by
 refine wL hts rs G.r ((PoL.po (rel := kC K g) go gL G p).imp fun b h2 μ2 H2 x2 r2 q2 => ?_)
 obtain ⟨G2,p2⟩ := q2
 have G2 := G2 μ2 H2 x2 r2
 cases b with
 | false => exact p2 μ2 H2 G2
 | true =>
  simp only [if_true] at p2 ⊢
  intro s0 H0 C cl fp
  refine hk s0 H0 C cl fp σw h2 σ H2 μ2 _ (rs.ext G.r.trk x2) r2 ((PoL.po (rel := kC K g) go gL G2 p2).imp fun y h3 μ3 H3 x3 r3 q3 vy qy fy => ?_)
  obtain ⟨G3,p3⟩ := q3
  have G3 := G3 μ3 H3 x3 r3
  intro s0 H0 C cl fp
  refine hv s0 H0 C cl fp σw h3 σ H3 μ3 _ (rs.ext G.r.trk (x2.trans x3)) r3 ((PoL.po (rel := kC K g) go gL G3 p3).imp fun z h4 μ4 H4 x4 r4 q4 vz qz fz => ?_)
  obtain ⟨G4,p4⟩ := q4
  obtain ⟨μ4',x4',r4',qz',_⟩ := lP r4 qz fz x4
  have G5 : Gd g (kC K g) Gr a μ4' (aU z h4).2 acc H4 := G3.ext go gL x4' r4'
  have qy5 := qy.ext r3.trk x4'
  obtain ⟨x5,r5,na5,o,eo,mo,vs,rfl,zk⟩ := G5
  split at p4
  ·rename_i k ek
   split at p4
   ·rename_i hl
    have z2 := yU zk k gX qz'
    exact ⟨_,KO.put ek qy5 eo (by rw [zk.length]; exact hl),p4 μ4' _ ⟨go.up x5 eo mo na5 (KO.mu _),r5.upd eo mo na5,na5,_,upd_same,KO.mu _,_,rfl,z2.upd eo mo⟩⟩
   ·exact p4.elim
  ·exact p4.elim
theorem aIS (KO : KOk K) {Wx : WX} {μ0 μ1 : List Addr} {H0 H1 : Hp} {D : Addr} {r : R (List (κ × PV.D))} {σ : L2.St} {Q : VK} (nx : ∀ c fs h,r ≠ .exc c fs h) (x1 : Ext μ0 H0 μ1 H1) (nD : H1 D = none)
  (p1 : Po g Wx σ μ1 H1 (r.bind fun acc h2 => .ok (.ref h2.length) (h2 ++ [K.cell acc])) fun w h' μ' H' => ∀ v,RV g μ' H' w v -> Fr H0 w v -> Q v H') : PoL g (kC K g) (Ext μ1 H1) D r fun H2 => Q (.ref D) H2 := by
 cases r with
 | bad => exact p1.elim
 | exc c fs h2 => exact absurd rfl (nx c fs h2)
 | ok acc h2 =>
  intro μ2 H2 G2
  obtain ⟨o,eo,mo,vs,rfl,z⟩ := G2.ob
  have xt : Ext μ1 H1 (μ2 ++ [D]) H2 := by
   obtain ⟨⟨e,rfl,fe⟩,fr,lv,tb⟩ := G2.x
   refine ⟨⟨e ++ [D],by simp,fun b hb => ?_⟩,fr,lv,tb⟩
   rcases List.mem_append.mp hb with hb | hb
   ·exact fe b hb
   ·have : b = D := by simpa using hb
    rw [this]; exact nD
  refine p1 (μ2 ++ [D]) H2 xt (G2.r.track G2.na (KO.rc z eo)) (.ref D) ⟨D, ?_,rfl⟩ (.of rfl)
  rw [<- G2.r.len]; simp
theorem aHE (KO : KOk K) {μ1 : List Addr} {H1 : Hp} {h1 : Hh} {D : Addr} (r1 : RH g μ1 h1 H1) (nD : H1 D = none) : Gd g (kC K g) (Ext μ1 H1) D μ1 h1 [] (upd H1 D (K.obj [])) := ⟨.new r1.trk nD,r1.new nD,fun hm => r1.trk.ne nD hm rfl,_,upd_same,KO.mu _,[],rfl,rfl⟩
end
end PV
end
section
namespace PV
open PySem PySem.Spec PyProof.Rows L2
section
variable {κ : Type} [DecidableEq κ] {K : KKind κ} {g : Gx} {X : Cx} {Wx : WX} {kx vx tg iter tg1 iter1 : Expr} {ifs ifs1 : List Expr} {scope : Scope} {own : List (Str × Nat)} {pos : Pos} {mi mi1 : M Src} {t t1 : Tg} {mt mt1 : M Bool} {mk mv : M D} {vs1 : List Nat}
theorem aFO (KO : KOk K) (hi : SI g X Wx tg iter mi) (hg : SBG g X scope tg t) (hts : STs g X scope ifs mt) (hi1 : SBI g X scope tg1 iter1 mi1) (hg1 : SBG g X scope tg1 t1) (hts1 : STs g X scope ifs1 mt1) (hk : SB g X scope kx mk) (hv : SB g X scope vx mv)
  (hsl : ∀ i ∈ t.slots,i ∈ own.map (·.2)) (hsl1 : ∀ i ∈ t1.slots,i ∈ vs1)
  {σw : Sg} {h : Hh} {σ : L2.St} {H : Hp} {μ : List Addr} {Q : VK} (rs : RS g μ H σw σ) (rh : RH g μ h H)
  (po : Po g Wx σ μ H (rP K mi t mt mi1 t1 mt1 mk mv (own.map (·.2)) vs1 σw h) (fun w h' μ' H' => ∀ v,RV g μ' H' w v -> Fr H w v -> Q v H')) :
  aKz (K.obj []) (zG X tg iter) (tBG X scope tg) (tTs X scope ifs) (tBI X scope tg1 iter1) (tBG X scope tg1) (tTs X scope ifs1) (tB1 X scope kx) (tB1 X scope vx) (own.map (·.2)) vs1 σ H Q := by
 refine hi σw h σ H μ _ rs rh (po.bind.imp fun src h1 μ1 H1 x1 r1 p1 J sk D nD => ?_)
 have rs1 := (rs.ext rh.trk x1).wipe (own.map (·.2))
 generalize hbd : (fun (acc : List (κ × PV.D)) (σ1 : Sg) (h : Hh) => (noX (mt σ1 h)).bind fun b h2 => if b = true then (noX (mi1 σ1 h2)).bind fun src1 h3 => lcL src1 t1 (mR K mt1 mk mv) (cG σ1 vs1) dP 0 acc h3 else .ok acc h2) = bd at p1
 have nb : ∀ acc σ h c fs h',bd acc σ h ≠ .exc c fs h' := by
  intro acc σ h c fs h' z
  rw [<- hbd] at z
  rcases bind_exc z with z | ⟨b,h2,_,z⟩
  ·exact lK z
  ·split at z
   ·rcases bind_exc z with z | ⟨y,h3,_,z⟩
    ·exact lK z
    ·exact uN (fun _ _ _ _ _ _ => aEp) _ _ _ _ z
   ·cases z
 have pl := aIS KO (fun c fs h => uN nb _ _ _ _) x1 nD p1
 have go := aG4 (a := D) r1.trk nD
 refine yM (rel := kC K g) go gL (fun μ H h x r i => (sk.ext x).at r i) (fun w x acc h μ H' σ1 Nx G nt qx e2 p2 => ?_) (aHE KO r1 nD) pl
 intro s0 H0 C cl fp
 refine hg s0 H0 C cl fp w x _ σ1 h _ H' μ _ (rs1.ext r1.trk G.x) G.r nt qx e2 fun σ' rs' w' => ⟨by rw [w' _ hsl,uH], ?_⟩
 rw [<- hbd] at p2
 refine wL hts rs' G.r ((PoL.po (rel := kC K g) go gL G p2).imp fun b h2 μ2 H2 x2 r2 q2 => ?_)
 obtain ⟨G2,p3⟩ := q2
 have G2 := G2 μ2 H2 x2 r2
 have rs2 := rs'.ext G.r.trk x2
 cases b with
 | false => exact p3 μ2 H2 G2
 | true =>
  simp only [if_true] at p3 ⊢
  intro s0 H0 C cl fp
  refine hi1 s0 H0 C cl fp σ1 h2 σ' H2 μ2 _ rs2 r2 ((PoL.po (rel := kC K g) go gL G2 p3).imp fun src1 h3 μ3 H3 x3 r3 q3 J1 sk1 => ?_)
  obtain ⟨G3,p4⟩ := q3
  have G3 := G3 μ3 H3 x3 r3
  have sD : yD μ2 H2 D := by
   obtain ⟨o,eo,mo,_⟩ := G2.ob
   exact ⟨o,eo,mo,G2.na⟩
  have rs3 := (rs2.ext r2.trk x3).wipe vs1
  generalize yD μ2 H2 = S at sk1 sD
  -- the inner loop,over a ground of its own
  let Gr : List Addr -> Hp -> Prop := fun μ H => Ext μ1 H1 μ H /\ ExtS S μ3 H3 μ H /\ SOk S μ H /\ RS g μ H (cG σ1 vs1) (wipe σ' vs1)
  have go1 : GrOk Gr D := by
   refine ⟨fun {μ H μ' H'} gr tr x => ?_,fun {μ H o o'} gr eo mo no mo' => ?_⟩
   ·obtain ⟨y1,y2,y3,y4⟩ := gr
    exact ⟨y1.trans x,y2.trans x y3.nin,y3.ext x,y4.ext tr x⟩
   ·obtain ⟨y1,y2,y3,y4⟩ := gr
    refine ⟨y1.updN r1.trk nD,y2.upd sD,⟨fun b sb => ?_,y3.nin⟩,y4.1,fun i w e => ?_⟩
    ·by_cases hb : b = D
     ·subst hb; exact ⟨o',upd_same,mo'⟩
     ·rw [upd_ne hb]; exact y3.mu b sb
    ·obtain ⟨v,ev,nt,q⟩ := y4.2 i w e
     exact ⟨v,ev,nt,q.upd eo mo nt⟩
  have G4 : Gd g (kC K g) Gr D μ3 h3 acc H3 := G3.sub fun x => ⟨x,(Ext.refl r3.trk).toS fun b sb _ => sk1.so.nin b sb,sk1.so,rs3⟩
  refine yM (rel := kC K g) go1 gL (fun μ H h x r i => sk1.ok μ H h x.2.1 r i) (fun w x acc h μ H' σ2 Nx1 G nt qx e2 p5 => ?_) G4 (p4.sub fun x => x.1)
  intro s0 H0 C cl fp
  refine hg1 s0 H0 C cl fp w x _ σ2 h _ H' μ _ G.x.2.2.2 G.r nt qx e2 fun σ3 rs3 w3 => ⟨?_,aLW KO go1 hts1 hk hv G rs3 p5⟩
  rw [w3 _ hsl1,uH]
theorem aJ2 (KO : KOk K) (hc : X.calm = true) (hu : X.A.units + 1 < cLine) (hN : X.N.Nodup) (ok : BlkOk X.N X.env.scope scope own) (hv1 : ∀ i ∈ vs1,i ∈ own.map (·.2)) (hsl : ∀ i ∈ t.slots,i ∈ own.map (·.2)) (hsl1 : ∀ i ∈ t1.slots,i ∈ vs1)
  (hs : ∀ x,foldedSetIterable iter X.env x = pure x) (hs1 : ∀ env x,foldedSetIterable iter1 env x = pure x)
  (hi : SI g X Wx tg iter mi) (hg : SBG g X scope tg t) (hts : STs g X scope ifs mt) (hi1 : SBI g X scope tg1 iter1 mi1) (hg1 : SBG g X scope tg1 t1) (hts1 : STs g X scope ifs1 mt1) (hk : SB g X scope kx mk) (hv : SB g X scope vx mv) :
  SE g X Wx (.DictComp kx vx [⟨tg,iter,ifs,0⟩,⟨tg1,iter1,ifs1,0⟩] scope pos) (rP K mi t mt mi1 t1 mt1 mk mv (own.map (·.2)) vs1) := by
 intro σw h σ H μ Q rs rh po
 refine dX (aJm hc hu hN KO.d0 aDP ok hv1 (fun s0 H0 C cl fp => (⟨fun pins s σ H v u Q I r q => q s0 H0 C cl fp pins s u I r⟩ : PG _ _ (tBG X scope tg))) (fun s0 H0 C cl fp => yS hts s0 H0 C cl fp)
  (fun s0 H0 C cl fp => (⟨fun pins s σ H R I q => q s0 H0 C cl fp pins s I⟩ : PI _ _ _ (tBI X scope tg1 iter1)))
  (fun s0 H0 C cl fp => (⟨fun pins s σ H v u Q I r q => q s0 H0 C cl fp pins s u I r⟩ : PG _ _ (tBG X scope tg1))) (fun s0 H0 C cl fp => yS hts1 s0 H0 C cl fp)
  (fun s0 H0 C cl fp => (⟨fun pins s σ H Q I q => q s0 H0 C cl fp pins s I⟩ : PE _ _ (tB1 X scope kx))) (fun s0 H0 C cl fp => (⟨fun pins s σ H Q I q => q s0 H0 C cl fp pins s I⟩ : PE _ _ (tB1 X scope vx))) hs hs1) ?_
 exact aFO KO hi hg hts hi1 hg1 hts1 hk hv hsl hsl1 rs rh po
end
section
variable {κ : Type} [DecidableEq κ] {K : KKind κ} {FS : FST} {g : Gx} {k : Nat} {cl : Cll} {N : List Str} {sc : Scope} {fq : Str -> Bool} {X : Cx} {Wx : WX} {kx vx tg iter tg1 iter1 : Expr} {ifs ifs1 : List Expr} {scope : Scope} {pos : Pos} {mi mi1 : M Src} {t t1 : Tg} {mt mt1 : M Bool} {mk mv : M D}
theorem Good.dc2 (G : Good FS g k cl N sc fq X Wx) (KO : KOk K) (own : List (Str × Nat)) (vs vs1 : List Nat) (hB : okB N sc scope own = true) (hvs : own.map (·.2) = vs) (hsl : sS t.slots vs = true) (hv1 : sS vs1 vs = true) (hsl1 : sS t1.slots vs1 = true)
  (hs : ∀ x,foldedSetIterable iter X.env x = pure x) (hs1 : ∀ env x,foldedSetIterable iter1 env x = pure x) (hi : SI g X Wx tg iter mi)
  (hg : ∀ X,Good FS g k cl N (relS scope sc) (fqB scope) X WF -> SG g X tg t) (ht : GTs FS g k cl N (relS scope sc) (fqB scope) ifs mt)
  (hi1 : ∀ X,Good FS g k cl N (relS scope sc) (fqB scope) X WF -> SI g X WF tg1 iter1 mi1)
  (hg1 : ∀ X,Good FS g k cl N (relS scope sc) (fqB scope) X WF -> SG g X tg1 t1) (ht1 : GTs FS g k cl N (relS scope sc) (fqB scope) ifs1 mt1)
  (hk : ∀ X,Good FS g k cl N (relS scope sc) (fqB scope) X WF -> SE g X WF kx mk) (hv : ∀ X,Good FS g k cl N (relS scope sc) (fqB scope) X WF -> SE g X WF vx mv) :
  SE g X Wx (.DictComp kx vx [⟨tg,iter,ifs,0⟩,⟨tg1,iter1,ifs1,0⟩] scope pos) (rP K mi t mt mi1 t1 mt1 mk mv vs vs1) := by
 subst hvs
 exact aJ2 KO G.calm G.u1 G.xN (G.bok hB) (uV hv1) (uV hsl) (uV hsl1) hs hs1 hi (fun s0 H0 C c1 fp => hg _ (G.blk scope s0 H0 C c1 fp)) (ht.sts G)
  (fun s0 H0 C c1 fp => hi1 _ (G.blk scope s0 H0 C c1 fp)) (fun s0 H0 C c1 fp => hg1 _ (G.blk scope s0 H0 C c1 fp)) (ht1.sts G) (fun s0 H0 C c1 fp => hk _ (G.blk scope s0 H0 C c1 fp)) (fun s0 H0 C c1 fp => hv _ (G.blk scope s0 H0 C c1 fp))
end
end PV
end
section
namespace PV
open PySem PySem.Spec PyProof.Rows L2
section
variable {κ : Type} [DecidableEq κ] {K : KKind κ} {FS : FST} {g : Gx} {k : Nat} {cl : Cll} {N : List Str} {sc : Scope} {fq : Str -> Bool} {X : Cx} {Wx : WX} {kx vx tg iter tg1 iter1 : Expr} {ifs ifs1 : List Expr} {scope : Scope} {pos : Pos} {mI mI1 : M Src} {t t1 : Tg} {mt mt1 : M Bool} {mk mv : M D}
theorem Good.qdc2 (G : Good FS g k cl N sc fq X Wx) (KO : KOk K) (own : List (Str × Nat)) (vs vs1 : List Nat) (hB : okB N sc scope own = true) (hvs : own.map (·.2) = vs) (hsl : sS t.slots vs = true) (hv1 : sS vs1 vs = true) (hsl1 : sS t1.slots vs1 = true) (hs : yP iter = true) (hs1 : yP iter1 = true) (hi : QI g X Wx tg iter mI) (hg : ∀ X,Good FS g k cl N (relS scope sc) (fqB scope) X WF -> QG g X tg t) (ht : QTs FS g k cl N (relS scope sc) (fqB scope) ifs mt)
  (hi1 : ∀ X,Good FS g k cl N (relS scope sc) (fqB scope) X WF -> QI g X WF tg1 iter1 mI1) (hg1 : ∀ X,Good FS g k cl N (relS scope sc) (fqB scope) X WF -> QG g X tg1 t1) (ht1 : QTs FS g k cl N (relS scope sc) (fqB scope) ifs1 mt1)
  (hk : ∀ X,Good FS g k cl N (relS scope sc) (fqB scope) X WF -> QE g X WF kx mk) (hv : ∀ X,Good FS g k cl N (relS scope sc) (fqB scope) X WF -> QE g X WF vx mv) : QE g X Wx (.DictComp kx vx [⟨tg,iter,ifs,0⟩,⟨tg1,iter1,ifs1,0⟩] scope pos) (rP K mI t mt mI1 t1 mt1 mk mv vs vs1) :=
 ⟨G.dc2 KO own vs vs1 hB hvs hsl hv1 hsl1 (fun _ => aAA hs) (fun _ _ => aAA hs1) hi.p (fun X G => (hg X G).p) ht.un (fun X G => (hi1 X G).p) (fun X G => (hg1 X G).p) ht1.un (fun X G => (hk X G).p) (fun X G => (hv X G).p)⟩
end
end PV
end
section
namespace PV
open PySem PySem.Spec PyProof.Rows L2
def mD0 (c : Cl) : M D := fun _ h => .ok (.ref h.length) (h ++ [c])
section
variable {g : Gx} {X : Cx} {Wx : WX} {pos : Pos}
theorem aHQ {μ : List Addr} {h : Hh} {H : Hp} {p : Addr} {o : HO} {c : Cl} (rh : RH g μ h H) (np : H p = none) (rc : RC g μ (upd H p o) p c) : Ext μ H (μ ++ [p]) (upd H p o) /\ RH g (μ ++ [p]) (h ++ [c]) (upd H p o) /\ RV g (μ ++ [p]) (upd H p o) (.ref h.length) (.ref p) := by
 have x := Ext.new (μ := μ) (o := o) rh.trk np
 refine ⟨⟨⟨[p],rfl,fun b hb => ?_⟩,x.fr',x.lv,x.tb⟩,(rh.new np).track (fun hm => rh.trk.ne np hm rfl) rc,p, ?_,rfl⟩
 ·have : b = p := by simpa using hb
  rw [this]; exact np
 ·rw [<- rh.len]; simp
theorem aJ1 : SE g X Wx (.Dict [] [] pos) (mD0 (.dK [])) := fun σw h σ H μ Q rs rh po => dX pe_dnewK fun p np => by
 obtain ⟨x,r,q⟩ := aHQ (o := .dK []) (c := .dK []) rh np ⟨[],upd_same,rfl⟩
 exact po _ _ x r _ q (.of rfl)
theorem aFa : QE g X Wx (.Dict [] [] pos) (mD0 (.dK [])) := ⟨aJ1⟩
end
end PV
end
section
namespace PV
open PySem PySem.Spec PyProof.Rows L2
end PV
end
section
namespace PV
open PySem PySem.Spec PyProof.Rows L2
def kPy : Key -> PyData
 | .inl i => .int i
 | .inr x => .str x
def toQ (h : Hh) : Nat -> D -> Option PyData
 | 0,_ => none
 | n + 1,d => match d with
  | .non => some .none
  | .bl b => some (.bool b)
  | .int i => some (.int i)
  | .str x => some (.str x)
  | .tup ws => (aK (toQ h n) ws).map .tuple
  | .kt ws => (aK (toQ h n) ws).map .tuple
  | .ref i => match h[i]? with
   | some (.dK kvs) => (aK (toQ h n) (kvs.map (·.2))).map fun ds => .dict ((kvs.map fun kv => kPy kv.1).zip ds)
   | _ => none
  | _ => none
section
variable {g : Gx} {X : Cx} {Wx : WX} {pins : List (Addr × Obj)} {σ : L2.St} {μ : List Addr} {h : Hh} {H : Hp} {s : Shared}
theorem uP {f : D -> Option PyData} (ih : ∀ w v d u,f w = some d -> RV g μ H w v -> RelV v u -> ∃ as,Reads s.heap u d as /\ sysModules ∉ as) : ∀ {ws : List D} {vs : List V} {us : List Value} {ds : List PyData},aK f ws = some ds -> RVs g μ H ws vs -> Vals vs us -> ∃ as,ReadsAll s.heap us ds as /\ sysModules ∉ as
 | [],vs,us,ds,e,r,v => by
  rw [show vs = [] from r] at v
  unfold aK at e
  cases e; cases v
  exact ⟨_, .nil,by simp⟩
 | w :: ws,vs,us,ds,e,r,v => by
  obtain ⟨v1,rr,rfl,_,q,z⟩ := r
  unfold aK at e
  cases v with
  | cons r1 r2 =>
   split at e
   ·rename_i a b ea eb
    cases e
    obtain ⟨as,q1,n1⟩ := ih w v1 a _ ea q r1
    obtain ⟨bs,q2,n2⟩ := uP ih eb z r2
    exact ⟨_, .cons q1 q2,by simp [n1,n2]⟩
   ·cases e
theorem aF8 {P : Program} {w : World} {es : List DictEntry} {vs : List (Key × Value)} (hp : Pairs (mixKind P w) es vs) : ReadsAll s.heap (es.map (·.key)) (vs.map fun p => kPy p.1) [] /\ es.map (·.val) = vs.map (·.2) := by
 induction hp with
 | nil => exact ⟨.nil,rfl⟩
 | cons h1 h2 _ ih =>
  obtain ⟨i1,i2⟩ := ih
  refine ⟨?_,by simp [h2,i2]⟩
  rcases keyIs_shape h1 with ⟨i,t,ek,ev⟩ | ⟨x,t,ek,ev⟩
  ·simp only [List.map_cons,ek,ev,kPy]
   exact .cons (.int i t) i1
  ·simp only [List.map_cons,ek,ev,kPy]
   exact .cons (.str x t) i1
theorem aGB {kvs : List (Key × D)} {vs : List (Key × V)} (r : RKs g μ H kvs vs) : RVs g μ H (kvs.map (·.2)) (vs.map (·.2)) /\ kvs.map (·.1) = vs.map (·.1) := by
 induction kvs generalizing vs with
 | nil => rw [show vs = [] from r]; exact ⟨rfl,rfl⟩
 | cons p kvs ih =>
  obtain ⟨v,rr,rfl,nt,q,z⟩ := r
  obtain ⟨i1,i2⟩ := ih z
  exact ⟨⟨v,_,rfl,nt,q,i1⟩,by simp [i2]⟩
theorem aHI {vs : List (Key × V)} {us : List (Key × Value)} (r : KV vs us) : Vals (vs.map (·.2)) (us.map (·.2)) /\ vs.map (·.1) = us.map (·.1) := by
 induction r with
 | nil => exact ⟨.nil,rfl⟩
 | cons h _ ih => exact ⟨.cons h.2 ih.1,by simp [h.1,ih.2]⟩
theorem yC (hK : X.K = g.K) (rh : RH g μ h H) (I : Inv X pins σ H s) : ∀ (n : Nat) (w : D) (v : V) (d : PyData) (u : Value),toQ h n w = some d -> RV g μ H w v -> RelV v u -> ∃ as,Reads s.heap u d as /\ sysModules ∉ as
 | 0,w,v,d,u,e,r,q => by unfold toQ at e; cases e
 | n + 1,w,v,d,u,e,r,q => by
  unfold toQ at e
  split at e
  ·cases e; rw [show v = .non from r] at q; cases q; exact ⟨_, .none,by simp⟩
  ·cases e; rw [show v = .bl _ from r] at q; cases q; exact ⟨_, .bool _,by simp⟩
  ·cases e; rw [show v = .int _ from r] at q; obtain ⟨t,rfl⟩ := q; exact ⟨_, .int _ t,by simp⟩
  ·cases e; rw [show v = .str _ from r] at q; obtain ⟨t,rfl⟩ := q; exact ⟨_, .str _ t,by simp⟩
  ·obtain ⟨a,vs,rfl,ht,z⟩ := r
   cases q
   obtain ⟨ds,e1,rfl⟩ := Option.map_eq_some_iff.mp e
   obtain ⟨its,rv,⟨o,ho,hc,m,hd⟩,_⟩ := I.tuple (SqT.of ht)
   obtain ⟨as,h1,h2⟩ := uP (yC hK rh I n) e1 z rv
   exact ⟨_, .tuple ho hc hd h1,h2⟩
  ·obtain ⟨a,vs,rfl,ht,z⟩ := r
   cases q
   obtain ⟨ds,e1,rfl⟩ := Option.map_eq_some_iff.mp e
   obtain ⟨its,rv,⟨o,ho,hc,m,hd⟩,_⟩ := I.tuple (by rw [hK]; exact ht)
   obtain ⟨as,h1,h2⟩ := uP (yC hK rh I n) e1 z rv
   exact ⟨_, .tuple ho hc hd h1,h2⟩
  ·rename_i i
   split at e
   ·rename_i kvs e3
    obtain ⟨a,e1,rfl⟩ := r
    cases q
    obtain ⟨b,eb,vs,hb,z⟩ := rh.cell i _ e3
    rw [e1] at eb; cases eb
    obtain ⟨ds,e4,rfl⟩ := Option.map_eq_some_iff.mp e
    obtain ⟨_,lo,us,rel,o,es,ep,ho,hx,hd,_,hp,_⟩ := dk_rd I.hok (.inl hb)
    obtain ⟨z1,z2⟩ := aGB z
    obtain ⟨r1,r2⟩ := aHI rel
    obtain ⟨k1,k2⟩ := aF8 (s := s) hp
    obtain ⟨as,h1,h2⟩ := uP (yC hK rh I n) e4 z1 r1
    have lds : ds.length = kvs.length := by rw [vS e4]; simp
    have ke : (kvs.map fun kv => kPy kv.1) = us.map fun p => kPy p.1 := by
     have := congrArg (List.map kPy) (z2.trans r2)
     rw [List.map_map,List.map_map] at this
     exact this
    refine ⟨_, .dict (as := []) (bs := as) ho hx.1 hd ?_ ?_, ?_⟩
    ·rw [List.map_fst_zip (by simp [lds]),ke]; exact k1
    ·rw [List.map_snd_zip (by simp [lds]),k2]; exact h1
    ·have : sysModules ≠ a := fun z => by rw [z] at lo; simp at lo
     simp [h2,this]
   ·cases e
  ·cases e
/-- repr: plain data,else tuples with dicts -/
def jB (x : D) (h : Hh) : R D := match toP h bG x with
 | some _ => xS x h
 | none => match toQ h bG x with
  | some d => if d.showable = true /\ d.shown.length <= sizeLine /\ d.depth <= 64 then .ok (.str d.shown) h else .bad
  | none => .bad
theorem aBT (hK : X.K = g.K) (hg : X.A.guards = some []) (hu : X.A.units + 65 < cLine) : SC1 g X Wx (.builtin "repr") jB := by
 intro x h σ H μ vx Q rh qx po
 unfold jB at po
 split at po
 ·exact aId hK hg hu x h σ H μ vx Q rh qx po
 ·split at po
  ·rename_i d e
   split at po
   ·rename_i hs
    obtain ⟨h1,h2,h3⟩ := hs
    intro pins s σ us I r
    obtain ⟨u,rfl,rv⟩ := vals1 r
    obtain ⟨as,rd,na⟩ := yC hK rh I _ _ _ _ _ e qx rv
    have fin : ∀ h' tk t,(∀ b o,s.heap.get? b = some o -> h'.get? b = some o) -> EP X pins σ Q (.str d.shown t) { s with heap := h',toks := tk } := fun h' tk t hk => ⟨.str _,H,I.kept (t' := tk) hk,⟨_,rfl⟩,po.at rh _ rfl (.of rfl)⟩
    cases rd with
    | none => exact PySem.P.repr_of_none ⟨.str _,H,I.tok _,⟨_,rfl⟩,po.at rh _ rfl (.of rfl)⟩
    | bool b => exact PySem.P.repr_of_bool ⟨.str _,H,I.tok _,⟨_,rfl⟩,po.at rh _ rfl (.of rfl)⟩
    | int i t => exact PySem.P.repr_of_int (of_decide_eq_true h1) ⟨.str _,H,I.tok _,⟨_,rfl⟩,po.at rh _ rfl (.of rfl)⟩
    | str y t => exact PySem.P.repr_of_str (hsz := h2) ⟨.str _,H,I.tok _,⟨_,rfl⟩,po.at rh _ rfl (.of rfl)⟩
    | list a b c f => exact repr_of_reads' (.list a b c f) h1 (fun _ => na) hg (by omega) (fun _ _ e => e) (fun h' u tk hk => fin h' tk u hk) h2
    | tuple a b c f => exact repr_of_reads' (.tuple a b c f) h1 (fun _ => na) hg (by omega) (fun _ _ e => e) (fun h' u tk hk => fin h' tk u hk) h2
    | dict a b c f f2 => exact repr_of_reads' (.dict a b c f f2) h1 (fun _ => na) hg (by omega) (fun _ _ e => e) (fun h' u tk hk => fin h' tk u hk) h2
   ·exact po.elim
  ·exact po.elim
variable {FS : FST} {k : Nat} {cl : Cll} {N : List Str} {sc : Scope} {fq : Str -> Bool}
theorem Good.creprX (G : Good FS g k cl N sc fq X Wx) : QC1 g X Wx (.builtin "repr") jB := ⟨aBT G.K G.gd G.un⟩
end
end PV
end
section
namespace PV
open PySem PySem.Spec PyProof.Rows L2
/-- the numbers below 100 are those of the plain classes -/
def aMq (f : Str) (x : D) (h : Hh) : R D := match x with
 | .ref i => match h[i]? with
  | some (.ins c fs) => if c < 100 then match fs.lookup f with
    | some w => .ok w h
    | none => .bad
   else .bad
  | _ => .bad
 | _ => .bad
def aHg (f : Str) (w : D) : List (Str × D) -> List (Str × D)
 | [] => [(f,w)]
 | (g,x) :: r => if g = f then (g,w) :: r else (g,x) :: aHg f w r
def aHn (f : Str) (x w : D) (h : Hh) : Option Hh := match x with
 | .ref i => match h[i]? with
  | some (.ins c fs) => if c < 100 /\ fs.length < 1000 /\ w.isTl = false then some (h.set i (.ins c (aHg f w fs))) else none
  | _ => none
 | _ => none
def aK9 (f : Str) (mo me : M D) : MS := fun σ h => (mSt me σ h).then σ fun w h1 => (mo σ h1).then σ fun x h2 => match aHn f x w h2 with
 | some h3 => .nx σ h3
 | none => .bad
/-- o.m(..),the def by the class -/
def aK6 (cl : Cll) (mt : Nat -> Option Nat) (m : Str) (mo : M D) (ms : M (List D)) : M D := fun σ h => gcR h ((mo σ h).bind fun x h1 => match x with
 | .ref i => match h1[i]? with
  | some (.ins c fs) => match mt c with
   | some f => if c < 100 /\ fs.lookup m = none then (ms σ h1).bind fun ws h2 => cl f (.ref i :: ws) h2 else .bad
   | none => .bad
  | _ => .bad
 | _ => .bad)
section
variable {g : Gx} {X : Cx} {Wx : WX} {μ : List Addr} {h : Hh} {H : Hp}
theorem RKs.lookup {fs : List (Str × D)} {vs : List (Str × V)} {f : Str} {w : D} (r : RKs g μ H fs vs) (e : fs.lookup f = some w) : ∃ v,vs.lookup f = some v /\ w.isTl = false /\ RV g μ H w v := by
 induction fs generalizing vs with
 | nil => cases e
 | cons p fs ih =>
  obtain ⟨k,x⟩ := p
  obtain ⟨v,rr,rfl,nt,q,z⟩ := r
  rw [List.lookup_cons] at e
  show ∃ v',List.lookup f ((k,v) :: rr) = some v' /\ _
  rw [List.lookup_cons]
  cases hk : f == k
  ·rw [hk] at e
   exact ih z e
  ·rw [hk] at e
   cases e
   exact ⟨v,rfl,nt,q⟩
variable {o e value : Expr} {es : List Expr} {f m : Str} {pos pos' apos : Pos} {mo me : M D} {ms : List (M D)}
end
end PV
end
section
namespace PV
open PySem PySem.Spec PyProof.Rows L2
end PV
end
section
namespace PV
open PySem PySem.Spec PyProof.Rows L2
section
variable {FS : FST} {P : Program} {w : World} {K : PySem.W.Frag} {mg : Str -> Option Value} {base : Heap} {g : Gx} {k c f : Nat} {m q : Str} {st : Stmt} {C fa : Addr} {fd : FuncData} {N ps : List Str} {T : Tab} {mm : Cll -> MS}
theorem bJ {x : Str} (D : FunD K x x (defArgs st) (defBody st) (defScope st) [] [] fa fd) (hm : mg x = some (.ref fa)) (hf : g.fa f = some fa) (S : FnScope N ps (defScope st)) (hK : K = g.K) (fs : FS P w K mg base g k (aM T k)) (hT : T f = some ⟨N.length,ps.length,mm⟩) (hn : ps.length <= N.length)
  (sl : ∀ X Wx,Good FS g k (aM T k) N (defScope st) (fun _ => true) X Wx -> HP X -> QL g X Wx (defBody st) (mm (aM T k))) : FnF P w K mg base g (k + 1) (aM T (k + 1)) f x st ps :=
 ⟨fa,fd,hm,hf,D,aA1 D S hK fs hT hn fun X Wx G hp => (sl X Wx G hp).p⟩
theorem aEz {x : Str} {dvs : List V} {kws : List (Str × V)} (D : FunD K x q (defArgs st) (defBody st) (defScope st) dvs kws fa fd) (S : FnScope N ps (defScope st)) (hK : K = g.K) (fs : FS P w K mg base g k (aM T k)) (hT : T f = some ⟨N.length,ps.length,mm⟩) (hn : ps.length <= N.length)
  (sl : ∀ X Wx,Good FS g k (aM T k) N (defScope st) (fun _ => true) X Wx -> HP X -> QL g X Wx (defBody st) (mm (aM T k))) : FnG P w K mg base (CX P w) (k + 1 + 3) fa fd ps (sQ g ps.length (aM T (k + 1) f)) :=
 aA1 D S hK fs hT hn fun X Wx G hp => (sl X Wx G hp).p
end
end PV
end
section
set_option maxHeartbeats 4000000
namespace PV
open PySem PySem.Spec PyProof.Rows L2
end PV
end
section
namespace PV
open PySem PySem.Spec PyProof.Rows L2
def aGV (c : Nat) (fs : List (Str × D)) : D := .xc c (fs.map (·.1)) (fs.map (·.2))
def RT.unset (i : Nat) : RT -> RT
 | .nx σ h => .nx (σ.set i none) h
 | .brk σ h => .brk (σ.set i none) h
 | .cont σ h => .cont (σ.set i none) h
 | .ret w h => .ret w h
 | .exc _ _ _ _ => .bad
 | .bad => .bad
def RT.noexc : RT -> RT
 | .exc _ _ _ _ => .bad
 | r => r
abbrev Hdl := List Nat × Option Nat × MS
def rR : List Hdl -> Nat -> List (Str × D) -> MS
 | [],c,fs,σ,h => .exc c fs σ h
 | (L,some i,ms) :: r,c,fs,σ,h => if L.contains c = true then (ms (σ.set i (some (aGV c fs))) h).unset i else rR r c fs σ h
 | (L,none,ms) :: r,c,fs,σ,h => if L.contains c = true then (ms σ h).noexc else rR r c fs σ h
def aLb (b : MS) (hs : List Hdl) : MS := fun σ h => match b σ h with
 | .exc c fs σ1 h1 => if 100 <= c then rR hs c fs σ1 h1 else .bad
 | r => r
section
variable {g : Gx} {μ : List Addr} {H : Hp}
theorem RKs.split : ∀ {fs : List (Str × D)} {vs : List (Str × V)},RKs g μ H fs vs -> vs = (fs.map (·.1)).zip (vs.map (·.2)) /\ RVs g μ H (fs.map (·.2)) (vs.map (·.2))
 | [],vs,r => by rw [show vs = [] from r]; exact ⟨rfl,rfl⟩
 | p :: fs,vs,r => by
  obtain ⟨v,rr,rfl,nt,q,z⟩ := r
  obtain ⟨e,z2⟩ := RKs.split z
  exact ⟨by simp only [List.map_cons,List.zip_cons_cons]; rw [<- e],⟨v,_,rfl,nt,q,z2⟩⟩
end
end PV
end
section
set_option maxHeartbeats 4000000
namespace PV
open PySem PySem.Spec PyProof.Rows L2
end PV
end
section
set_option maxHeartbeats 4000000
namespace PV
open PySem PySem.Spec PyProof.Rows L2
def aHO (c : Nat) (ks : List Str) (ma : M (List D)) : MS := fun σ h => (ma σ h).then σ fun ws h1 => if ws.length = ks.length then .exc c ((ks.zip ws).reverse) σ h1 else .bad
section
variable {g : Gx}
theorem RKs.snoc {μ : List Addr} {H : Hp} : ∀ {fs : List (Str × D)} {vs : List (Str × V)} {f : Str} {w : D} {v : V},RKs g μ H fs vs -> w.isTl = false -> RV g μ H w v -> RKs g μ H (fs ++ [(f,w)]) (vs ++ [(f,v)])
 | [],vs,f,w,v,r,nt,q => by rw [show vs = [] from r]; exact ⟨v,[],rfl,nt,q,rfl⟩
 | p :: fs,vs,f,w,v,r,nt,q => by
  obtain ⟨v',rr,rfl,nt',q',z⟩ := r
  exact ⟨v',_,rfl,nt',q',RKs.snoc z nt q⟩
variable {FS : FST} {k : Nat} {cl : Cll} {N : List Str} {sc : Scope} {fq : Str -> Bool} {X : Cx} {Wx : WX} {pos p pos' : Pos} {x : Str} {c : Nat} {ks : List Str} {e : Expr} {es : List Expr} {ms : List (M D)}
end
end PV
end
section
set_option maxHeartbeats 4000000
namespace PV
open PySem PySem.Spec PyProof.Rows L2
def aFU (f : Str) (x : D) (h : Hh) : R D := match x with
 | .xc c ks ws => if 100 <= c then match (ks.zip ws).lookup f with
   | some w => .ok w h
   | none => .bad
  else .bad
 | x => aMq f x h
def aK5 (f : Str) (m : M D) : M D := fun σ h => (m σ h).bind (aFU f)
end PV
end
section
set_option maxHeartbeats 4000000
namespace PV
open PySem PySem.Spec PyProof.Rows L2
/-- what an except suite's context offers -/
structure Good0 (FS : FST) (g : Gx) (k : Nat) (cl : Cll) (N : List Str) (sc : Scope) (X : Cx) : Prop where
 K : X.K = g.K
 eN : X.N = N
 nd : N.Nodup
 sc : X.env.scope = sc
 un : X.A.units + 65 < cLine
 gd : X.A.guards = some []
 fs : FS X.prog X.w X.K X.mg X.base g k cl
section
variable {FS : FST} {g : Gx} {k : Nat} {cl : Cll} {N : List Str} {sc : Scope} {fq : Str -> Bool} {X : Cx} {Wx : WX} {pos p np pos' : Pos} {x n fl : Str} {i c : Nat} {e a : Expr} {me ma : M D} {L : List Nat} {ms : MS} {b₀ : Stmt} {suite : List Stmt} {hds : List ExceptHandler} {hs : List Hdl}
theorem Good0.qvar (G : Good0 FS g k cl N sc X) (i : Nat) (h : okV N sc i x = true) : QE g X Wx (.Name x pos) (mV i) := by
 unfold okV at h
 simp only [Bool.and_eq_true,Bool.not_eq_true',decide_eq_true_eq] at h
 obtain ⟨⟨⟨h1,h2⟩,h3⟩,h4⟩ := h
 refine ⟨aFk (by rw [G.eN]; exact h1) ?_ h3 h4⟩
 rw [G.sc]
 unfold Vis
 split at h2
 ·exact .inl ‹_›
 ·exact .inr (.inl ‹_›)
 ·exact .inr (.inr ‹_›)
 ·cases h2
theorem Good0.qtgt (G : Good0 FS g k cl N sc X) (i : Nat) (h : okL N sc i x = true) : QG g X (.Name x pos) (.nm i) := by
 unfold okL at h
 simp only [Bool.and_eq_true,decide_eq_true_eq] at h
 obtain ⟨h1,h2⟩ := h
 refine ⟨aC7 (by rw [G.eN]; exact G.nd) (by rw [G.eN]; exact h1) ?_ ?_⟩
 ·rw [G.sc]
  unfold L2.Loc
  split at h2
  ·exact .inl ‹_›
  ·cases h2
 ·rw [G.sc]
  split at h2
  ·exact .inr ‹_›
  ·cases h2
theorem Good0.gl (G : Good0 FS g k cl N sc X) (h : okG sc x = true) : Gl X x /\ (x == ("__debug__" : Str)) = false /\ x ≠ "__name__" := by
 unfold okG at h
 simp only [Bool.and_eq_true,Bool.not_eq_true',decide_eq_false_iff_not] at h
 obtain ⟨⟨h1,h2⟩,h3⟩ := h
 refine ⟨?_,h2,h3⟩
 unfold Gl Env.kindOf
 rw [G.sc]
 split at h1
 ·rename_i e; exact e
 ·cases h1
theorem Good0.qf1 (G : Good0 FS g k cl N sc X) {bv : Value} {ff : D -> Hh -> R D} (h : okG sc x = true) (hm : X.mg x = none) (hv : bootBuiltins x = some bv) (hb : pL bv = true) (s : QC1 g X Wx bv ff) (hs : nSt a = true) (ha : QE g X Wx a ma) : QE g X Wx (.Call (.Name x p) [a] [] pos) (mF1 ff ma) := by
 obtain ⟨h1,h2,h3⟩ := G.gl h
 exact ⟨aHm s.p hb h1 hm hv h3 h2 (sR hs) ha.p⟩
theorem Good0.creprX (G : Good0 FS g k cl N sc X) : QC1 g X Wx (.builtin "repr") jB := ⟨aBT G.K G.gd G.un⟩
theorem Good.nm (G : Good FS g k cl N sc fq X Wx) (h : okG sc x = true) {C : Addr} (hm : X.mg x = some (.ref C)) : Names X x (.ref C) := by
 obtain ⟨h1,h2,h3⟩ := G.gl h
 exact ⟨h1,h2, .inl hm⟩
end
end PV
end
section
set_option maxHeartbeats 4000000
namespace PV
open PySem PySem.Spec PyProof.Rows L2
end PV
end
section
set_option maxHeartbeats 4000000
namespace PV
open PySem PySem.Spec PyProof.Rows L2
end PV
end
section
set_option maxHeartbeats 4000000
namespace PV
open PySem PySem.Spec PyProof.Rows L2
end PV
end
section
namespace PV
open PySem PySem.Spec PyProof.Rows L2
end PV
end
section
namespace PV
open PySem PySem.Spec PyProof.Rows L2
end PV
end
section
namespace PV
open PySem PySem.Spec PyProof.Rows L2
end PV
end
section
namespace PV
open PySem PySem.Spec PyProof.Rows L2
section
variable {X : Cx}
theorem aHT (hu : X.A.units < cLine) : OpR X (compareOp .Eq) (fun x y H Q => ∃ a b xs,x = .ref a /\ y = .ref b /\ SqT X.K H a xs /\ SqT X.K H b [] /\ Q (.bl xs.isEmpty) H) := by
 intro pins s σ H x y v u Q I rx ry h
 obtain ⟨a,b,xs,rfl,rfl,ha,hb,q⟩ := h
 cases (show v = Value.ref a from rx)
 cases (show u = Value.ref b from ry)
 obtain ⟨us,r1,p1,_⟩ := I.tuple ha
 obtain ⟨ws,r2,p2,_⟩ := I.tuple hb
 have l1 := r1.length
 have l2 := r2.length
 have hw : ws = [] := List.eq_nil_of_length_eq_zero l2.symm
 subst hw
 have key := SeqAt.RcAt.tuples (A := X.A) (s := s) (e := fun _ => true) p1 p2 hu (fun j h1 h2 => by simp at h2)
 show wpAny (model X.prog X.w) X.A (richCompare .Eq (.ref a) (.ref b)) _ _ s
 refine key X.prog X.w _ _ ?_
 have e : ((List.range (min us.toArray.size ([] : List Value).toArray.size)).all (fun _ => true) && us.toArray.size == ([] : List Value).toArray.size) = xs.isEmpty := by
  cases xs with
  | nil =>
   have hu0 : us = [] := List.eq_nil_of_length_eq_zero l1.symm
   simp [hu0]
  | cons c xs =>
   have : us ≠ [] := fun z => by rw [z] at l1; simp at l1
   simp [this]
 rw [e]
 exact ⟨.bl xs.isEmpty,H,I,rfl,q⟩
end
/-- x == () where x is any tuple; else as before -/
def eqX (x y : D) (h : Hh) : R D := match asT x,asT y with
 | some ws,some [] => .ok (.bl ws.isEmpty) h
 | _,_ => eqW x y h
section
variable {g : Gx} {X : Cx} {Wx : WX} {μ : List Addr} {h : Hh} {H : Hp}
theorem aKi (hK : X.K = g.K) (hu : X.A.units + 64 < cLine) : SO g X Wx (compareOp .Eq) eqX := by
 intro x y h σ H μ vx vy Q rh qx qy po
 unfold eqX at po
 split at po
 ·rename_i ws e1 e2
  obtain ⟨a,vs,rfl,s1,z1⟩ := fG qx e1
  obtain ⟨b,us,rfl,s2,z2⟩ := fG qy e2
  have hz : us = [] := by cases us with
   | nil => rfl
   | cons _ _ => exact nomatch z2
  subst hz
  refine cD (aHT (by omega)) ⟨a,b,vs,rfl,rfl,by rw [hK]; exact s1,by rw [hK]; exact s2, ?_⟩
  have hv : vs.isEmpty = ws.isEmpty := by
   cases ws with
   | nil => cases vs with
    | nil => rfl
    | cons _ _ => exact nomatch z1
   | cons _ _ => cases vs with
    | nil =>
     obtain ⟨_,_,e,_⟩ := z1
     cases e
    | cons _ _ => rfl
  rw [hv]
  exact po.at rh _ rfl (.of rfl)
 ·exact aHo hK hu x y h σ H μ vx vy Q rh qx qy po
theorem Good.oeqX {FS : FST} {k : Nat} {cl : Cll} {N : List Str} {sc : Scope} {fq : Str -> Bool} (G : Good FS g k cl N sc fq X Wx) : QO g X Wx (compareOp .Eq) eqX := ⟨aKi G.K G.u64⟩
end
end PV
end
section
namespace PV
open PySem PySem.Spec PyProof.Rows L2
/-- what the making of a lambda does to the tracked things -/
def aDe (q : Str) (P : Addr) (H H1 : Hp) : Prop := H1 = H \/ ∃ ps ps' c1,H P = some (.tbl ps) /\ H c1 = none /\ H1 = L2.upd (L2.upd H P (.tbl ps')) c1 (LamX.CodeO c1 q)
theorem aDe.ext {q : Str} {P : Addr} {H H1 : Hp} {μ : List Addr} (e : aDe q P H H1) (t : Trk μ H) : Ext μ H μ H1 := by
 rcases e with rfl | ⟨ps,ps',c1,hP,n,rfl⟩
 ·exact Ext.refl t
 ·refine ⟨⟨[],by simp,by simp⟩,fun b o qb _ nt => ?_,fun x hx => ?_,fun b qs qb => ?_⟩
  ·rw [upd_ne (ne_of_none qb n),upd_ne (fun z => by rw [z,hP] at qb; cases qb; cases nt)]; exact qb
  ·obtain ⟨o,qx,m⟩ := t x hx
   rw [upd_ne (ne_of_none qx n),upd_ne (fun z => by rw [z,hP] at qx; cases qx; cases m),qx]; simp
  ·rw [upd_ne (ne_of_none qb n)]
   by_cases e : b = P
   ·rw [e,upd_same]; exact ⟨_,rfl⟩
   ·rw [upd_ne e]; exact ⟨_,qb⟩
theorem aDe.at {q : Str} {P a : Addr} {H H1 : Hp} {μ : List Addr} (e : aDe q P H H1) (t : Trk μ H) (ha : a ∈ μ) : H1 a = H a := by
 obtain ⟨o,qx,m⟩ := t a ha
 rcases e with rfl | ⟨ps,ps',c1,hP,n,rfl⟩
 ·rfl
 ·rw [upd_ne (ne_of_none qx n),upd_ne (fun z => by rw [z,hP] at qx; cases qx; cases m)]
end PV
end
section
namespace PV
open PySem PySem.Spec PyProof.Rows L2
end PV
end
section
namespace PV
open PySem PySem.Spec PyProof.Rows L2
end PV
end
section
namespace PV
open PySem PySem.Spec PyProof.Rows L2
end PV
end
section
namespace PV
open PySem PySem.Spec PyProof.Rows L2
end PV
end
section
namespace PV
open PySem PySem.Spec PyProof.Rows L2 HT
end PV
end
section
namespace PV
open PySem PySem.Spec PyProof.Rows L2
end PV
end
section
namespace PV
open PySem PySem.Spec PyProof.Rows L2
end PV
end
section
namespace L2
open PySem PySem.Spec PyProof.Rows
end L2
namespace PV
open PySem PySem.Spec PyProof.Rows L2
end PV
end
section
namespace PV
open PySem PySem.Spec PyProof.Rows L2
end PV
end
section
namespace PV
open PySem PySem.Spec PyProof.Rows L2
end PV
end
section
namespace PV
open PySem PySem.Spec PyProof.Rows L2
end PV
end
section
namespace PV
open PySem PySem.Spec PyProof.Rows L2
/-- a new list's object -/
def newL (vs : List Value) : Obj := { cls := .type "list",data := .seq vs.toArray }
end PV
end
section
namespace PV
open PySem PySem.Spec PyProof.Rows L2
end PV
end
section
namespace PV
open PySem PySem.Spec PyProof.Rows L2
end PV
end
section
namespace PV
open PySem PySem.Spec PyProof.Rows L2
section
open PySem.W
variable {prog : Program} {w : World} {A : Around} {E : Value -> Shared -> Prop} {s : Shared}
theorem same0 {nm : String} {a b : Addr} {oa ob : Obj} {es es' : Array DictEntry} {ep ep' : Nat} {Q : Bool -> Shared -> Prop} (ha : (a == sysModules) = false) (hb : (b == sysModules) = false)
  (hoa : s.heap.get? a = some oa) (hda : oa.data = .dict es ep) (hob : s.heap.get? b = some ob) (hdb : ob.data = .dict es' ep') (h0 : es'.size = 0) (h : Q (decide (es.size = 0)) s) :
  wpAny (model prog w) A (Builtin.Dict.samePairs nm a b) Q E s := by
 unfold Builtin.Dict.samePairs Builtin.Dict.showsAll
 rw [if_neg (show ¬ (a == sysModules) = true by rw [ha]; exact Bool.false_ne_true),if_neg (show ¬ (b == sysModules) = true by rw [hb]; exact Bool.false_ne_true)]
 refine wpAny_bind (wpAny_pure (wpAny_bind (wpAny_pure ?_)))
 refine wpAny_bind (wpAny_dictEntries hoa hda ?_)
 dsimp only
 refine wpAny_bind (wpAny_dictEntries hob hdb ?_)
 by_cases hsz : es.size = es'.size
 case neg =>
  rw [if_pos (by simpa using hsz)]
  have e : decide (es.size = 0) = false := decide_eq_false (by omega)
  rw [e] at h
  exact wpAny_bind (wpAny_rule (wpAny_pure h))
 case pos =>
  have e0 : es.size = 0 := by omega
  have e : decide (es.size = 0) = true := by simp [e0]
  rw [e] at h
  rw [if_neg (by rw [hsz]; simp)]
  refine wpAny_bind (wpAny_dictEpoch hoa hda ?_)
  refine wpAny_bind ?_
  rw [Std.Legacy.Range.forIn_eq_forIn_range']
  simp only [Std.Legacy.Range.size,Nat.sub_zero,Nat.add_sub_cancel,Nat.div_one]
  rw [e0,List.range'_zero,List.forIn_nil]
  refine wpAny_pure ?_
  exact wpAny_pure h
end
end PV
end
section
namespace PV
open PySem PySem.Spec PyProof.Rows L2
section
variable {σ : Sg} {h h1 : Hh} {a b : MS} {m n : M D} {c d : M Bool} {ms : List (M D)} {mA : M (List D)} {t : Tg} {f : D -> D -> Hh -> R D} {f1 : D -> Hh -> R D} {i : Nat} {w x y : D} {cl : Cll}
@[simp] theorem vW : aN a b σ h = (a σ h).seq b := id rfl
@[simp] theorem aMH : cJ σ h = .nx σ h := id rfl
@[simp] theorem vV : bA m σ h = (m σ h).then σ fun w h1 => .ret w h1 := id rfl
@[simp] theorem aEQ : iP m σ h = (m σ h).then σ fun _ h1 => .nx σ h1 := id rfl
@[simp] theorem yO : dD c a b σ h = (c σ h).then σ fun x h1 => if x = true then a σ h1 else b σ h1 := id rfl
@[simp] theorem aL1 : bI (.nm i) m σ h = (m σ h).then σ fun w h1 => .nx (σ.set i (some (aU w h1).1)) (aU w h1).2 := id rfl
@[simp] theorem aEN : mOp f m n σ h = (m σ h).bind fun x h1 => (n σ h1).bind fun y h2 => f x y h2 := id rfl
@[simp] theorem tN : mF1 f1 m σ h = (m σ h).bind f1 := id rfl
@[simp] theorem aDJ : mC w σ h = .ok w h := id rfl
theorem xD : mV i σ h = match σ[i]? with
 | some (some w) => .ok w h
 | _ => .bad := rfl
@[simp] theorem aJe {l : Sg} : mV 0 (some w :: l) h = .ok w h := id rfl
@[simp] theorem aPo {l : Sg} {o : Option D} : mV (i + 1) (o :: l) h = mV i l h := id rfl
@[simp] theorem aPf {l : Sg} {o0 : Option D} : mV 1 (o0 :: some w :: l) h = .ok w h := id rfl
@[simp] theorem aPg {l : Sg} {o0 o1 : Option D} : mV 2 (o0 :: o1 :: some w :: l) h = .ok w h := id rfl
@[simp] theorem aPh {l : Sg} {o0 o1 o2 : Option D} : mV 3 (o0 :: o1 :: o2 :: some w :: l) h = .ok w h := id rfl
@[simp] theorem aPi {l : Sg} {o0 o1 o2 o3 : Option D} : mV 4 (o0 :: o1 :: o2 :: o3 :: some w :: l) h = .ok w h := id rfl
@[simp] theorem aPj {l : Sg} {o0 o1 o2 o3 o4 : Option D} : mV 5 (o0 :: o1 :: o2 :: o3 :: o4 :: some w :: l) h = .ok w h := id rfl
@[simp] theorem aPk {l : Sg} {o0 o1 o2 o3 o4 o5 : Option D} : mV 6 (o0 :: o1 :: o2 :: o3 :: o4 :: o5 :: some w :: l) h = .ok w h := id rfl
@[simp] theorem aPl {l : Sg} {o0 o1 o2 o3 o4 o5 o6 : Option D} : mV 7 (o0 :: o1 :: o2 :: o3 :: o4 :: o5 :: o6 :: some w :: l) h = .ok w h := id rfl
@[simp] theorem aPm {l : Sg} {o0 o1 o2 o3 o4 o5 o6 o7 : Option D} : mV 8 (o0 :: o1 :: o2 :: o3 :: o4 :: o5 :: o6 :: o7 :: some w :: l) h = .ok w h := id rfl
@[simp] theorem aPn {l : Sg} {o0 o1 o2 o3 o4 o5 o6 o7 o8 : Option D} : mV 9 (o0 :: o1 :: o2 :: o3 :: o4 :: o5 :: o6 :: o7 :: o8 :: some w :: l) h = .ok w h := id rfl
@[simp] theorem aOC {l : Sg} {o0 o1 o2 o3 o4 o5 o6 o7 o8 o9 : Option D} : mV 10 (o0 :: o1 :: o2 :: o3 :: o4 :: o5 :: o6 :: o7 :: o8 :: o9 :: some w :: l) h = .ok w h := id rfl
@[simp] theorem aOD {l : Sg} {o0 o1 o2 o3 o4 o5 o6 o7 o8 o9 o10 : Option D} : mV 11 (o0 :: o1 :: o2 :: o3 :: o4 :: o5 :: o6 :: o7 :: o8 :: o9 :: o10 :: some w :: l) h = .ok w h := id rfl
@[simp] theorem aOE {l : Sg} {o0 o1 o2 o3 o4 o5 o6 o7 o8 o9 o10 o11 : Option D} : mV 12 (o0 :: o1 :: o2 :: o3 :: o4 :: o5 :: o6 :: o7 :: o8 :: o9 :: o10 :: o11 :: some w :: l) h = .ok w h := id rfl
@[simp] theorem aNy : bM mA σ h = (mA σ h).bind fun ws h1 => if ws.length <= sizeLine then .ok (.tup ws) h1 else .bad := id rfl
@[simp] theorem aNw : dJ mA σ h = (mA σ h).bind fun ws h1 => if ws.length <= sizeLine then .ok (.tl ws) h1 else .bad := id rfl
@[simp] theorem zV : aA [] σ h = .ok [] h := id rfl
@[simp] theorem xC : aA (m :: ms) σ h = (m σ h).bind fun w h1 => (aA ms σ (aU w h1).2).bind fun ws h2 => .ok ((aU w h1).1 :: ws) h2 := id rfl
@[simp] theorem aDI : mB m σ h = (m σ h).bind fun x h1 => match x with
 | .bl b => .ok b h1
 | _ => .bad := id rfl
@[simp] theorem aN2 : mIf c m n σ h = (c σ h).bind fun x h1 => if x = true then m σ h1 else n σ h1 := id rfl
@[simp] theorem aMz : kW c d σ h = (c σ h).bind fun x h1 => if x = true then d σ h1 else .ok false h1 := id rfl
@[simp] theorem yN : gR c d σ h = (c σ h).bind fun x h1 => if x = true then .ok true h1 else d σ h1 := id rfl
@[simp] theorem vQ : iX c σ h = (c σ h).bind fun x h1 => .ok (!x) h1 := id rfl
@[simp] theorem aBk {f : Nat} : aR cl f mA σ h = gcR h ((mA σ h).bind fun ws h1 => cl f ws h1) := id rfl
@[simp] theorem aL0 {f : Nat} {perm : List Nat} : nV cl f mA perm σ h = gcR h ((mA σ h).bind fun ws h1 => match dQ perm ws with
 | some ws => cl f ws h1
 | none => .bad) := id rfl
@[simp] theorem aN7 : mSt m σ h = (m σ h).bind fun w h1 => .ok (aU w h1).1 (aU w h1).2 := id rfl
@[simp] theorem aMI {me mo mi : M D} : lS me mo mi σ h = (mSt me σ h).then σ fun w h1 => (mo σ h1).then σ fun x h2 => (mi σ h2).then σ fun y h3 => match pO x y w h3 with
 | some h4 => .nx σ h4
 | none => .bad := id rfl
@[simp] theorem aN6 {lo hi : Option (M D)} : mSl m lo hi σ h = (m σ h).bind fun x h1 => (oN lo σ h1).bind fun l h2 => (oN hi σ h2).bind fun u h3 => slW x l u h3 := id rfl
@[simp] theorem aK7 : oN none σ h = .ok none h := id rfl
@[simp] theorem aK8 : oN (some m) σ h = (m σ h).bind fun x h1 => match x with
  | .int i => .ok (some i) h1
  | _ => .bad := id rfl
@[simp] theorem aND : eV (.nx σ h) = .ok .non h := id rfl
@[simp] theorem aGn : eV (.ret w h) = .ok w h := rfl
@[simp] theorem aMc {i : Int} : aU (.int i) h = (.int i,h) := id rfl
@[simp] theorem aNb {i : Bool} : aU (.bl i) h = (.bl i,h) := id rfl
@[simp] theorem aAh {i : Str} : aU (.str i) h = (.str i,h) := id rfl
@[simp] theorem aMf {ws : List D} : aU (.tup ws) h = (.tup ws,h) := id rfl
@[simp] theorem aNd {ws : List D} : aU (.kt ws) h = (.kt ws,h) := id rfl
@[simp] theorem aNc {ws : List D} : aU (.fl ws) h = (.fl ws,h) := id rfl
@[simp] theorem aMe : aU (.ref i) h = (.ref i,h) := id rfl
@[simp] theorem aMd : aU .non h = (.non,h) := id rfl
@[simp] theorem aNf {ws : List D} : aU (.tl ws) h = (.ref h.length,h ++ [.lst ws]) := rfl
@[simp] theorem aIF {i j : Int} : bP (.int i) (.int j) h = .ok (.int (i + j)) h := id rfl
@[simp] theorem aKv {i j : Int} : kD (.int i) (.int j) h = .ok (.int (i - j)) h := id rfl
@[simp] theorem aOb {i j : Int} : mN (.int i) (.int j) h = if CMul i j then .ok (.int (i * j)) h else .bad := id rfl
@[simp] theorem aNo {i j : Int} : uL (.int i) (.int j) h = if 0 < j /\ j < 1073741824 then .ok (.int (i / j)) h else .bad := id rfl
@[simp] theorem aOa {i j : Int} : lJ (.int i) (.int j) h = if 0 < j then .ok (.int (i % j)) h else .bad := id rfl
@[simp] theorem aOB {i j : Int} : ltW (.int i) (.int j) h = .ok (.bl (decide (i < j))) h := id rfl
@[simp] theorem aG6 {i j : Int} : leW (.int i) (.int j) h = .ok (.bl (decide (i <= j))) h := id rfl
@[simp] theorem aOx {i j : Int} : gtW (.int i) (.int j) h = .ok (.bl (decide (j < i))) h := id rfl
@[simp] theorem aOw {i j : Int} : geW (.int i) (.int j) h = .ok (.bl (decide (j <= i))) h := id rfl
@[simp] theorem aIE {i : Int} : vC (.int i) h = .ok (.int (if i < 0 then -i else i)) h := id rfl
@[simp] theorem aOc {i : Int} : yQ (.int i) h = .ok (.int (-i)) h := id rfl
@[simp] theorem aNV {k : Bool} : nS (.bl k) h = .ok (.int (if k then 1 else 0)) h := id rfl
@[simp] theorem aNW {k : Int} : nS (.int k) h = .ok (.int k) h := id rfl
@[simp] theorem aGb {ws : List D} : bW (.tup ws) h = .ok (.int ws.length) h := id rfl
@[simp] theorem aNt {ws : List D} : bW (.kt ws) h = .ok (.int ws.length) h := id rfl
@[simp] theorem aNu {ws : List D} : bW (.tl ws) h = .ok (.int ws.length) h := id rfl
@[simp] theorem aNs {ws : List D} : bW (.fl ws) h = .ok (.int ws.length) h := id rfl
theorem vP {ws : List D} (e : h[i]? = some (.lst ws)) : bW (.ref i) h = .ok (.int ws.length) h := by simp [bW,asL,e]
@[simp] theorem aMj {ws : List D} : hV (.tl ws) h = .ok (.tup ws) h := id rfl
@[simp] theorem aMi {ws : List D} : hV (.fl ws) h = .ok (.tup ws) h := id rfl
@[simp] theorem aLV {ws : List D} : hV (.tup ws) h = .ok (.tup ws) h := id rfl
theorem aEi {ws : List D} (e : h[i]? = some (.lst ws)) : hV (.ref i) h = .ok (.tup ws) h := by simp [hV,asL,e]
@[simp] theorem aN8 {i j : Int} : vT (.int i) (.int j) h = .ok (.int (if j > i then j else i)) h := id rfl
@[simp] theorem aN9 {i j : Int} : vU (.int i) (.int j) h = .ok (.int (if j < i then j else i)) h := rfl
@[simp] theorem aNX {ws : List D} : ixW (.tup (w :: ws)) (.int 0) h = .ok w h := by simp [ixW,asL,asT,atI,ixN]
@[simp] theorem aNY {ws : List D} : ixW (.tup (x :: w :: ws)) (.int 1) h = .ok w h := by
 have : (1 : Int) < (ws.length : Int) + 1 + 1 := by omega
 simp [ixW,asL,asT,atI,ixN,this]
@[simp] theorem aNZ {ws : List D} : ixW (.tup (x :: y :: w :: ws)) (.int 2) h = .ok w h := by
 have : (2 : Int) < (ws.length : Int) + 1 + 1 + 1 := by omega
 simp [ixW,asL,asT,atI,ixN,this]
theorem pV {α : Type} {ws : List α} {n : Nat} : atI ws (n : Int) = ws[n]? := by
 unfold atI ixN
 by_cases hn : n < ws.length
 ·simp [hn]
 ·simp [hn,List.getElem?_eq_none (Nat.le_of_not_lt hn)]
theorem aJb {ws : List D} {n : Nat} (e : ws[n]? = some w) : ixW (.tup ws) (.int (n : Int)) h = .ok w h := by simp [ixW,asL,asT,pV,e]
theorem aI9 {ws : List D} {n : Nat} (e : ws[n]? = some w) : ixW (.fl ws) (.int (n : Int)) h = .ok w h := by simp [ixW,asL,pV,e]
theorem nT {ws : List D} {n : Nat} (e : h[i]? = some (.lst ws)) (e2 : ws[n]? = some w) : ixW (.ref i) (.int (n : Int)) h = .ok w h := by simp [ixW,asL,e,pV,e2]
end
theorem dF {T : Tab} {k f : Nat} {ws : List D} {h : Hh} {d : Fd} (e : T f = some d) : aM T (k + 1) f ws h = if ws.length = d.np then eV (d.body (aM T k) (aT d.nN ws) h) else .bad := by
 simp only [aM,e,aBI]
theorem aI1 {h h' : Hh} {w : D} (hl : h'.length = h.length) (lim : w.lim h.length = true) : gc h w h' = .ok w h' := by
 unfold gc
 by_cases hg : iL h.length h h' = true
 ·rw [if_pos hg,if_pos lim,List.take_of_length_le (by omega)]
 ·rw [if_neg hg]
@[simp] theorem qA {h h' : Hh} {w : D} (hl : h'.length = h.length) (lim : w.lim h.length = true) : gcR h (.ok w h') = .ok w h' := aI1 hl lim
theorem pZ {n : Nat} : ∀ {h h' : Hh},h.length <= h'.length -> (∀ (j : Nat) (c : Cl),j < h.length -> h'[j]? = some c -> h[j]? = some c \/ c.lim n = true) -> iL n h h' = true
 | [],h',_,_ => by cases h' <;> rfl
 | c :: h,[],hl,_ => by simp at hl
 | c :: h,d :: h',hl,hj => by
  unfold iL
  rw [Bool.and_eq_true]
  refine ⟨?_,pZ (by simpa using hl) fun j e hjl he => ?_⟩
  ·rcases hj 0 d (by simp) rfl with z | z
   ·have : c = d := by simpa using z
    simp [this]
   ·simp [z]
  ·have := hj (j + 1) e (by simpa using hjl) (by simpa using he)
   simpa using this
/-- the new cells go -/
theorem aCU {h h' : Hh} {w : D} (lim : w.lim h.length = true) (hl : h.length <= h'.length) (hj : ∀ (j : Nat) (c : Cl),j < h.length -> h'[j]? = some c -> h[j]? = some c \/ c.lim h.length = true) : gcR h (.ok w h') = .ok w (h'.take h.length) := by
 show gc h w h' = _
 unfold gc
 rw [if_pos (pZ hl hj),if_pos lim]
/-- a fresh list comes back as itself -/
theorem aIZ {h h' : Hh} {ws : List D} (lim : D.lims h.length ws = true) (hl : h'.length = h.length) : gcR h (.ok (.tl ws) h') = .ok (.tl ws) h' := qA hl lim
@[simp] theorem aHM {n : Nat} {i : Int} : D.lim n (.int i) = true := by simp only [D.lim,D.lims]
@[simp] theorem aBi {n : Nat} {i : Bool} : D.lim n (.bl i) = true := by simp only [D.lim,D.lims]
@[simp] theorem aCZ {n : Nat} {i : Str} : D.lim n (.str i) = true := by simp only [D.lim,D.lims]
@[simp] theorem aNv {n : Nat} : D.lim n .non = true := by simp only [D.lim,D.lims]
@[simp] theorem yL {n : Nat} {ws : List D} : D.lim n (.tup ws) = D.lims n ws := by simp only [D.lim,D.lims]
@[simp] theorem aN0 {n : Nat} {ws : List D} : D.lim n (.tl ws) = D.lims n ws := by simp only [D.lim,D.lims]
@[simp] theorem aHN {n i : Nat} : D.lim n (.ref i) = decide (i < n) := by simp only [D.lim,D.lims]
@[simp] theorem aBj {n : Nat} : D.lims n [] = true := by simp only [D.lim,D.lims]
@[simp] theorem oM {n : Nat} {w : D} {ws : List D} : D.lims n (w :: ws) = (D.lim n w && D.lims n ws) := by simp only [D.lim,D.lims]
theorem rN {n : Nat} : ∀ {ws : List D},(∀ w ∈ ws,D.lim n w = true) -> D.lims n ws = true
 | [],_ => rfl
 | w :: ws,h => by rw [oM,h w (by simp),rN fun x hx => h x (by simp [hx])]; rfl
@[simp] theorem aMy {n : Nat} {xs : List Str} : D.lims n (xs.map D.str) = true := rN fun w hw => by
 obtain ⟨x,_,rfl⟩ := List.mem_map.mp hw; rfl
@[simp] theorem aMx {n : Nat} {xs : List Int} : D.lims n (xs.map D.int) = true := rN fun w hw => by
 obtain ⟨x,_,rfl⟩ := List.mem_map.mp hw; rfl
@[simp] theorem aMw {n : Nat} {ws : List D} : Cl.lim n (.lst ws) = D.lims n ws := by simp only [Cl.lim]
end PV
end
section
namespace PV
open PySem PySem.Spec PyProof.Rows L2
theorem aF {α : Type} {l : List α} {i : Nat} {a : α} (e : l[i]? = some a) : i < l.length := by
 rcases Nat.lt_or_ge i l.length with z | z
 ·exact z
 ·rw [List.getElem?_eq_none z] at e; cases e
theorem aFQ {α : Type} {l : List α} {i : Nat} {a : α} (e : l[i]? = some a) : l.drop i = a :: l.drop (i + 1) := by
 have hi := aF e
 rw [List.drop_eq_getElem_cons hi]
 congr 1
 rw [List.getElem?_eq_getElem hi] at e
 exact Option.some.inj e
section
variable {src : Src} {t : Tg} {σ σ0 : Sg} {h : Hh} {ws : List D}
theorem rM {α : Type} {body : α -> Sg -> Hh -> R α} (step : α -> D -> α) (P : α -> Nat -> Prop) (hs : ∀ i,src i h = some ws[i]?)
  (hb : ∀ i w acc,ws[i]? = some w -> P acc i -> P (step acc w) (i + 1) /\ ∃ σ1,t.set w σ0 h = some σ1 /\ body acc σ1 h = .ok (step acc w) h) :
  ∀ (n i : Nat) (acc : α),P acc i -> i <= ws.length -> ws.length < i + n -> lcL src t body σ0 n i acc h = .ok ((ws.drop i).foldl step acc) h
 | 0,i,acc,hp,hle,hl => by omega
 | n + 1,i,acc,hp,hle,hl => by
  simp only [lcL,hs]
  cases e : ws[i]? with
  | none =>
   simp only
   rw [List.drop_eq_nil_of_le (List.getElem?_eq_none_iff.mp e)]
   rfl
  | some w =>
   obtain ⟨p1,σ1,e1,e2⟩ := hb i w acc e hp
   simp only [e1,e2,R.bind_ok]
   have := aF e
   rw [rM step P hs hb n (i + 1) (step acc w) p1 (by omega) (by omega),aFQ e]
   rfl
end
def oU {α β : Type} (g : α -> Option β) (acc : List β) (w : α) : List β := match g w with
 | some y => acc ++ [y]
 | none => acc
theorem oJ {α β : Type} (g : α -> Option β) : ∀ (ws : List α) (acc : List β),ws.foldl (oU g) acc = acc ++ ws.filterMap g
 | [],acc => by simp
 | w :: ws,acc => by
  rw [List.foldl_cons,oJ g ws]
  cases e : g w with
  | none => simp [oU,e]
  | some y => simp [oU,e]
/-- [e for t in ws if c],where nothing is written -/
theorem aHK {mi : M Src} {t : Tg} {mt : M Bool} {me : M D} {vs : List Nat} {σ : Sg} {h h1 : Hh} {src : Src} {ws : List D} (g : D -> Option D) (hi : mi σ h = .ok src h1) (hs : ∀ i,src i h1 = some ws[i]?) (hl : ws.length < sizeLine)
  (hb : ∀ w ∈ ws,∃ σ1,t.set w (cG σ vs) h1 = some σ1 /\ ((∃ y,g w = some y /\ mt σ1 h1 = .ok true h1 /\ me σ1 h1 = .ok y h1 /\ y.isTl = false) \/ (g w = none /\ mt σ1 h1 = .ok false h1))) :
  mLc mi t mt me vs σ h = .ok (.tl (ws.filterMap g)) h1 := by
 unfold mLc
 rw [hi,R.bind_ok]
 have key := rM (src := src) (t := t) (σ0 := cG σ vs) (h := h1) (ws := ws) (body := kP mt me) (oU g) (fun acc i => acc.length <= i) hs (fun i w acc e hp => by
   obtain ⟨σ1,e1,z⟩ := hb w (List.mem_of_getElem? e)
   have hi := aF e
   rcases z with ⟨y,eg,et,ee,nt⟩ | ⟨eg,et⟩
   ·refine ⟨by simp [oU,eg]; omega,σ1,e1, ?_⟩
    have ha : acc.length < sizeLine := by omega
    simp only [kP,et,noX,R.bind_ok,if_true,ee,oC nt,ha,oU,eg]
   ·refine ⟨by simp [oU,eg]; omega,σ1,e1, ?_⟩
    simp [kP,et,noX,oU,eg]) dP 0 [] (by simp) (by omega) (by unfold dP; have : sizeLine = 16777216 := rfl; omega)
 rw [key,R.bind_ok,List.drop_zero,oJ]
 rfl
/-- the same without a test -/
theorem aBg {mi : M Src} {t : Tg} {me : M D} {vs : List Nat} {σ : Sg} {h h1 : Hh} {src : Src} {ws : List D} (g : D -> D) (hi : mi σ h = .ok src h1) (hs : ∀ i,src i h1 = some ws[i]?) (hl : ws.length < sizeLine)
  (hb : ∀ w ∈ ws,∃ σ1,t.set w (cG σ vs) h1 = some σ1 /\ me σ1 h1 = .ok (g w) h1 /\ (g w).isTl = false) : mLc mi t (fun _ h => .ok true h) me vs σ h = .ok (.tl (ws.map g)) h1 := by
 have := aHK (mt := fun _ h => .ok true h) (me := me) (fun w => some (g w)) hi hs hl fun w hw => by
  obtain ⟨σ1,e1,e2,e3⟩ := hb w hw
  exact ⟨σ1,e1, .inl ⟨g w,rfl,rfl,e2,e3⟩⟩
 rw [this]
 simp
section
variable {h : Hh} {ws us : List D} {i : Nat}
theorem qF {lo : Int} {n : Nat} (j : Nat) : pP lo n j h = some ((List.range n).map fun (i : Nat) => D.int (lo + (i : Nat)))[j]? := by
 unfold pP
 by_cases hj : j < n
 ·simp [hj]
 ·simp [hj]
end
/-- a for loop that goes through -/
theorem aCS {src : Src} {t : Tg} {b : MS} {ws : List D} (I : Nat -> Sg -> Hh -> Prop) (hs : ∀ i σ h,I i σ h -> src i h = some ws[i]?)
  (step : ∀ i w σ h,I i σ h -> ws[i]? = some w -> ∃ σ1 σ2 h2,t.set w σ h = some σ1 /\ (b σ1 h = .nx σ2 h2 \/ b σ1 h = .cont σ2 h2) /\ I (i + 1) σ2 h2) :
  ∀ (n i : Nat) (σ : Sg) (h : Hh),I i σ h -> i <= ws.length -> ws.length < i + n -> ∃ σ2 h2,kT src t b n i σ h = .nx σ2 h2 /\ I ws.length σ2 h2
 | 0,i,σ,h,hi,hle,hl => by omega
 | n + 1,i,σ,h,hi,hle,hl => by
  simp only [kT,hs i σ h hi]
  cases e : ws[i]? with
  | none =>
   have := List.getElem?_eq_none_iff.mp e
   have hi' : i = ws.length := by omega
   subst hi'
   exact ⟨σ,h,rfl,hi⟩
  | some w =>
   obtain ⟨σ1,σ2,h2,e1,e2,hi2⟩ := step i w σ h hi e
   have := aF e
   obtain ⟨σ3,h3,e3,hi3⟩ := aCS I hs step n (i + 1) σ2 h2 hi2 (by omega) (by omega)
   refine ⟨σ3,h3, ?_,hi3⟩
   rcases e2 with e2 | e2
   ·simp only [e1,e2]; exact e3
   ·simp only [e1,e2]; exact e3
theorem aGe {mi : M Src} {src : Src} {t : Tg} {b : MS} {ws : List D} {σ : Sg} {h h1 : Hh} (I : Nat -> Sg -> Hh -> Prop) (hm : mi σ h = .ok src h1) (hs : ∀ i σ h,I i σ h -> src i h = some ws[i]?)
  (step : ∀ i w σ h,I i σ h -> ws[i]? = some w -> ∃ σ1 σ2 h2,t.set w σ h = some σ1 /\ (b σ1 h = .nx σ2 h2 \/ b σ1 h = .cont σ2 h2) /\ I (i + 1) σ2 h2)
  (h0 : I 0 σ h1) (hl : ws.length <= 16777216) : ∃ σ2 h2,kY mi t b σ h = .nx σ2 h2 /\ I ws.length σ2 h2 := by
 unfold kY
 rw [hm,R.then_ok]
 exact aCS I hs step dP 0 σ h1 h0 (by omega) (by unfold dP; omega)
end PV
end
section
namespace PV
open PySem PySem.Spec PyProof.Rows L2
theorem lI {α β γ : Type} {f : α -> Option β} {g : γ -> α} {k : γ -> β} : ∀ {xs : List γ},(∀ x ∈ xs,f (g x) = some (k x)) -> aK f (xs.map g) = some (xs.map k)
 | [],_ => rfl
 | x :: xs,h => by
  simp only [List.map_cons,aK]
  rw [h x (by simp),lI fun y hy => h y (by simp [hy])]
@[simp] theorem aNL {h : Hh} {n : Nat} {i : Int} : toP h (n + 1) (.int i) = some (.int i) := id rfl
@[simp] theorem aNN {h : Hh} {n : Nat} {i : Str} : toP h (n + 1) (.str i) = some (.str i) := id rfl
@[simp] theorem aOu {h : Hh} {n : Nat} {i : Bool} : toP h (n + 1) (.bl i) = some (.bool i) := id rfl
@[simp] theorem aNM {h : Hh} {n : Nat} : toP h (n + 1) .non = some .none := id rfl
@[simp] theorem aNO {h : Hh} {n : Nat} {ws : List D} : toP h (n + 1) (.tup ws) = (aK (toP h n) ws).map .tuple := id rfl
@[simp] theorem aOv {h : Hh} {n : Nat} {ws : List D} : toP h (n + 1) (.tl ws) = (aK (toP h n) ws).map .list := id rfl
@[simp] theorem aME {α β : Type} {f : α -> Option β} : aK f [] = some [] := id rfl
theorem zW {α β : Type} {f : α -> Option β} {x : α} {xs : List α} {y : β} {ys : List β} (h1 : f x = some y) (h2 : aK f xs = some ys) : aK f (x :: xs) = some (y :: ys) := by simp only [aK,h1,h2]
theorem iU : ∀ {ds : List PyData},(∀ d ∈ ds,d.canLay0 = true) -> PyData.canLayAll0 ds = true
 | [],_ => by simp [PyData.canLayAll0]
 | d :: ds,h => by
  simp only [PyData.canLayAll0,Bool.and_eq_true]
  exact ⟨h d (by simp),iU fun x hx => h x (by simp [hx])⟩
theorem kE {n : Nat} : ∀ {ds : List PyData},(∀ d ∈ ds,d.depth <= n) -> PyData.depthAll ds <= n
 | [],_ => by simp [PyData.depthAll]
 | d :: ds,h => by
  simp only [PyData.depthAll]
  have h1 := h d (by simp)
  have h2 := kE fun x hx => h x (List.mem_cons_of_mem _ hx)
  omega
theorem xW {ds : List PyData} {n : Nat} (hn : n < 64) (h : ∀ d ∈ ds,d.canLay0 = true) (hd : ∀ d ∈ ds,d.depth <= n) : SeqAt.shaped (.tuple ds) = true := by
 have := kE hd
 simp [SeqAt.shaped,PyData.canLay0,iU h,PyData.depth]
 omega
theorem xV {x : Str} (h : PyData.strOk x = true) : SeqAt.shaped (.str x) = true := by simp [SeqAt.shaped,PyData.canLay0,h,PyData.depth]
theorem vN {h : Hh} {x : Str} {ss : List Str} (hx : PyData.strOk x = true) (hs : ∀ s ∈ ss,PyData.strOk s = true) : inW (.str x) (.tup (ss.map .str)) h = .ok (.bl (decide (x ∈ ss))) h := by
 have e1 : toP h bG (.tup (ss.map .str)) = some (.tuple (ss.map .str)) := by
  show (aK (toP h 65) (ss.map .str)).map PyData.tuple = _
  rw [lI (f := toP h 65) (g := D.str) (k := PyData.str) fun x _ => rfl]
  rfl
 have s1 : SeqAt.shaped (.tuple (ss.map .str)) = true := xW (n := 0) (by omega) (fun d hd => by
  obtain ⟨s,hs',rfl⟩ := List.mem_map.mp hd
  simp [PyData.canLay0,hs s hs']) (fun d hd => by
  obtain ⟨s,hs',rfl⟩ := List.mem_map.mp hd
  simp [PyData.depth])
 have e2 : toP h bG (.str x) = some (.str x) := rfl
 simp only [inW,inO,e1,e2,s1,xV hx,Bool.and_self,if_true]
 congr 3
 rw [Bool.eq_iff_iff]
 simp only [List.any_map,List.any_eq_true,Function.comp,decide_eq_true_eq,PyData.eqv,beq_iff_eq]
 constructor
 ·rintro ⟨s,hs,rfl⟩; exact hs
 ·exact fun hm => ⟨x,hm,rfl⟩
end PV
end
section
namespace PV
open PySem PySem.Spec PyProof.Rows L2
end PV
end
section
namespace PV
open PySem PySem.Spec PyProof.Rows L2
theorem aCY {α : Type} {src : Src} {t : Tg} {body : α -> Sg -> Hh -> R α} {σ0 : Sg} {ws : List D} (I : Nat -> α -> Hh -> Prop) (hs : ∀ i acc h,I i acc h -> src i h = some ws[i]?)
  (step : ∀ i w acc h,I i acc h -> ws[i]? = some w -> ∃ σ1 acc' h',t.set w σ0 h = some σ1 /\ body acc σ1 h = .ok acc' h' /\ I (i + 1) acc' h') :
  ∀ (n i : Nat) (acc : α) (h : Hh),I i acc h -> i <= ws.length -> ws.length < i + n -> ∃ acc' h',lcL src t body σ0 n i acc h = .ok acc' h' /\ I ws.length acc' h'
 | 0,i,acc,h,hi,hle,hl => by omega
 | n + 1,i,acc,h,hi,hle,hl => by
  simp only [lcL,hs i acc h hi]
  cases e : ws[i]? with
  | none =>
   have := List.getElem?_eq_none_iff.mp e
   have hi' : i = ws.length := by omega
   subst hi'
   exact ⟨acc,h,rfl,hi⟩
  | some w =>
   obtain ⟨σ1,acc',h',e1,e2,hi2⟩ := step i w acc h hi e
   have := aF e
   obtain ⟨acc3,h3,e3,hi3⟩ := aCY I hs step n (i + 1) acc' h' hi2 (by omega) (by omega)
   refine ⟨acc3,h3, ?_,hi3⟩
   simp only [e1,e2,R.bind_ok]; exact e3
/-- [e for t in ws],each turn under I -/
theorem aEL {mi : M Src} {t : Tg} {me : M D} {vs : List Nat} {σ : Sg} {h h1 : Hh} {src : Src} {ws : List D} (I : Nat -> List D -> Hh -> Prop) (hi : mi σ h = .ok src h1) (hs : ∀ i acc h,I i acc h -> src i h = some ws[i]?) (hl : ws.length < sizeLine)
  (h0 : I 0 [] h1) (step : ∀ i w acc h,I i acc h -> acc.length = i -> ws[i]? = some w -> ∃ σ1 y h',t.set w (cG σ vs) h = some σ1 /\ me σ1 h = .ok y h' /\ I (i + 1) (acc ++ [(aU y h').1]) (aU y h').2) :
  ∃ acc h',mLc mi t (fun _ h => .ok true h) me vs σ h = .ok (.tl acc) h' /\ acc.length = ws.length /\ I ws.length acc h' := by
 obtain ⟨acc,h',e,hI,hlen⟩ := aCY (src := src) (t := t) (body := kP (fun _ h => .ok true h) me) (σ0 := cG σ vs) (ws := ws) (fun i acc h => I i acc h /\ acc.length = i) (fun i acc h hi => hs i acc h hi.1) (fun i w acc h hi e => by
  obtain ⟨σ1,y,h',e1,e2,e3⟩ := step i w acc h hi.1 hi.2 e
  have hlt := aF e
  have ha : acc.length < sizeLine := by have := hi.2; omega
  exact ⟨σ1,acc ++ [(aU y h').1],(aU y h').2,e1,by simp only [kP,noX,R.bind_ok,if_true,e2,ha],e3,by simp [hi.2]⟩) dP 0 [] h1 ⟨h0,rfl⟩ (by omega) (by unfold dP; have : sizeLine = 16777216 := rfl; omega)
 refine ⟨acc,h', ?_,hlen,hI⟩
 unfold mLc
 rw [hi,R.bind_ok,e]
 rfl
end PV
end
section
namespace PV
open PySem PySem.Spec PyProof.Rows L2
theorem aAw {i j : Int} (h : -18446744073709551616 < i) (h2 : i < 18446744073709551616) : CMul i j := .inl ⟨by simpa using h,by simpa using h2⟩
theorem aAx {i j : Int} (h : -18446744073709551616 < j) (h2 : j < 18446744073709551616) : CMul i j := .inr ⟨by simpa using h,by simpa using h2⟩
/-- the heap changes at the cells is alone -/
structure Up (is : List Nat) (h h' : Hh) : Prop where
 len : h'.length = h.length
 same : ∀ j,j ∉ is -> h'[j]? = h[j]?
theorem Up.rfl' {is : List Nat} {h : Hh} : Up is h h := ⟨rfl,fun _ _ => rfl⟩
theorem Up.trans {is : List Nat} {h h1 h2 : Hh} (a : Up is h h1) (b : Up is h1 h2) : Up is h h2 := ⟨b.len.trans a.len,fun j hj => (b.same j hj).trans (a.same j hj)⟩
theorem Up.mono {is js : List Nat} {h h1 : Hh} (a : Up is h h1) (s : ∀ i ∈ is,i ∈ js) : Up js h h1 := ⟨a.len,fun j hj => a.same j fun z => hj (s j z)⟩
theorem Up.get {is : List Nat} {h h1 : Hh} (a : Up is h h1) {j : Nat} {c : Cl} (e : h[j]? = some c) (hj : j ∉ is) : h1[j]? = some c := (a.same j hj).trans e
theorem Up.set {is : List Nat} {h : Hh} {i : Nat} {c : Cl} (hi : i ∈ is) : Up is h (h.set i c) := ⟨by simp,fun j hj => List.getElem?_set_ne fun z => hj (by rw [<- z]; exact hi)⟩
/-- new cells go: what is left of the old ones -/
theorem Up.cut {is : List Nat} {h e h' : Hh} (a : Up is (h ++ e) h') : Up is h (h'.take h.length) := by
 have hl := a.len
 rw [List.length_append] at hl
 refine ⟨by rw [List.length_take]; omega,fun j hj => ?_⟩
 by_cases hlt : j < h.length
 ·rw [List.getElem?_take_of_lt hlt,a.same j hj,List.getElem?_append_left hlt]
 ·rw [List.getElem?_eq_none (by rw [List.length_take]; omega),List.getElem?_eq_none (by omega)]
theorem aGS {h' : Hh} {n i : Nat} {c : Cl} (e : h'[i]? = some c) (hi : i < n) : (h'.take n)[i]? = some c := by rw [List.getElem?_take_of_lt hi]; exact e
theorem aCO {h e : Hh} {i : Nat} {c : Cl} (q : h[i]? = some c) : (h ++ e)[i]? = some c := by rw [List.getElem?_append_left (aF q)]; exact q
/-- a call leaves the caller's cells,each as it was or plain -/
theorem aI0 {is : List Nat} {h e h' : Hh} {w : D} (a : Up is (h ++ e) h') (lim : w.lim h.length = true) (hp : ∀ i ∈ is,i < h.length -> ∃ c,h'[i]? = some c /\ (h[i]? = some c \/ c.lim h.length = true)) : gcR h (.ok w h') = .ok w (h'.take h.length) := by
 have hl := a.len
 rw [List.length_append] at hl
 refine aCU lim (by omega) fun j c hj ec => ?_
 by_cases hm : j ∈ is
 ·obtain ⟨c',e1,e2⟩ := hp j hm hj
  rw [e1] at ec; cases ec; exact e2
 ·left
  rw [a.same j hm,List.getElem?_append_left hj] at ec; exact ec
theorem kF {is : List Nat} {h h' : Hh} {w : D} (a : Up is h h') (lim : w.lim h.length = true) : gcR h (.ok w h') = .ok w h' := qA a.len lim
/-- a source of draws at cell i,drawn from at most c times -/
def Sr (h : Hh) (i : Nat) (c : Nat) : Prop := ∃ a b d : Int,h[i]? = some (.lst [.int a, .int b, .int d]) /\ 0 <= d /\ d <= c
theorem Sr.mono {h : Hh} {i c c' : Nat} (s : Sr h i c) (hc : c <= c') : Sr h i c' := let ⟨a,b,d,e,h0,h1⟩ := s; ⟨a,b,d,e,h0,by omega⟩
theorem Sr.lt {h : Hh} {i c : Nat} (s : Sr h i c) : i < h.length := let ⟨_,_,_,e,_,_⟩ := s; aF e
theorem Sr.app {h e : Hh} {i c : Nat} (s : Sr h i c) : Sr (h ++ e) i c := let ⟨a,b,d,e,h0,h1⟩ := s; ⟨a,b,d,aCO e,h0,h1⟩
theorem Sr.cut {h : Hh} {i c n : Nat} (s : Sr h i c) (hi : i < n) : Sr (h.take n) i c := let ⟨a,b,d,e,h0,h1⟩ := s; ⟨a,b,d,aGS e hi,h0,h1⟩
theorem Sr.up {h h' : Hh} {i c : Nat} {is : List Nat} (s : Sr h i c) (u : Up is h h') (hi : i ∉ is) : Sr h' i c := let ⟨a,b,d,e,h0,h1⟩ := s; ⟨a,b,d,u.get e hi,h0,h1⟩
theorem Sr.cell {h : Hh} {i c : Nat} (s : Sr h i c) (n : Nat) : ∃ x,h[i]? = some x /\ x.lim n = true := let ⟨a,b,d,e,h0,h1⟩ := s; ⟨_,e,by simp⟩
theorem aHD {i c : Nat} {h e h' : Hh} {w : D} (a : Up [i] (h ++ e) h') (s : Sr h' i c) (lim : w.lim h.length = true) : gcR h (.ok w h') = .ok w (h'.take h.length) :=
 aI0 a lim fun j hj _ => by
  have : j = i := by simpa using hj
  subst this
  obtain ⟨x,e1,e2⟩ := s.cell h.length
  exact ⟨x,e1, .inr e2⟩
theorem aAb {h : Hh} {p r : Nat} {ws : List D} (e : h[p]? = some (.lst ws)) (hr : r < ws.length) (hl : ws.length < 1073741824) : lZ (.ref p) (.int (r : Int)) h = .ok ws[r] (h.set p (.lst (ws.eraseIdx r))) := by
 have h1 : -(2 ^ 63 : Int) <= (r : Int) := by omega
 have h2 : (r : Int) < 2 ^ 63 := by omega
 have h3 : seqIndex? (r : Int) ws.length = some r := by
  unfold seqIndex?
  simp
  omega
 simp [lZ,fD,e,h3,List.getElem?_eq_getElem hr]
 omega
theorem rE {α : Type} : ∀ {l : List α} {r : Nat} (hr : r < l.length),l.Perm (l[r] :: l.eraseIdx r)
 | x :: l,0,_ => .refl _
 | x :: l,r + 1,hr => by
  have := rE (l := l) (r := r) (by simpa using hr)
  simp only [List.getElem_cons_succ,List.eraseIdx_cons_succ]
  exact (this.cons x).trans (.swap _ _ _)
theorem mK {α β : Type} {f : α -> β} : ∀ {l : List α} {r : Nat},(l.map f).eraseIdx r = (l.eraseIdx r).map f
 | [],r => by simp
 | x :: l,0 => by simp
 | x :: l,r + 1 => by simp [mK (l := l) (r := r)]
theorem rQ {m : M D} {σ : Sg} {h h1 : Hh} {n : Nat} (e : m σ h = .ok (.int n) h1) (hn : n < 1073741824) : iO m σ h = .ok (pP 0 n) h1 := by
 unfold iO
 rw [e,R.bind_ok]
 show (if _ then _ else _) = _
 rw [if_pos ⟨by omega,by omega⟩,Int.toNat_natCast]
theorem nL {h : Hh} {p : Nat} {ws : List D} (e : h[p]? = some (.lst ws)) : tyM h (.ref p) = some "list" := by simp [tyM,e]
theorem aG8 {op : Op1} {o a : M D} {σ : Sg} {h h1 : Hh} {p : Nat} {ws : List D} (eo : o σ h = .ok (.ref p) h1) (e : h1[p]? = some (.lst ws)) : mM1 (on1 "list" op) o a σ h = (a σ h1).bind fun y h2 => op (.ref p) y h2 := by
 unfold mM1
 rw [eo,R.bind_ok,nL e]
 rfl
theorem qT {h : Hh} {p : Nat} {ws : List D} {y : D} (e : h[p]? = some (.lst ws)) (hl : ws.length < sizeLine) (hy : y.isTl = false) : hW (.ref p) y h = .ok .non (h.set p (.lst (ws ++ [y]))) := by simp [hW,fD,e,hl,hy]
theorem kM {h : Hh} {p : Nat} {c : Cl} (hp : p < h.length) : (h.set p c)[p]? = some c := List.getElem?_set_self hp
theorem dY {h : Hh} {p q : Nat} {c : Cl} (hp : p ≠ q) : (h.set p c)[q]? = h[q]? := List.getElem?_set_ne hp
theorem aFD {h : Hh} {c : Cl} {r : Hh} : (h ++ c :: r)[h.length]? = some c := by simp
theorem aFE {h : Hh} {c d : Cl} {r : Hh} : (h ++ c :: d :: r)[h.length + 1]? = some d := by simp [List.getElem?_append_right]
theorem aEm {h : Hh} {c d e : Cl} {r : Hh} : (h ++ c :: d :: e :: r)[h.length + 2]? = some e := by simp [List.getElem?_append_right]
end PV
end
section
namespace PV
open PySem PySem.Spec PyProof.Rows L2
/-- the heap changes at the cells is,and may grow -/
structure Ux (is : List Nat) (h h' : Hh) : Prop where
 len : h.length <= h'.length
 same : ∀ j,j < h.length -> j ∉ is -> h'[j]? = h[j]?
theorem Up.ux {is : List Nat} {h h' : Hh} (a : Up is h h') : Ux is h h' := ⟨Nat.le_of_eq a.len.symm,fun j _ hj => a.same j hj⟩
theorem Ux.trans {is : List Nat} {h h1 h2 : Hh} (a : Ux is h h1) (b : Ux is h1 h2) : Ux is h h2 := ⟨Nat.le_trans a.len b.len,fun j hj hi => (b.same j (Nat.lt_of_lt_of_le hj a.len) hi).trans (a.same j hj hi)⟩
theorem Ux.app {is : List Nat} {h e : Hh} : Ux is h (h ++ e) := ⟨by simp,fun j hj _ => List.getElem?_append_left hj⟩
theorem Ux.mono {is js : List Nat} {h h1 : Hh} (a : Ux is h h1) (s : ∀ i ∈ is,i < h.length -> i ∈ js) : Ux js h h1 := ⟨a.len,fun j hj hm => a.same j hj fun z => hm (s j z hj)⟩
theorem Ux.get {is : List Nat} {h h1 : Hh} (a : Ux is h h1) {j : Nat} {c : Cl} (e : h[j]? = some c) (hj : j ∉ is) : h1[j]? = some c := (a.same j (aF e) hj).trans e
theorem wZ {is : List Nat} {h e h' : Hh} {w : D} (a : Ux is (h ++ e) h') (lim : w.lim h.length = true) (hp : ∀ i ∈ is,i < h.length -> ∃ c,h'[i]? = some c /\ c.lim h.length = true) :
  ∃ h2,gcR h (.ok w h') = .ok w h2 /\ Up is h h2 /\ (∀ i,i < h.length -> h2[i]? = h'[i]?) := by
 have hl := a.len
 rw [List.length_append] at hl
 refine ⟨h'.take h.length,aCU lim (by omega) fun j c hj ec => ?_,⟨by rw [List.length_take]; omega,fun j hj => ?_⟩,fun i hi => List.getElem?_take_of_lt hi⟩
 ·by_cases hm : j ∈ is
  ·obtain ⟨c',e1,e2⟩ := hp j hm hj
   rw [e1] at ec; cases ec; exact .inr e2
  ·left
   rw [a.same j (by rw [List.length_append]; omega) hm,List.getElem?_append_left hj] at ec; exact ec
 ·by_cases hlt : j < h.length
  ·rw [List.getElem?_take_of_lt hlt,a.same j (by rw [List.length_append]; omega) hj,List.getElem?_append_left hlt]
  ·rw [List.getElem?_eq_none (by rw [List.length_take]; omega),List.getElem?_eq_none (by omega)]
/-- nothing was written -/
theorem aIY {h e h' : Hh} {w : D} (a : Ux [] (h ++ e) h') (lim : w.lim h.length = true) : gcR h (.ok w h') = .ok w h := by
 obtain ⟨h2,e1,u,_⟩ := wZ a lim (fun i hi => by simp at hi)
 rw [e1]
 have : h2 = h := by
  apply List.ext_getElem?
  intro j
  exact u.same j (by simp)
 rw [this]
theorem aHC {h h' : Hh} {w : D} (a : Ux [] h h') (lim : w.lim h.length = true) : gcR h (.ok w h') = .ok w h := aIY (e := []) (by rw [List.append_nil]; exact a) lim
@[simp] theorem aNr {h e : Hh} {w : D} (lim : w.lim h.length = true) : gcR h (.ok w (h ++ e)) = .ok w h := aHC .app lim
structure Opr where
 kind : Str
 words : List Str
 deriving DecidableEq,Inhabited
def Opr.enc (o : Opr) : D := .tup [.str o.kind, .tup (o.words.map .str)]
def Opr.L (o : Opr) : Bool := decide (o.kind ∈ [("infix" : Str),"postfix"])
def Opr.Rr (o : Opr) : Bool := decide (o.kind ∈ [("infix" : Str),"prefix"])
def Opr.S (o : Opr) : Bool := decide (o.kind ∈ [("prefix" : Str),"closed"])
def kinds : List Str := ["closed","infix","postfix","prefix"]
theorem Opr.enc_lim {o : Opr} {n : Nat} : o.enc.lim n = true := by simp [Opr.enc]
@[simp] theorem aMb {o : Opr} {h : Hh} : aU o.enc h = (o.enc,h) := rfl
def jQ : List Str := ["!","\u0023","$","&","*","+",",","-",".","/",":",";","<","=",">"]
def jR : List Str := ["?","\u0040","[","]","^","_","{","|","}","~"]
def mX : List Str := ["if","then","else","and","or","not","is","z9"]
def aLj : List Str := ["--","**","lengthy8","of","in","to","by","=>","((","f(",")x"]
/-- the words that the laws draw from -/
def iZ : List Str := (jQ ++ jR) ++ mX ++ aLj
/-- words that some laws write -/
def aJq : List Str := ["last","end","op","do","o0x","o1x","o2x","o3x","o4x","o5x","o6x","o7x","o8x","o9x","o10x","o11x","o0y","o1y","o2y","o3y","o4y","o5y"]
def aJr : List Str := ["o6y","o7y","o8y","o9y","o10y","o11y","plus","size","at","abs","new","n2","~~","q","zq","qz","<(",")>","no","!x","\u0023x","$x"]
def aJs : List Str := ["&x","*x","+x",",x","-x",".x","/x",":x",";x","<x","=x",">x","?x","\u0040x","[x","]x","^x","_x","{x","|x","}x","~x"]
def aJt : List Str := ["ifx","thenx","elsex","andx","orx","notx","isx","z9x","--x","**x","lengthyx","ofx","inx","tox","byx","=>x","((x","f(x",")xx","opx","!y","\u0023y"]
def aJu : List Str := ["$y","&y","*y","+y",",y","-y",".y","/y",":y",";y","<y","=y",">y","?y","\u0040y","[y","]y","^y","_y","{y","|y","}y"]
def aJv : List Str := ["~y","ify","theny","elsey","andy","ory","noty","isy","z9y","--y","**y","lengthyy","ofy","iny","toy","byy","=>y","((y","f(y",")xy","opy"]
def aLk : List Str := aJq ++ aJr ++ aJs ++ aJt ++ aJu ++ aJv
def kZ : List Str := iZ ++ aLk
theorem aCq : iZ.Nodup := by decide +kernel
theorem y0 {x : Str} (h : x ∈ iZ) : x ∈ kZ := List.mem_append_left _ h
theorem rT : ∀ x ∈ kZ,PyData.strOk x = true := by decide +kernel
theorem iM : ∀ x ∈ kinds,PyData.strOk x = true := by decide +kernel
def dU (b : Bool) (ops : List Opr) : List Str := ops.filterMap fun o => if o.S = b then o.words.head? else none
def eR (ops : List Opr) : List Str := ops.flatMap fun o => o.words.tail
/-- an operator's kind and number of words -/
structure OprOk (o : Opr) : Prop where
 kd : o.kind ∈ kinds
 l1 : 1 <= o.words.length
 l3 : o.words.length <= 3
 l2 : o.kind = "closed" -> 2 <= o.words.length
 w0 : ∀ x ∈ o.words,x ∈ kZ
/-- a list of operators whose words do not meet where they must not -/
structure OpsOk (ops : List Opr) : Prop where
 ok : ∀ o ∈ ops,OprOk o
 nd : ∀ b,(dU b ops).Nodup
 lt : (eR ops).Nodup
 ld : ∀ x ∈ eR ops,∀ b,x ∉ dU b ops
/-- while it is made: the words left,the first words of one role alone -/
structure OpI (pool : List Str) (sh : Bool -> List Str) (ops : List Opr) : Prop where
 oo : OpsOk ops
 pn : pool.Nodup
 p0 : ∀ x ∈ pool,x ∈ iZ
 dp : ∀ o ∈ ops,∀ x ∈ o.words,x ∉ pool
 sn : ∀ b,(sh b).Nodup
 si : ∀ b,∀ x ∈ sh b,x ∈ dU b ops
 sd : ∀ b,∀ x ∈ sh b,x ∉ dU (!b) ops
 wy : ∀ o ∈ ops,∀ x ∈ o.words,x ∈ iZ
theorem aDu {b : Bool} {ops : List Opr} {x : Str} (h : x ∈ dU b ops) : ∃ o ∈ ops,o.S = b /\ o.words.head? = some x := by
 unfold dU at h
 obtain ⟨o,ho,e⟩ := List.mem_filterMap.mp h
 by_cases hb : o.S = b
 ·rw [if_pos hb] at e; exact ⟨o,ho,hb,e⟩
 ·rw [if_neg hb] at e; cases e
theorem lR {b : Bool} {ops : List Opr} {x : Str} (h : x ∈ dU b ops) : ∃ o ∈ ops,x ∈ o.words := by
 obtain ⟨o,ho,_,e⟩ := aDu h
 exact ⟨o,ho,List.mem_of_mem_head? (by rw [e]; rfl)⟩
theorem aCp {ops : List Opr} {x : Str} (h : x ∈ eR ops) : ∃ o ∈ ops,x ∈ o.words := by
 unfold eR at h
 obtain ⟨o,ho,e⟩ := List.mem_flatMap.mp h
 exact ⟨o,ho,List.mem_of_mem_tail e⟩
theorem hX {b : Bool} {ops : List Opr} {o : Opr} {x : Str} {r : List Str} (e : o.words = x :: r) : dU b (ops ++ [o]) = dU b ops ++ if o.S = b then [x] else [] := by
 unfold dU
 rw [List.filterMap_append]
 by_cases hb : o.S = b
 ·simp [hb,e]
 ·simp [hb]
theorem uY {ops : List Opr} {o : Opr} {x : Str} {r : List Str} (e : o.words = x :: r) : eR (ops ++ [o]) = eR ops ++ r := by
 unfold eR
 simp [e]
theorem xG {α : Type} {l : List α} {x : α} (h : l.Nodup) (hx : x ∉ l) : (l ++ [x]).Nodup := by
 rw [List.nodup_append]
 exact ⟨h,by simp,fun a ha b hb => by
  have : b = x := by simpa using hb
  subst this; intro z; subst z; exact hx ha⟩
/-- one more operator: its first word x is new to its role,its later words r are new -/
theorem OpsOk.snoc {ops : List Opr} {o : Opr} {x : Str} {r : List Str} (I : OpsOk ops) (ho : OprOk o) (e : o.words = x :: r) (hx : x ∉ dU o.S ops) (hxl : x ∉ eR ops) (rn : r.Nodup) (rx : x ∉ r) (rf : ∀ y ∈ r,∀ b,y ∉ dU b ops) (rl : ∀ y ∈ r,y ∉ eR ops) : OpsOk (ops ++ [o]) := by
 refine ⟨fun o' h' => ?_,fun b => ?_, ?_,fun y hy b hb => ?_⟩
 ·rcases List.mem_append.mp h' with h' | h'
  ·exact I.ok o' h'
  ·have : o' = o := by simpa using h'
   subst this; exact ho
 ·rw [hX e]
  by_cases hb : o.S = b
  ·subst hb
   rw [if_pos rfl]
   exact xG (I.nd _) hx
  ·rw [if_neg hb,List.append_nil]; exact I.nd b
 ·rw [uY e,List.nodup_append]
  exact ⟨I.lt,rn,fun a ha b hb z => by subst z; exact rl a hb ha⟩
 ·rw [uY e] at hy
  rw [hX e] at hb
  rcases List.mem_append.mp hy with hy | hy
  ·rcases List.mem_append.mp hb with hb | hb
   ·exact I.ld y hy b hb
   ·by_cases hs : o.S = b
    ·rw [if_pos hs] at hb
     have : y = x := by simpa using hb
     subst this; exact hxl hy
    ·rw [if_neg hs] at hb; simp at hb
  ·rcases List.mem_append.mp hb with hb | hb
   ·exact rf y hy b hb
   ·by_cases hs : o.S = b
    ·rw [if_pos hs] at hb
     have : y = x := by simpa using hb
     subst this; exact rx hy
    ·rw [if_neg hs] at hb; simp at hb
section
variable {pool pool' ws : List Str} {sh : Bool -> List Str} {ops : List Opr}
theorem OpI.split (I : OpI pool sh ops) (p : pool.Perm (ws ++ pool')) : ws.Nodup /\ pool'.Nodup /\ (∀ x ∈ ws,x ∉ pool') /\ (∀ x ∈ ws,x ∈ pool) /\ (∀ x ∈ pool',x ∈ pool) := by
 have n := p.nodup I.pn
 rw [List.nodup_append] at n
 exact ⟨n.1,n.2.1,fun x hx hp => n.2.2 x hx x hp rfl,fun x hx => p.symm.subset (List.mem_append_left _ hx),fun x hx => p.symm.subset (List.mem_append_right _ hx)⟩
theorem OpI.new (I : OpI pool sh ops) {x : Str} (hx : x ∈ pool) : (∀ b,x ∉ dU b ops) /\ x ∉ eR ops :=
 ⟨fun b h => by obtain ⟨o,ho,hw⟩ := lR h; exact I.dp o ho x hw hx,fun h => by obtain ⟨o,ho,hw⟩ := aCp h; exact I.dp o ho x hw hx⟩
/-- all words new -/
theorem OpI.add (I : OpI pool sh ops) {x : Str} {r : List Str} (p : pool.Perm ((x :: r) ++ pool')) {kd : Str} (ho : OprOk ⟨kd,x :: r⟩) : OpI pool' (fun b => if b = Opr.S ⟨kd,x :: r⟩ then sh b ++ [x] else sh b) (ops ++ [⟨kd,x :: r⟩]) := by
 obtain ⟨wn,pn,wp,wi,pi⟩ := I.split p
 rw [List.nodup_cons] at wn
 have nx := I.new (wi x (by simp))
 refine ⟨I.oo.snoc ho rfl (nx.1 _) nx.2 wn.2 wn.1 (fun y hy b => (I.new (wi y (by simp [hy]))).1 b) (fun y hy => (I.new (wi y (by simp [hy]))).2),pn,fun y hy => I.p0 y (pi y hy),fun o ho' y hy hp => ?_,fun b => ?_,fun b y hy => ?_,fun b y hy hf => ?_,fun o ho' y hy => ?_⟩
 ·rcases List.mem_append.mp ho' with h' | h'
  ·exact I.dp o h' y hy (pi y hp)
  ·have : o = ⟨kd,x :: r⟩ := by simpa using h'
   subst this; exact wp y hy hp
 ·show (if _ then _ else _ : List Str).Nodup
  split
  ·exact xG (I.sn b) fun h => nx.1 b (I.si b x h)
  ·exact I.sn b
 ·rw [hX (x := x) (r := r) rfl]
  by_cases hb : b = Opr.S ⟨kd,x :: r⟩
  ·rw [if_pos hb] at hy
   rw [if_pos hb.symm]
   rcases List.mem_append.mp hy with hy | hy
   ·exact List.mem_append_left _ (I.si b y hy)
   ·exact List.mem_append_right _ hy
  ·rw [if_neg hb] at hy
   exact List.mem_append_left _ (I.si b y hy)
 ·rw [hX (x := x) (r := r) rfl] at hf
  by_cases hb : b = Opr.S ⟨kd,x :: r⟩
  ·rw [if_pos hb] at hy
   rw [if_neg (by rw [<- hb]; cases b <;> simp),List.append_nil] at hf
   rcases List.mem_append.mp hy with hy | hy
   ·exact I.sd b y hy hf
   ·have : y = x := by simpa using hy
    subst this; exact nx.1 _ hf
  ·rw [if_neg hb] at hy
   have hb2 : Opr.S ⟨kd,x :: r⟩ = !b := by revert hb; cases b <;> cases Opr.S ⟨kd,x :: r⟩ <;> simp
   rw [if_pos hb2] at hf
   rcases List.mem_append.mp hf with hf | hf
   ·exact I.sd b y hy hf
   ·have : y = x := by simpa using hf
    subst this; exact nx.1 b (I.si b y hy)
 ·rcases List.mem_append.mp ho' with h' | h'
  ·exact I.wy o h' y hy
  ·have : o = ⟨kd,x :: r⟩ := by simpa using h'
   subst this; exact I.p0 y (wi y hy)
/-- the first word x is one of the other role -/
theorem OpI.share (I : OpI pool sh ops) {x z : Str} {r rest : List Str} (p : pool.Perm ((z :: r) ++ pool')) {kd : Str} (ho : OprOk ⟨kd,x :: r⟩) (hx : (sh (!Opr.S ⟨kd,x :: r⟩)).Perm (x :: rest)) : OpI pool' (fun b => if b = (!Opr.S ⟨kd,x :: r⟩) then rest else sh b) (ops ++ [⟨kd,x :: r⟩]) := by
 obtain ⟨wn,pn,wp,wi,pi⟩ := I.split p
 rw [List.nodup_cons] at wn
 generalize hS : Opr.S ⟨kd,x :: r⟩ = S at hx ⊢
 have xm : x ∈ sh (!S) := hx.symm.subset (by simp)
 have xf := I.si _ x xm
 have xd := I.sd _ x xm
 rw [Bool.not_not] at xd
 obtain ⟨ox,hox,hwx⟩ := lR xf
 have xp : x ∉ pool := I.dp ox hox x hwx
 have nd := hx.nodup (I.sn _)
 rw [List.nodup_cons] at nd
 have sub : ∀ y ∈ rest,y ∈ sh (!S) := fun y hy => hx.symm.subset (by simp [hy])
 refine ⟨I.oo.snoc ho rfl (by rw [hS]; exact xd) (fun h => I.oo.ld x h _ xf) wn.2 (fun h => xp (wi x (by simp [h]))) (fun y hy b => (I.new (wi y (by simp [hy]))).1 b) (fun y hy => (I.new (wi y (by simp [hy]))).2),pn,fun y hy => I.p0 y (pi y hy),fun o ho' y hy hp => ?_,fun b => ?_,fun b y hy => ?_,fun b y hy hf => ?_,fun o ho' y hy => ?_⟩
 ·rcases List.mem_append.mp ho' with h' | h'
  ·exact I.dp o h' y hy (pi y hp)
  ·have : o = ⟨kd,x :: r⟩ := by simpa using h'
   subst this
   rcases List.mem_cons.mp hy with hy | hy
   ·subst hy; exact xp (pi y hp)
   ·exact wp y (by simp [hy]) hp
 ·show (if _ then _ else _ : List Str).Nodup
  split
  ·exact nd.2
  ·exact I.sn b
 ·rw [hX (x := x) (r := r) rfl]
  refine List.mem_append_left _ ?_
  by_cases hb : b = !S
  ·rw [if_pos hb] at hy
   rw [hb]
   exact I.si _ y (sub y hy)
  ·rw [if_neg hb] at hy
   exact I.si b y hy
 ·rw [hX (x := x) (r := r) rfl,hS] at hf
  by_cases hb : b = !S
  ·rw [if_pos hb] at hy
   have hb2 : S = !b := by rw [hb,Bool.not_not]
   rw [if_pos hb2] at hf
   rcases List.mem_append.mp hf with hf | hf
   ·exact I.sd b y (by rw [hb]; exact sub y hy) hf
   ·have : y = x := by simpa using hf
    subst this; exact nd.1 hy
  ·rw [if_neg hb] at hy
   have hb2 : ¬ S = !b := fun z => hb (by rw [z,Bool.not_not])
   rw [if_neg hb2,List.append_nil] at hf
   exact I.sd b y hy hf
 ·rcases List.mem_append.mp ho' with h' | h'
  ·exact I.wy o h' y hy
  ·have : o = ⟨kd,x :: r⟩ := by simpa using h'
   subst this
   rcases List.mem_cons.mp hy with hy | hy
   ·subst hy; exact I.wy ox hox y hwx
   ·exact I.p0 y (wi y (by simp [hy]))
theorem OpI.congr {sh' : Bool -> List Str} (I : OpI pool sh ops) (h : ∀ b,sh b = sh' b) : OpI pool sh' ops := by
 have : sh = sh' := funext h
 rw [<- this]; exact I
theorem OpI.start : OpI iZ (fun _ => []) [] := ⟨⟨by simp,by simp [dU],by simp [eR],by simp [eR]⟩,aCq,fun _ h => h,by simp,by simp,by simp,by simp,by simp⟩
end
end PV
end
section
namespace PV
open PySem PySem.Spec PyProof.Rows L2
theorem sz {n : Nat} (h : n <= 16777216) : n <= sizeLine := h
theorem szl {n : Nat} (h : n < 16777216) : n < sizeLine := h
@[simp] theorem aPp : ((1 : Nat) <= sizeLine) = True := eq_true (sz (by decide))
@[simp] theorem aPq : ((2 : Nat) <= sizeLine) = True := eq_true (sz (by decide))
@[simp] theorem aPr : ((3 : Nat) <= sizeLine) = True := eq_true (sz (by decide))
@[simp] theorem aPs : ((4 : Nat) <= sizeLine) = True := eq_true (sz (by decide))
@[simp] theorem aPt : ((5 : Nat) <= sizeLine) = True := eq_true (sz (by decide))
@[simp] theorem aPu : ((6 : Nat) <= sizeLine) = True := eq_true (sz (by decide))
@[simp] theorem aPv : ((7 : Nat) <= sizeLine) = True := eq_true (sz (by decide))
@[simp] theorem aPw : ((8 : Nat) <= sizeLine) = True := eq_true (sz (by decide))
@[simp] theorem aPx : ((9 : Nat) <= sizeLine) = True := eq_true (sz (by decide))
@[simp] theorem aOK : ((10 : Nat) <= sizeLine) = True := eq_true (sz (by decide))
@[simp] theorem aOL : ((11 : Nat) <= sizeLine) = True := eq_true (sz (by decide))
@[simp] theorem aOM : ((12 : Nat) <= sizeLine) = True := eq_true (sz (by decide))
@[simp] theorem aON : ((13 : Nat) <= sizeLine) = True := eq_true (sz (by decide))
@[simp] theorem aOO : ((14 : Nat) <= sizeLine) = True := eq_true (sz (by decide))
@[simp] theorem aOP : ((15 : Nat) <= sizeLine) = True := eq_true (sz (by decide))
@[simp] theorem aOQ : ((16 : Nat) <= sizeLine) = True := eq_true (sz (by decide))
@[simp] theorem aOR : ((17 : Nat) <= sizeLine) = True := eq_true (sz (by decide))
@[simp] theorem aOS : ((18 : Nat) <= sizeLine) = True := eq_true (sz (by decide))
@[simp] theorem aOT : ((19 : Nat) <= sizeLine) = True := eq_true (sz (by decide))
@[simp] theorem aOU : ((20 : Nat) <= sizeLine) = True := eq_true (sz (by decide))
@[simp] theorem aOV : ((21 : Nat) <= sizeLine) = True := eq_true (sz (by decide))
@[simp] theorem aOW : ((22 : Nat) <= sizeLine) = True := eq_true (sz (by decide))
@[simp] theorem aOX : ((23 : Nat) <= sizeLine) = True := eq_true (sz (by decide))
@[simp] theorem aOY : ((24 : Nat) <= sizeLine) = True := eq_true (sz (by decide))
@[simp] theorem aOZ : ((25 : Nat) <= sizeLine) = True := eq_true (sz (by decide))
@[simp] theorem aO0 : ((26 : Nat) <= sizeLine) = True := eq_true (sz (by decide))
@[simp] theorem aO1 : ((27 : Nat) <= sizeLine) = True := eq_true (sz (by decide))
@[simp] theorem aO2 : ((28 : Nat) <= sizeLine) = True := eq_true (sz (by decide))
@[simp] theorem aO3 : ((29 : Nat) <= sizeLine) = True := eq_true (sz (by decide))
@[simp] theorem aO4 : ((30 : Nat) <= sizeLine) = True := eq_true (sz (by decide))
@[simp] theorem aO5 : ((31 : Nat) <= sizeLine) = True := eq_true (sz (by decide))
@[simp] theorem aO6 : ((32 : Nat) <= sizeLine) = True := eq_true (sz (by decide))
@[simp] theorem aO7 : ((33 : Nat) <= sizeLine) = True := eq_true (sz (by decide))
@[simp] theorem aO8 : ((34 : Nat) <= sizeLine) = True := eq_true (sz (by decide))
@[simp] theorem aO9 : ((35 : Nat) <= sizeLine) = True := eq_true (sz (by decide))
@[simp] theorem aPa : ((36 : Nat) <= sizeLine) = True := eq_true (sz (by decide))
@[simp] theorem aPb : ((37 : Nat) <= sizeLine) = True := eq_true (sz (by decide))
@[simp] theorem aPc : ((38 : Nat) <= sizeLine) = True := eq_true (sz (by decide))
@[simp] theorem aPd : ((39 : Nat) <= sizeLine) = True := eq_true (sz (by decide))
@[simp] theorem aPe : ((40 : Nat) <= sizeLine) = True := eq_true (sz (by decide))
@[simp] theorem uK {a b : Str} {h : Hh} : eqW (.str a) (.str b) h = .ok (.bl (decide (a = b))) h := id rfl
@[simp] theorem aNB {a b : Str} {h : Hh} : neW (.str a) (.str b) h = .ok (.bl (!decide (a = b))) h := id rfl
theorem xU {i : Int} : SeqAt.shaped (.int i) = true := by simp [SeqAt.shaped,PyData.canLay0,PyData.depth]
theorem nB {i j : Int} {h : Hh} : eqW (.int i) (.int j) h = .ok (.bl (decide (i = j))) h := by
 have e1 : toP h bG (.int i) = some (.int i) := rfl
 have e2 : toP h bG (.int j) = some (.int j) := rfl
 have e3 : PyData.eqv (.int i) (.int j) = decide (i = j) := by
  rw [Bool.eq_iff_iff]
  simp [PyData.eqv]
 simp only [eqW,eqD,e1,e2,xU,Bool.and_self,if_true,e3]
theorem aCz {ds : List PyData} {n : Nat} (hn : n < 64) (h : ∀ d ∈ ds,d.canLay0 = true) (hd : ∀ d ∈ ds,d.depth <= n) : SeqAt.shaped (.list ds) = true := by
 have := kE hd
 simp [SeqAt.shaped,PyData.canLay0,iU h,PyData.depth]
 omega
theorem aB7 {h : Hh} {n : Nat} {l : List Str} : aK (toP h (n + 1)) (l.map .str) = some (l.map .str) := lI (f := toP h (n + 1)) (g := D.str) (k := PyData.str) fun x _ => rfl
theorem aCA {l : List Str} (hs : ∀ s ∈ l,PyData.strOk s = true) : SeqAt.shaped (.list (l.map .str)) = true := aCz (n := 0) (by omega) (fun d hd => by
  obtain ⟨s,hs',rfl⟩ := List.mem_map.mp hd
  simp [PyData.canLay0,hs s hs']) (fun d hd => by
  obtain ⟨s,hs',rfl⟩ := List.mem_map.mp hd
  simp [PyData.depth])
theorem aGU {h : Hh} {q n : Nat} {l : List Str} (e : h[q]? = some (.lst (l.map .str))) : toP h (n + 2) (.ref q) = some (.list (l.map .str)) := by
 show (match h[q]? with
   | some (.lst ws) => (aK (toP h (n + 1)) ws).map PyData.list
   | _ => none) = _
 rw [e]
 simp only [aB7,Option.map_some]
theorem aHP {h : Hh} {q : Nat} {l : List Str} (e : h[q]? = some (.lst (l.map .str))) (hs : ∀ s ∈ l,PyData.strOk s = true) : neW (.ref q) (.tl []) h = .ok (.bl (!l.isEmpty)) h := by
 have e1 : toP h bG (.ref q) = some (.list (l.map .str)) := aGU e
 have e2 : toP h bG (.tl []) = some (.list []) := rfl
 have s1 := aCA hs
 have s2 : SeqAt.shaped (.list []) = true := by decide +kernel
 have e3 : PyData.eqv (.list (l.map .str)) (.list []) = l.isEmpty := by
  cases l <;> simp [PyData.eqv,PyData.eqvAll]
 simp only [neW,eqD,e1,e2,s1,s2,Bool.and_self,if_true,e3]
section
variable {σ : Sg} {h : Hh} {m o a b : M D} {ts : List Tg} {t : Tg} {ws : List D} {w : D} {i : Nat}
@[simp] theorem aL2 : bI (.tu ts) m σ h = (m σ h).then σ fun w h1 => match Tg.set (.tu ts) (aU w h1).1 σ (aU w h1).2 with
 | some σ1 => .nx σ1 (aU w h1).2
 | none => .bad := id rfl
@[simp] theorem aNk : Tg.set (.nm i) w σ h = some (σ.set i (some w)) := by simp only [Tg.set]
@[simp] theorem aMh : Tg.set (.tu ts) (.tup ws) σ h = Tg.sets ts ws σ h := by simp only [Tg.set,asT]
@[simp] theorem aLU : Tg.sets [] [] σ h = some σ := by simp only [Tg.sets]
@[simp] theorem aKU : Tg.sets (t :: ts) (w :: ws) σ h = (Tg.set t w σ h).bind fun σ1 => Tg.sets ts ws σ1 h := by
 simp only [Tg.sets]
 cases Tg.set t w σ h <;> rfl
@[simp] theorem aN3 {f : String -> Option Op0} : mM0 f o σ h = (o σ h).bind fun x h1 => match tyM h1 x with
 | some T => match f T with
  | some op => op x h1
  | none => .bad
 | none => .bad := id rfl
@[simp] theorem aN4 {f : String -> Option Op1} : mM1 f o a σ h = (o σ h).bind fun x h1 => match tyM h1 x with
 | some T => match f T with
  | some op => (a σ h1).bind fun y h2 => op x y h2
  | none => .bad
 | none => .bad := id rfl
@[simp] theorem aN5 {f : String -> Option Op2} : mM2 f o a b σ h = (o σ h).bind fun x h1 => match tyM h1 x with
 | some T => match f T with
  | some op => (a σ h1).bind fun y h2 => (b σ h2).bind fun z h3 => op x y z h3
  | none => .bad
 | none => .bad := id rfl
@[simp] theorem aMM {T : String} {op : Op0} : on0 T op T = some op := by simp [on0]
@[simp] theorem aGl {T : String} {op : Op1} : on1 T op T = some op := by simp [on1]
@[simp] theorem aMN {T : String} {op : Op2} : on2 T op T = some op := by simp [on2]
@[simp] theorem aNP {x : Str} : tyM h (.str x) = some "str" := rfl
end
theorem aLG {h : Hh} {w : D} {ws : List D} : slW (.tup (w :: ws)) (some 1) none h = .ok (.tup ws) h := by
 have e1 : HT.sIx (w :: ws).length 0 (some 1) = 1 := by simp [HT.sIx]
 have e2 : HT.sIx (w :: ws).length (w :: ws).length none = (w :: ws).length := rfl
 simp only [slW,asL,asT,e1,e2]
 rw [if_neg (by omega)]
 simp only [pB,e1,e2]
 simp
theorem aFC {h : Hh} {xs ys : List D} (hl : xs.length + ys.length <= 16777216) : bP (.tup xs) (.tup ys) h = .ok (.tup (xs ++ ys)) h := by
 have hl' : xs.length + ys.length <= sizeLine := hl
 simp only [bP,asT,hl',if_true]
 by_cases h1 : xs = []
 ·simp [h1]
 ·by_cases h2 : ys = []
  ·simp [h1,h2]
  ·simp [h1,h2]
end PV
end
section
namespace PV
open PySem PySem.Spec PyProof.Rows L2
theorem aF1 {h h' : Hh} {c : Cl} {w : D} (a : Ux [h.length] (h ++ [c]) h') (lim : w.lim h.length = true) : gcR h (.ok w h') = .ok w h := by
 obtain ⟨h2,e1,u,_⟩ := wZ a lim (fun i hi hl => by
  have : i = h.length := by simpa using hi
  omega)
 rw [e1]
 have : h2 = h := by
  apply List.ext_getElem?
  intro j
  by_cases hj : j = h.length
  ·subst hj
   rw [List.getElem?_eq_none (by rw [u.len]; omega),List.getElem?_eq_none (by omega)]
  ·exact u.same j (by simpa using hj)
 rw [this]
theorem aLl {h : Hh} : rV (.int 10) (.int 18) h = .ok (.int 1000000000000000000) h := by rfl
theorem aLm {h : Hh} : ∃ z : Int,0 < z /\ rV (.int 10) (.int 60) h = .ok (.int z) h /\ ∃ y : Int,0 < y /\ rV (.int z) (.int 4) h = .ok (.int y) h :=
 ⟨10 ^ 60,by decide,by rfl,(10 ^ 60) ^ 4,by decide,by rfl⟩
theorem xF {α : Type} : ∀ {l : List α},aK toB (l.map fun _ => D.bl true) = some (l.map fun _ => true)
 | [] => rfl
 | _ :: l => by
  have := xF (l := l)
  simp only [List.map_cons,aK,toB,this]
theorem aDf {α : Type} {h : Hh} {l : List α} : jD (.tl (l.map fun _ => D.bl true)) h = .ok (.bl true) h := by
 simp only [jD,asL,xF]
 congr 2
 induction l with
 | nil => rfl
 | cons a l ih => simp
end PV
end
section
namespace PV
open PySem PySem.Spec PyProof.Rows L2
/-- data that can be shown: its depth,the length of its text -/
structure PN (n l : Nat) (d : PyData) : Prop where
 lay : d.canLay0 = true
 sh : d.showable = true
 dp : d.depth <= n
 ln : d.shown.length <= l
theorem PN.mono {n l n' l' : Nat} {d : PyData} (p : PN n l d) (hn : n <= n') (hl : l <= l') : PN n' l' d := ⟨p.lay,p.sh,Nat.le_trans p.dp hn,Nat.le_trans p.ln hl⟩
theorem PN.shaped {n l : Nat} {d : PyData} (p : PN n l d) (hn : n <= 64) : SeqAt.shaped d = true := by
 have := p.dp
 simp [SeqAt.shaped,p.lay]
 omega
theorem log2_lt {n k : Nat} (h : n < 2 ^ k) (hk : 0 < k) : n.log2 < k := by
 by_cases h0 : n = 0
 ·subst h0; simpa using hk
 ·exact (Nat.log2_lt h0).mpr h
theorem aJo {i : Nat} (h : i < 1000000000000) : PN 0 12 (.int i) := by
 refine ⟨rfl, ?_,by simp [PyData.depth], ?_⟩
 ·simp only [PyData.showable,Int.natAbs_natCast,decide_eq_true_eq]
  exact Nat.lt_trans (log2_lt (k := 40) (Nat.lt_trans h (by decide)) (by decide)) (by decide)
 ·show (Str.ofString (toString (i : Int))).length <= 12
  exact toString_length_le (by omega) (by decide) (by omega)
end PV
end
section
namespace PV
open PySem PySem.Spec PyProof.Rows L2
/-- the places of those that p takes -/
def aI5 (p : Opr -> Bool) (ops : List Opr) : List Int := ops.zipIdx.filterMap fun q => if p q.1 = true then some (q.2 : Int) else none
def aHb (ops : List Opr) : List (Int × Int) := (aI5 Opr.Rr ops).flatMap fun s => (aI5 Opr.L ops).map fun o => (s,o)
end PV
end
section
namespace PV
open PySem PySem.Spec PyProof.Rows L2
inductive Tr where
 | leaf (s : Str) | grp (t : Tr) | nd (n : Nat) (ts : List Tr)
 deriving Inhabited
mutual
def Tr.enc : Tr -> D
 | .leaf s => .str s
 | .grp t => .tup [.str "(",t.enc]
 | .nd n ts => .tup (.int n :: Tr.encs ts)
def Tr.encs : List Tr -> List D
 | [] => []
 | t :: ts => t.enc :: Tr.encs ts
end
theorem vK : ∀ ts : List Tr,Tr.encs ts = ts.map Tr.enc
 | [] => rfl
 | t :: ts => by simp only [Tr.encs,List.map_cons,vK ts]
theorem aEx {ts : List Tr} {t : Tr} : Tr.encs (ts ++ [t]) = Tr.encs ts ++ [t.enc] := by simp [vK]
theorem aAZ {ts : List Tr} : (Tr.encs ts).length = ts.length := by simp [vK]
@[simp] theorem rD {t : Tr} : t.enc.isTl = false := by cases t <;> simp only [Tr.enc] <;> rfl
@[simp] theorem aLR {t : Tr} {h : Hh} : aU t.enc h = (t.enc,h) := oC rD
mutual
theorem Tr.lim {n : Nat} : ∀ t : Tr,t.enc.lim n = true
 | .leaf s => by simp only [Tr.enc,aCZ]
 | .grp t => by simp only [Tr.enc,yL,oM,aCZ,Tr.lim t,aBj,Bool.and_self]
 | .nd m ts => by simp only [Tr.enc,yL,oM,aHM,Tr.lims ts,Bool.and_self]
theorem Tr.lims {n : Nat} : ∀ ts : List Tr,D.lims n (Tr.encs ts) = true
 | [] => by simp only [Tr.encs,aBj]
 | t :: ts => by simp only [Tr.encs,oM,Tr.lim t,Tr.lims ts,Bool.and_self]
end
def Opr.holes (o : Opr) : Nat := o.words.length - 1 + (if o.L then 1 else 0) + (if o.Rr then 1 else 0)
theorem vM {o : Opr} (h : OprOk o) : o.holes <= 4 := by
 have := h.l3
 unfold Opr.holes
 split <;> split <;> omega
mutual
/-- a tree of these operators,its identifiers of p -/
def Tr.ok (ops : List Opr) (p : Str -> Prop) : Tr -> Prop
 | .leaf s => p s
 | .grp t => t.ok ops p
 | .nd n ts => (∃ o,ops[n]? = some o /\ ts.length = o.holes) /\ Tr.oks ops p ts
def Tr.oks (ops : List Opr) (p : Str -> Prop) : List Tr -> Prop
 | [] => True
 | t :: ts => t.ok ops p /\ Tr.oks ops p ts
end
theorem yR {ops : List Opr} {p : Str -> Prop} : ∀ {ts : List Tr},Tr.oks ops p ts ↔ ∀ t ∈ ts,t.ok ops p
 | [] => by simp [Tr.oks]
 | t :: ts => by simp [Tr.oks,yR (ts := ts)]
theorem aGk {ops : List Opr} {p : Str -> Prop} {ts : List Tr} {t : Tr} (h : Tr.oks ops p ts) (ht : t.ok ops p) : Tr.oks ops p (ts ++ [t]) := by
 rw [yR] at h ⊢
 intro x hx
 rcases List.mem_append.mp hx with hx | hx
 ·exact h x hx
 ·have : x = t := by simpa using hx
  subst this; exact ht
mutual
def Tr.depth : Tr -> Nat
 | .leaf _ => 0
 | .grp t => t.depth + 1
 | .nd _ ts => Tr.depths ts + 1
def Tr.depths : List Tr -> Nat
 | [] => 0
 | t :: ts => max t.depth (Tr.depths ts)
end
theorem oG {n : Nat} : ∀ {ts : List Tr},Tr.depths ts <= n ↔ ∀ t ∈ ts,t.depth <= n
 | [] => by simp [Tr.depths]
 | t :: ts => by
  have := oG (n := n) (ts := ts)
  simp only [Tr.depths,List.mem_cons,forall_eq_or_imp,<- this]
  omega
def dW : List Str := ["a","b","x1","7","abcdefgh","c","d","e","f","x","x9","y","0","99999999"]
theorem aG2 {i q c : Nat} {h e h' : Hh} {w : D} {ws : List D} (a : Ux [i,q] (h ++ e) h') (s : Sr h' i c) (eq : h'[q]? = some (.lst ws)) (lw : D.lims h.length ws = true) (lim : w.lim h.length = true) (hi : i < h.length) (hq : q < h.length) :
  ∃ h2,gcR h (.ok w h') = .ok w h2 /\ Up [i,q] h h2 /\ Sr h2 i c /\ h2[q]? = some (.lst ws) := by
 obtain ⟨h2,e1,u,hs⟩ := wZ a lim (fun j hj _ => by
  simp at hj
  rcases hj with rfl | rfl
  ·exact s.cell h.length
  ·exact ⟨_,eq,by simpa using lw⟩)
 refine ⟨h2,e1,u, ?_,(hs q hq).trans eq⟩
 obtain ⟨x,y,d,e2,h0,h1⟩ := s
 exact ⟨x,y,d,(hs i hi).trans e2,h0,h1⟩
/-- the data of operators -/
def Opr.py (o : Opr) : PyData := .tuple [.str o.kind, .tuple (o.words.map .str)]
theorem aIy {h : Hh} {n : Nat} {o : Opr} : toP h (n + 3) o.enc = some o.py := by
 show (aK (toP h (n + 2)) [D.str o.kind, .tup (o.words.map .str)]).map PyData.tuple = _
 have : toP h (n + 2) (.tup (o.words.map .str)) = some (.tuple (o.words.map .str)) := by
  show (aK (toP h (n + 1)) (o.words.map .str)).map PyData.tuple = _
  rw [aB7]; rfl
 have e2 : aK (toP h (n + 2)) [D.str o.kind, .tup (o.words.map .str)] = some [.str o.kind, .tuple (o.words.map .str)] := zW (f := toP h (n + 2)) rfl (zW (f := toP h (n + 2)) this rfl)
 rw [e2]
 rfl
theorem aIz {h : Hh} {n : Nat} {ops : List Opr} : toP h (n + 4) (.tup (ops.map Opr.enc)) = some (.tuple (ops.map Opr.py)) := by
 show (aK (toP h (n + 3)) (ops.map Opr.enc)).map PyData.tuple = _
 rw [lI (f := toP h (n + 3)) (g := Opr.enc) (k := Opr.py) fun o _ => aIy]
 rfl
theorem aD5 {ops : List Opr} (hk : ∀ o ∈ ops,PyData.strOk o.kind = true /\ ∀ x ∈ o.words,PyData.strOk x = true) : SeqAt.shaped (.tuple (ops.map Opr.py)) = true := by
 refine xW (n := 2) (by omega) (fun d hd => ?_) fun d hd => ?_
 ·obtain ⟨o,ho,rfl⟩ := List.mem_map.mp hd
  obtain ⟨h1,h2⟩ := hk o ho
  simp only [Opr.py,PyData.canLay0,PyData.canLayAll0,h1,Bool.and_true,Bool.true_and]
  exact iU fun d hd => by
   obtain ⟨x,hx,rfl⟩ := List.mem_map.mp hd
   simp [PyData.canLay0,h2 x hx]
 ·obtain ⟨o,ho,rfl⟩ := List.mem_map.mp hd
  have : PyData.depthAll (o.words.map PyData.str) <= 0 := kE fun d hd => by
   obtain ⟨x,hx,rfl⟩ := List.mem_map.mp hd
   simp [PyData.depth]
  simp only [Opr.py,PyData.depth,PyData.depthAll]
  omega
theorem OpsOk.strs {ops : List Opr} (O : OpsOk ops) : ∀ o ∈ ops,PyData.strOk o.kind = true /\ ∀ x ∈ o.words,PyData.strOk x = true := fun o ho => ⟨iM _ (O.ok o ho).kd,fun x hx => rT x ((O.ok o ho).w0 x hx)⟩
theorem aA0 {h : Hh} {ops : List Opr} (O : OpsOk ops) : eqW (.tup (ops.map Opr.enc)) (.tup []) h = .ok (.bl ops.isEmpty) h := by
 have e1 : toP h bG (.tup (ops.map Opr.enc)) = some (.tuple (ops.map Opr.py)) := aIz
 have e2 : toP h bG (.tup []) = some (.tuple []) := rfl
 have s2 : SeqAt.shaped (.tuple []) = true := by decide +kernel
 have e3 : PyData.eqv (.tuple (ops.map Opr.py)) (.tuple []) = ops.isEmpty := by cases ops <;> simp [PyData.eqv,PyData.eqvAll]
 simp only [eqW,eqD,e1,e2,aD5 O.strs,s2,Bool.and_self,if_true,e3]
end PV
end
section
namespace PV
open PySem PySem.Spec PyProof.Rows L2
/-- the next tree on a side (true: left),by its child's number -/
def nxt (ops : List Opr) (side : Bool) : Tr -> Option (Nat × Tr)
 | .nd n ts => match ops[n]? with
  | some o => if (if side then o.L else o.Rr) = true then (ts[if side then 0 else ts.length - 1]?).map fun t => (if side then 0 else ts.length - 1,t) else none
  | none => none
 | _ => none
theorem aEO {ts : List Tr} {t : Tr} {c : Nat} (h : ts[c]? = some t) : t.depth <= Tr.depths ts := (oG.mp (Nat.le_refl _)) t (List.mem_of_getElem? h)
theorem nW {ops : List Opr} {side : Bool} {t t' : Tr} {c : Nat} (h : nxt ops side t = some (c,t')) : ∃ n ts o,t = .nd n ts /\ ops[n]? = some o /\ (if side then o.L else o.Rr) = true /\ c = (if side then 0 else ts.length - 1) /\ ts[c]? = some t' := by
 cases t with
 | leaf s => cases h
 | grp t => cases h
 | nd n ts =>
  simp only [nxt] at h
  cases eo : ops[n]? with
  | none => rw [eo] at h; cases h
  | some o =>
   rw [eo] at h
   simp only at h
   by_cases hs : (if side then o.L else o.Rr) = true
   ·rw [if_pos hs] at h
    obtain ⟨x,hx,hp⟩ := Option.map_eq_some_iff.mp h
    cases hp
    exact ⟨n,ts,o,rfl,eo,hs,rfl,hx⟩
   ·rw [if_neg hs] at h; cases h
theorem zZ {ops : List Opr} {side : Bool} {t t' : Tr} {c : Nat} (h : nxt ops side t = some (c,t')) : t'.depth < t.depth := by
 obtain ⟨n,ts,o,rfl,_,_,_,hc⟩ := nW h
 have := aEO hc
 simp only [Tr.depth]
 omega
/-- whether a node with an open hole -/
theorem aDM {ops : List Opr} {p : Str -> Prop} {side : Bool} {n : Nat} {ts : List Tr} {o : Opr} (eo : ops[n]? = some o) (ok : (Tr.nd n ts).ok ops p) : (nxt ops side (.nd n ts)).isSome = (if side then o.L else o.Rr) := by
 obtain ⟨⟨o',eo',hl⟩,_⟩ := ok
 rw [eo] at eo'; cases eo'
 simp only [nxt]
 rw [eo]
 simp only
 by_cases hs : (if side then o.L else o.Rr) = true
 ·rw [if_pos hs,hs]
  have hpos : 0 < ts.length := by
   rw [hl]
   unfold Opr.holes
   cases side
   ·simp only [Bool.false_eq_true,if_false] at hs
    simp [hs]
   ·simp only [if_true] at hs
    simp [hs]
    omega
  cases side
  ·have : ts.length - 1 < ts.length := by omega
   simp [List.getElem?_eq_getElem this]
  ·simp [List.getElem?_eq_getElem hpos]
 ·rw [if_neg hs]
  simp only [Bool.not_eq_true] at hs
  rw [hs]
  rfl
def aAz (pl : List Int) : D := .tup (pl.map .int)
@[simp] theorem aFT {pl : List Int} : (aAz pl).isTl = false := by unfold aAz; rfl
@[simp] theorem aNe {pl : List Int} {h : Hh} : aU (aAz pl) h = (aAz pl,h) := oC aFT
theorem aI8 {h : Hh} {s : Str} : gP (.str s) (.ty "str") h = .ok (.bl true) h := by simp only [gP,aAC,tyD]; rfl
def Tr.isLeaf : Tr -> Bool
 | .leaf _ => true
 | _ => false
/-- what a call leaves of the caller's cells,its own apart -/
theorem Up.loc {is js : List Nat} {h e h' : Hh} (u : Up is (h ++ e) h') (hi : ∀ i ∈ is,i < h.length -> i ∈ js) : Ux js h h' := by
 have hl := u.len
 rw [List.length_append] at hl
 refine ⟨by omega,fun j hj hm => ?_⟩
 rw [u.same j fun z => hm (hi j z hj),List.getElem?_append_left hj]
theorem Ux.loc {is js : List Nat} {h e h' : Hh} (u : Ux is (h ++ e) h') (hi : ∀ i ∈ is,i < h.length -> i ∈ js) : Ux js h h' := by
 have hl := u.len
 rw [List.length_append] at hl
 refine ⟨by omega,fun j hj hm => ?_⟩
 rw [u.same j (by rw [List.length_append]; omega) fun z => hm (hi j z hj),List.getElem?_append_left hj]
end PV
end
section
namespace PV
open PySem PySem.Spec PyProof.Rows L2
end PV
end
section
namespace PV
open PySem PySem.Spec PyProof.Rows L2
/-- what a def that returns a list of its own leaves -/
def Ret (h : Hh) (ws : List D) (r : R D) : Prop := ∃ w h',r = .ok w h' /\ Ux [] h h' /\ (w = .tl ws \/ ∃ i,w = .ref i /\ h.length <= i /\ h'[i]? = some (.lst ws))
theorem Ret.tl {h : Hh} {ws : List D} : Ret h ws (.ok (.tl ws) h) := ⟨_,_,rfl,⟨Nat.le_refl _,fun _ _ _ => rfl⟩, .inl rfl⟩
theorem xE {α : Type} {f : D -> Bool} : ∀ {ws : List D},aK toB (ws.map fun w => D.bl (f w)) = some (ws.map f)
 | [] => rfl
 | w :: ws => by
  have := xE (α := α) (f := f) (ws := ws)
  simp only [List.map_cons,aK,toB,this]
section
variable {mi : M Src} {t : Tg} {me : M D} {vs : List Nat} {σ : Sg} {h h1 : Hh} {src : Src} {ws : List D}
theorem aEl (g : D -> Bool) (hi : mi σ h = .ok src h1) (hs : ∀ i,src i h1 = some ws[i]?) (hl : ws.length < sizeLine) (hb : ∀ w ∈ ws,∃ σ1,t.set w (cG σ vs) h1 = some σ1 /\ me σ1 h1 = .ok (.bl (g w)) h1) :
  mF1 jD (mLc mi t (fun _ h => .ok true h) me vs) σ h = .ok (.bl (ws.all g)) h1 := by
 have := aBg (mi := mi) (t := t) (me := me) (vs := vs) (σ := σ) (fun w => .bl (g w)) hi hs hl fun w hw => by
  obtain ⟨σ1,e1,e2⟩ := hb w hw
  exact ⟨σ1,e1,e2,rfl⟩
 rw [tN,this,R.bind_ok]
 simp only [jD,asL,xE (α := D)]
 congr 2
 simp [List.all_map,Function.comp_def]
end
section
variable {κ : Type} [DecidableEq κ] {K : KKind κ} {mi mi1 : M Src} {t t1 : Tg} {mk mv : M D} {vs vs1 : List Nat} {σ : Sg} {h h1 : Hh} {src : Src} {ws : List D}
def hO (acc : List (κ × D)) (ps : List (κ × D)) : List (κ × D) := ps.foldl (fun acc p => kB acc p.1 p.2) acc
theorem aBw {kvs : List (κ × D)} {k : κ} {w : D} : (kB kvs k w).length <= kvs.length + 1 := by
 unfold kB
 split <;> simp
theorem xM : ∀ {ps acc : List (κ × D)},(hO acc ps).length <= acc.length + ps.length
 | [],acc => by simp [hO]
 | p :: ps,acc => by
  have h1 := xM (ps := ps) (acc := kB acc p.1 p.2)
  have h2 := aBw (kvs := acc) (k := p.1) (w := p.2)
  simp only [hO,List.foldl_cons,List.length_cons] at h1 ⊢
  omega
theorem aDT {acc ps qs : List (κ × D)} : hO acc (ps ++ qs) = hO (hO acc ps) qs := by simp [hO]
/-- {k: v for t in ws for t1 in us(w)} -/
theorem aFN (us : D -> List D) (g : D -> D -> κ × D) (B : Nat) (hi : mi σ h = .ok src h1) (hs : ∀ i,src i h1 = some ws[i]?) (hB : ∀ w ∈ ws,(us w).length <= B) (hl : ws.length * B + B < sizeLine) (hl2 : ws.length < sizeLine)
  (hb : ∀ w ∈ ws,∃ σ1 src1,t.set w (cG σ vs) h1 = some σ1 /\ mi1 σ1 h1 = .ok src1 h1 /\ (∀ j,src1 j h1 = some (us w)[j]?) /\
   ∀ u ∈ us w,∃ σ2 y,t1.set u (cG σ1 vs1) h1 = some σ2 /\ mk σ2 h1 = .ok y h1 /\ K.key y = some (g w u).1 /\ mv σ2 h1 = .ok (g w u).2 h1 /\ (g w u).2.isTl = false) :
  rP K mi t (fun _ h => .ok true h) mi1 t1 (fun _ h => .ok true h) mk mv vs vs1 σ h = .ok (.ref h1.length) (h1 ++ [K.cell (hO [] (ws.flatMap fun w => (us w).map (g w)))]) := by
 unfold rP
 rw [hi,R.bind_ok]
 rw [rM (src := src) (t := t) (σ0 := cG σ vs) (h := h1) (ws := ws) (fun acc w => hO acc ((us w).map (g w))) (fun acc i => acc.length <= i * B) hs (fun i w acc e hp => by
   obtain ⟨σ1,src1,e1,em,es,hin⟩ := hb w (List.mem_of_getElem? e)
   have hi := aF e
   have hbb := hB w (List.mem_of_getElem? e)
   have hmul : i * B <= ws.length * B := Nat.mul_le_mul_right _ (by omega)
   refine ⟨?_,σ1,e1, ?_⟩
   ·have h1 := xM (acc := acc) (ps := (us w).map (g w))
    rw [List.length_map] at h1
    have : (i + 1) * B = i * B + B := by rw [Nat.add_mul]; omega
    omega
   ·simp only [noX,R.bind_ok,if_true,em]
    have key := rM (src := src1) (t := t1) (σ0 := cG σ1 vs1) (h := h1) (ws := us w) (body := mR K (fun _ h => .ok true h) mk mv) (fun a u => kB a (g w u).1 (g w u).2) (fun a i => a.length <= acc.length + i) es (fun i u a e hp => by
      obtain ⟨σ2,y,e1,ek,ey,ev,nt⟩ := hin u (List.mem_of_getElem? e)
      have hi := aF e
      refine ⟨Nat.le_trans aBw (by omega),σ2,e1, ?_⟩
      have ha : a.length < sizeLine := by omega
      simp only [mR,noX,R.bind_ok,if_true,ek,ev,ey,ha,oC nt]) dP 0 acc (by simp) (by omega) (by unfold dP; have : sizeLine = 16777216 := rfl; omega)
    rw [key,List.drop_zero]
    simp [hO,List.foldl_map]) dP 0 [] (by simp) (by omega) (by unfold dP; have : sizeLine = 16777216 := rfl; omega)]
 rw [R.bind_ok,List.drop_zero]
 congr 4
 generalize ([] : List (κ × D)) = a0
 clear hi hs hB hl hl2 hb
 induction ws generalizing a0 with
 | nil => rfl
 | cons w ws ih => simp only [List.foldl_cons,List.flatMap_cons,aDT,ih]
end
def tE (acc : List Str) (x : Str) : List Str := if x ∈ acc then acc else acc ++ [x]
def aAJ (xs : List Str) : List Str := xs.foldl tE []
def gY (ops : List Opr) : List Str := ops.flatMap Opr.words
theorem aFB {acc : List Str} {x y : Str} : y ∈ tE acc x ↔ y ∈ acc \/ y = x := by
 unfold tE
 split
 ·rename_i h
  constructor
  ·exact .inl
  ·rintro (h' | rfl)
   ·exact h'
   ·exact h
 ·simp
theorem aAk {xs : List Str} {y : Str} : y ∈ aAJ xs ↔ y ∈ xs := by
 have : ∀ (xs acc : List Str),y ∈ xs.foldl tE acc ↔ y ∈ acc \/ y ∈ xs := by
  intro xs
  induction xs with
  | nil => simp
  | cons x xs ih =>
   intro acc
   rw [List.foldl_cons,ih,aFB]
   simp [or_assoc]
 show y ∈ xs.foldl tE [] ↔ _
 simpa using this xs []
def jX (xs : List Str) : List (Key × D) := (aAJ xs).map fun x => (.inr x, .bl true)
theorem aH2 {acc : List Str} {x : Str} : kB (acc.map fun x => ((.inr x : Key),D.bl true)) (.inr x) (.bl true) = (tE acc x).map fun x => ((.inr x : Key),D.bl true) := by
 unfold kB tE
 by_cases h : x ∈ acc
 ·have e : (acc.map fun x => ((.inr x : Key),D.bl true)).any (fun kv => decide (kv.1 = .inr x)) = true := by
   rw [List.any_eq_true]
   exact ⟨(.inr x, .bl true),List.mem_map.mpr ⟨x,h,rfl⟩,by simp⟩
  rw [if_pos e,if_pos h,List.map_map]
  congr 1
  funext y
  by_cases hy : y = x
  ·simp [hy]
  ·simp [hy]
 ·have e : (acc.map fun x => ((.inr x : Key),D.bl true)).any (fun kv => decide (kv.1 = .inr x)) = false := by
   rw [List.any_eq_false]
   rintro p hp
   obtain ⟨y,hy,rfl⟩ := List.mem_map.mp hp
   have : y ≠ x := fun z => h (z ▸ hy)
   simpa using this
  rw [if_neg (by simp [e]),if_neg h]
  simp
theorem aBv (xs : List Str) : hO [] (xs.map fun x => ((.inr x : Key),D.bl true)) = jX xs := by
 unfold hO jX aAJ
 rw [List.foldl_map]
 have : ∀ (xs acc : List Str),xs.foldl (fun acc p => kB acc (.inr p) (.bl true)) (acc.map fun x => ((.inr x : Key),D.bl true)) = (xs.foldl tE acc).map fun x => ((.inr x : Key),D.bl true) := by
  intro xs
  induction xs with
  | nil => simp
  | cons x xs ih =>
   intro acc
   rw [List.foldl_cons,aH2,ih]
   rfl
 exact this xs []
theorem aDy {xs : List Str} {x : Str} : (eQ (jX xs) (.inr x)).isSome = decide (x ∈ xs) := by
 unfold eQ jX
 rw [Option.isSome_map]
 by_cases h : x ∈ xs
 ·rw [decide_eq_true h,List.find?_isSome]
  exact ⟨(.inr x, .bl true),List.mem_map.mpr ⟨x,aAk.mpr h,rfl⟩,by simp⟩
 ·rw [decide_eq_false h,Bool.eq_false_iff]
  intro z
  rw [List.find?_isSome] at z
  obtain ⟨p,hp,e⟩ := z
  obtain ⟨y,hy,rfl⟩ := List.mem_map.mp hp
  simp at e
  subst e
  exact h (aAk.mp hy)
theorem aGg {h : Hh} {i : Nat} {xs : List Str} {x : Str} (e : h[i]? = some (.dK (jX xs))) : niW (.str x) (.ref i) h = .ok (.bl (!decide (x ∈ xs))) h := by
 have : jG h (.ref i) (.str x) = some (eQ (jX xs) (.inr x)) := by simp [jG,e,toK]
 simp only [niW,inO,this,aDy]
theorem aC8 {h : Hh} {z : Str} (j : Nat) : pQ z j h = some (z.cps.toList.map fun c => D.str ⟨#[c]⟩)[j]? := by
 simp [pQ,List.getElem?_map]
def okC (c : Nat) : Bool := decide (32 < c) && decide (c <= 126)
/-- a token -/
def uM (z : Str) : Bool := decide (1 <= z.length) && decide (z.length <= 8) && z.cps.toList.all okC
theorem lt1 {a b : Nat} : decide ([a] < [b]) = decide (a < b) := by
 rw [decide_eq_decide,List.cons_lt_cons_iff]
 simp
def sP (z : Str) : List D := z.cps.toList.map fun c => D.str ⟨#[c]⟩
theorem aAf {z : Str} : (sP z).length = z.length := by simp [sP,Str.length]
theorem aGa {h : Hh} {z : Str} (hl : z.length <= 16777216) : bW (.str z) h = .ok (.int z.length) h := by
 have : z.length <= sizeLine := hl
 simp [bW,asL,asT,this]
end PV
end
section
namespace PV
open PySem PySem.Spec PyProof.Rows L2
mutual
def Tr.nds : Tr -> Nat
 | .leaf _ => 0
 | .grp t => t.nds
 | .nd _ ts => Tr.ndss ts + 1
def Tr.ndss : List Tr -> Nat
 | [] => 0
 | t :: ts => t.nds + Tr.ndss ts
end
mutual
def Tr.grs : Tr -> Nat
 | .leaf _ => 0
 | .grp t => t.grs + 1
 | .nd _ ts => Tr.grss ts
def Tr.grss : List Tr -> Nat
 | [] => 0
 | t :: ts => t.grs + Tr.grss ts
end
theorem zY : ∀ {ts : List Tr} {t : Tr},Tr.ndss (ts ++ [t]) = Tr.ndss ts + t.nds
 | [],t => by simp [Tr.ndss]
 | u :: ts,t => by simp only [List.cons_append,Tr.ndss,zY (ts := ts)]; omega
theorem zS : ∀ {ts : List Tr} {t : Tr},Tr.grss (ts ++ [t]) = Tr.grss ts + t.grs
 | [],t => by simp [Tr.grss]
 | u :: ts,t => by simp only [List.cons_append,Tr.grss,zS (ts := ts)]; omega
/-- a tree drawn: at most a nodes,b groups -/
def Tr.okG (ops : List Opr) (a b : Nat) (t : Tr) : Prop := t.ok ops (fun s => s ∈ dW) /\ t.nds <= a /\ t.grs <= b
def Tr.sm (t : Tr) : Prop := t.nds <= 1000 /\ t.grs <= 1000
theorem Tr.sm.grp {t : Tr} (h : (Tr.grp t).sm) : t.sm := by
 unfold Tr.sm at h ⊢
 simp only [Tr.nds,Tr.grs] at h
 omega
def oL : List Str -> List (List Str) -> List Str
 | [],_ => []
 | w :: ws,[] => w :: oL ws []
 | w :: ws,p :: ps => w :: (p ++ oL ws ps)
def aDL (o : Option Opr) (ps : List (List Str)) : List Str := match o with
 | some o => if o.L = true then ps.headD [] ++ oL o.words ps.tail else oL o.words ps
 | none => []
mutual
def Tr.toks (ops : List Opr) : Tr -> List Str
 | .leaf s => [s]
 | .grp t => ("(" : Str) :: (t.toks ops ++ [(")" : Str)])
 | .nd n ts => aDL ops[n]? (Tr.toksL ops ts)
def Tr.toksL (ops : List Opr) : List Tr -> List (List Str)
 | [] => []
 | t :: ts => t.toks ops :: Tr.toksL ops ts
end
theorem aAj {ops : List Opr} : ∀ ts : List Tr,Tr.toksL ops ts = ts.map (Tr.toks ops)
 | [] => rfl
 | t :: ts => by simp only [Tr.toksL,List.map_cons,aAj ts]
mutual
def Tr.py : Tr -> PyData
 | .leaf s => .str s
 | .grp t => .tuple [.str "(",t.py]
 | .nd n ts => .tuple (.int n :: Tr.pys ts)
def Tr.pys : List Tr -> List PyData
 | [] => []
 | t :: ts => t.py :: Tr.pys ts
end
theorem aF3 : ∀ x ∈ dW,PyData.strOk x = true := by decide +kernel
theorem aEF : ∀ x ∈ dW,x.length <= 8 := by decide +kernel
/-- plain data: its depth,its weight -/
structure PS (n w : Nat) (d : PyData) : Prop where
 lay : d.canLay0 = true
 sh : d.showable = true
 lv : d.leavesShort 24 = true
 dp : d.depth <= n
 wt : d.weight <= w
theorem PS.mono {n w n' w' : Nat} {d : PyData} (p : PS n w d) (hn : n <= n') (hw : w <= w') : PS n' w' d := ⟨p.lay,p.sh,p.lv,Nat.le_trans p.dp hn,Nat.le_trans p.wt hw⟩
theorem PS.pn {n w : Nat} {d : PyData} (p : PS n w d) : PN n (26 * w + 24) d := by
 refine ⟨p.lay,p.sh,p.dp, ?_⟩
 have h1 := PyData.shown_le 24 (by decide) d p.lv
 have h2 := Nat.mul_le_mul_left 26 p.wt
 omega
theorem aH0 : PS 0 0 .none := ⟨rfl,rfl,rfl,by simp [PyData.depth],by simp [PyData.weight]⟩
theorem aHY {b : Bool} : PS 0 0 (.bool b) := ⟨rfl,rfl,rfl,by simp [PyData.depth],by simp [PyData.weight]⟩
theorem aJx {x : Str} {w : Nat} (h : PyData.strOk x = true) (hw : x.length <= w) : PS 0 w (.str x) := by
 refine ⟨by simp [PyData.canLay0,h],rfl, ?_,by simp [PyData.depth],by simpa [PyData.weight,Str.length] using hw⟩
 simp only [PyData.leavesShort,List.all_eq_true,decide_eq_true_eq]
 intro c hc
 simp only [PyData.strOk,Array.all_eq_true'] at h
 have := h c (by simpa using hc)
 simp at this
 omega
theorem aJw {i : Nat} (h : i < 1000000) : PS 0 20 (.int i) := by
 have p := aJo (i := i) (by omega)
 refine ⟨rfl,p.sh, ?_,by simp [PyData.depth], ?_⟩
 ·simp only [PyData.leavesShort,decide_eq_true_eq]
  have := p.ln
  omega
 ·simp only [PyData.weight]
  split
  ·omega
  ·rw [Int.natAbs_natCast]
   have := log2_lt (n := i) (k := 20) (by omega) (by decide)
   omega
/-- a tuple by its parts -/
theorem aHZ {n w1 w2 : Nat} {d : PyData} {ds : List PyData} (h1 : PS n w1 d) (h2 : PS (n + 1) w2 (.tuple ds)) : PS (n + 1) (w1 + 1 + w2) (.tuple (d :: ds)) := by
 have a1 := h1.dp
 have a2 := h2.dp
 have b1 := h1.wt
 have b2 := h2.wt
 have c1 := h2.lay
 have c2 := h2.sh
 have c3 := h2.lv
 simp only [PyData.depth,PyData.weight,PyData.canLay0,PyData.showable,PyData.leavesShort] at a2 b2 c1 c2 c3
 refine ⟨?_, ?_, ?_, ?_, ?_⟩
 ·simp [PyData.canLay0,PyData.canLayAll0,h1.lay,c1]
 ·simp [PyData.showable,PyData.showableAll,h1.sh,c2]
 ·simp [PyData.leavesShort,PyData.leavesShortAll,h1.lv,c3]
 ·simp only [PyData.depth,PyData.depthAll]; omega
 ·simp only [PyData.weight,PyData.weightAll]; omega
theorem aBs {n : Nat} : PS (n + 1) 0 (.tuple []) := ⟨rfl,rfl,rfl,by simp [PyData.depth,PyData.depthAll],by simp [PyData.weight,PyData.weightAll]⟩
theorem aE0 : ∀ x ∈ kZ,x.length <= 8 := by decide +kernel
end PV
end
section
namespace PV
open PySem PySem.Spec PyProof.Rows L2
def gC (f : Nat -> Bool) (w : D) : Bool := match w with
 | .str y => match y.cps.toList with
  | [c] => f c
  | _ => false
 | _ => false
theorem aAe {z : Str} {f : Nat -> Bool} : (sP z).all (gC f) = z.cps.toList.all f := by
 unfold sP
 rw [List.all_map]
 rfl
theorem aAg {z : Str} {w : D} (h : w ∈ sP z) : ∃ c,c ∈ z.cps.toList /\ w = .str ⟨#[c]⟩ := by
 obtain ⟨c,hc,rfl⟩ := List.mem_map.mp h
 exact ⟨c,hc,rfl⟩
theorem aC0 {m : M D} {σ : Sg} {h h1 : Hh} {z : Str} (e : m σ h = .ok (.str z) h1) : miE m σ h = .ok (pQ z) h1 := by simp [miE,e,lD,asT,asL]
def idC : Str := "abcdefghijklmnopqrstuvwxyz0123456789"
def iW (c : Nat) : Bool := decide (c ∈ idC.cps.toList)
def dI (ops : List Opr) (z : Str) : Bool := uM z && z.cps.toList.all iW && !decide (z ∈ gY ops)
theorem aF0 {h : Hh} {c : Cl} (lim : c.lim h.length = true) (nl : ∀ ws,c ≠ .lst ws) : gcR h (.ok (.ref h.length) (h ++ [c])) = .ok (.ref h.length) (h ++ [c]) := by
 show gc h _ _ = _
 unfold gc
 have ok : iL h.length h (h ++ [c]) = true := pZ (by simp) fun j d hj e => .inl (by rw [List.getElem?_append_left hj] at e; exact e)
 rw [if_pos ok,if_neg (by simp)]
 have e : (h ++ [c])[h.length]? = some c := by simp
 simp only [e]
 cases c with
 | lst ws => exact absurd rfl (nl ws)
 | dK kvs => simp only [lim,Nat.le_refl,and_self,if_true]; simp
 | dT kvs => simp only [lim,Nat.le_refl,and_self,if_true]; simp
 | ins c fs => simp only [lim,Nat.le_refl,and_self,if_true]; simp
theorem aEM {n : Nat} {xs : List Str} : Cl.lim n (.dK (jX xs)) = true := by
 unfold jX
 simp only [Cl.lim]
 induction aAJ xs with
 | nil => rfl
 | cons x xs ih => simp only [List.map_cons,gQ,aBi,ih,Bool.and_self]
def usW (w : D) : List D := match w with
 | .tup [_, .tup ws] => ws
 | _ => []
def gW (_ u : D) : Key × D := match u with
 | .str x => (.inr x, .bl true)
 | _ => (.inl 0, .non)
theorem zN {o : Opr} : usW o.enc = o.words.map .str := rfl
theorem aEj {ops : List Opr} (O : OpsOk ops) {x : Str} (h : x ∈ gY ops) : x ∈ kZ := by
 obtain ⟨o,ho,hx⟩ := List.mem_flatMap.mp h
 exact (O.ok o ho).w0 x hx
theorem aDB : ∀ x ∈ dW,x ∉ kZ := by decide +kernel
theorem aEG : ∀ x ∈ dW,(uM x && x.cps.toList.all iW) = true := by decide +kernel
theorem aDC {ops : List Opr} (O : OpsOk ops) {x : Str} (h : x ∈ dW) : dI ops x = true := by
 unfold dI
 rw [aEG x h,decide_eq_false fun z => aDB x h (aEj O z)]
 rfl
end PV
end
section
namespace PV
open PySem PySem.Spec PyProof.Rows L2
/-- a value whose type is known -/
def Ty (h : Hh) : D -> Prop
 | .non => True
 | .bl _ => True
 | .int _ => True
 | .tup _ => True
 | .str x => x.length <= 1000 /\ PyData.strOk x = true
 | .ref j => (∃ ws,h[j]? = some (.lst ws)) \/ ∃ kvs,h[j]? = some (.dK kvs)
 | _ => False
theorem Ty.ux {is : List Nat} {h h' : Hh} {w : D} (t : Ty h w) (u : Ux is h h') (hn : ∀ i,w = .ref i -> i ∉ is) : Ty h' w := by
 cases w <;> first
  | exact t
  | (rename_i j
     rcases t with ⟨ws,e⟩ | ⟨kvs,e⟩
     ·exact .inl ⟨ws,u.get e (hn j rfl)⟩
     ·exact .inr ⟨kvs,u.get e (hn j rfl)⟩)
/-- nested at most n bG; its lists are none of the cells bad -/
def Nv (bad : List Nat) (h : Hh) : Nat -> D -> Prop
 | 0,_ => False
 | n + 1,w => match w with
  | .non => True
  | .bl _ => True
  | .int i => ∃ k : Nat,i = k /\ k < 1000
  | .str x => PyData.strOk x = true /\ x.length <= 20
  | .tup ws => ws.length <= 8 /\ ∀ x ∈ ws,Nv bad h n x
  | .ref j => j ∉ bad /\ ∃ ws,h[j]? = some (.lst ws) /\ ws.length <= 8 /\ ∀ x ∈ ws,Nv bad h n x
  | _ => False
theorem Nv.ux {bad is : List Nat} {h h' : Hh} (u : Ux is h h') (hs : ∀ i ∈ is,i < h.length -> i ∈ bad) : ∀ {n : Nat} {w : D},Nv bad h n w -> Nv bad h' n w
 | 0,w,v => v
 | n + 1,w,v => by
  cases w <;> first
   | exact v
   | (rename_i ws
      exact ⟨v.1,fun x hx => Nv.ux u hs (v.2 x hx)⟩)
   | (rename_i j
      obtain ⟨hj,ws,e,hl,ha⟩ := v
      exact ⟨hj,ws,u.get e fun z => hj (hs j z (aF e)),hl,fun x hx => Nv.ux u hs (ha x hx)⟩)
theorem Nv.mono {bad bad' : List Nat} {h : Hh} (hs : ∀ i ∈ bad',i ∈ bad) : ∀ {n : Nat} {w : D},Nv bad h n w -> Nv bad' h n w
 | 0,w,v => v
 | n + 1,w,v => by
  cases w <;> first
   | exact v
   | (rename_i ws
      exact ⟨v.1,fun x hx => Nv.mono hs (v.2 x hx)⟩)
   | (rename_i j
      obtain ⟨hj,ws,e,hl,ha⟩ := v
      exact ⟨fun z => hj (hs j z),ws,e,hl,fun x hx => Nv.mono hs (ha x hx)⟩)
theorem Nv.up {bad : List Nat} {h : Hh} : ∀ {n : Nat} {w : D},Nv bad h n w -> Nv bad h (n + 1) w
 | 0,w,v => v.elim
 | n + 1,w,v => by
  cases w <;> first
   | exact v
   | (rename_i ws
      exact ⟨v.1,fun x hx => Nv.up (v.2 x hx)⟩)
   | (rename_i j
      obtain ⟨hj,ws,e,hl,ha⟩ := v
      exact ⟨hj,ws,e,hl,fun x hx => Nv.up (ha x hx)⟩)
theorem Nv.ty {bad : List Nat} {h : Hh} {n : Nat} {w : D} (v : Nv bad h n w) : Ty h w := by
 cases n with
 | zero => exact v.elim
 | succ n =>
  cases w <;> first
   | trivial
   | exact ⟨by have := v.2; omega,v.1⟩
   | exact v.elim
   | (obtain ⟨_,ws,e,_⟩ := v; exact .inl ⟨ws,e⟩)
theorem Nv.tup {bad : List Nat} {h : Hh} {n : Nat} {ws : List D} (v : Nv bad h (n + 1) (.tup ws)) : ws.length <= 8 /\ ∀ x ∈ ws,Nv bad h n x := v
theorem Nv.lim {bad : List Nat} {h : Hh} : ∀ {n : Nat} {w : D},Nv bad h n w -> D.lim h.length w = true
 | 0,w,v => v.elim
 | n + 1,w,v => by
  cases w <;> first
   | rfl
   | exact v.elim
   | (rw [yL]; exact rN fun x hx => Nv.lim (v.2 x hx))
   | (obtain ⟨_,ws,e,_⟩ := v; rw [aHN]; exact decide_eq_true (aF e))
theorem Nv.isTl {bad : List Nat} {h : Hh} {n : Nat} {w : D} (v : Nv bad h n w) : w.isTl = false := by
 cases n with
 | zero => exact v.elim
 | succ n => cases w <;> first | rfl | exact v.elim
end PV
end
section
namespace PV
open PySem PySem.Spec PyProof.Rows L2
theorem sIx_nat {l d n : Nat} (h : n <= l) : HT.sIx l d (some (n : Int)) = n := by
 rw [HT.sIx_nat]
 omega
/-- the values of a law: plain ones,and the empty dict -/
def Vg (bad : List Nat) (h : Hh) (w : D) : Prop := Nv bad h 5 w \/ ∃ j,w = .ref j /\ j ∉ bad /\ h[j]? = some (.dK [])
theorem Vg.ux {bad is : List Nat} {h h' : Hh} {w : D} (v : Vg bad h w) (u : Ux is h h') (hs : ∀ i ∈ is,i < h.length -> i ∈ bad) : Vg bad h' w := by
 rcases v with v | ⟨j,rfl,hj,e⟩
 ·exact .inl (v.ux u hs)
 ·exact .inr ⟨j,rfl,hj,u.get e fun z => hj (hs j z (aF e))⟩
theorem Vg.isTl {bad : List Nat} {h : Hh} {w : D} (v : Vg bad h w) : w.isTl = false := by
 rcases v with v | ⟨j,rfl,hj,e⟩
 ·exact v.isTl
 ·rfl
end PV
end
section
namespace PV
open PySem PySem.Spec PyProof.Rows L2
mutual
theorem aGc {n m : Nat} (hn : n <= m) : ∀ {w : D},D.lim n w = true -> D.lim m w = true
 | .non,_ => rfl
 | .bl _,_ => rfl
 | .int _,_ => rfl
 | .str _,_ => rfl
 | .ty _,_ => rfl
 | .fn _,_ => rfl
 | .cls _,_ => rfl
 | .ref i,h => by simp only [D.lim,decide_eq_true_eq] at h ⊢; omega
 | .tup ws,h => by simp only [D.lim] at h ⊢; exact lims_mono hn h
 | .kt ws,h => by simp only [D.lim] at h ⊢; exact lims_mono hn h
 | .tl ws,h => by simp only [D.lim] at h ⊢; exact lims_mono hn h
 | .fl ws,h => by simp only [D.lim] at h ⊢; exact lims_mono hn h
 | .xc _ _ ws,h => by simp only [D.lim] at h ⊢; exact lims_mono hn h
theorem lims_mono {n m : Nat} (hn : n <= m) : ∀ {ws : List D},D.lims n ws = true -> D.lims m ws = true
 | [],_ => rfl
 | w :: ws,h => by
  simp only [D.lims,Bool.and_eq_true] at h ⊢
  exact ⟨aGc hn h.1,lims_mono hn h.2⟩
end
@[simp] theorem aMJ {b : MS} {hs : List Hdl} {σ : Sg} {h : Hh} : aLb b hs σ h = match b σ h with
 | .exc c fs σ1 h1 => if 100 <= c then rR hs c fs σ1 h1 else .bad
 | r => r := by rfl
@[simp] theorem aMG {c : Nat} {fs : List (Str × D)} {σ : Sg} {h : Hh} : rR [] c fs σ h = .exc c fs σ h := id rfl
@[simp] theorem aNz {L : List Nat} {i : Nat} {ms : MS} {r : List Hdl} {c : Nat} {fs : List (Str × D)} {σ : Sg} {h : Hh} : rR ((L,some i,ms) :: r) c fs σ h = if L.contains c = true then (ms (σ.set i (some (aGV c fs))) h).unset i else rR r c fs σ h := id rfl
@[simp] theorem aNA {L : List Nat} {ms : MS} {r : List Hdl} {c : Nat} {fs : List (Str × D)} {σ : Sg} {h : Hh} : rR ((L,none,ms) :: r) c fs σ h = if L.contains c = true then (ms σ h).noexc else rR r c fs σ h := id rfl
@[simp] theorem aNn {i : Nat} {σ : Sg} {h : Hh} : (RT.nx σ h).unset i = .nx (σ.set i none) h := id rfl
@[simp] theorem aMk {i : Nat} {w : D} {h : Hh} : (RT.ret w h).unset i = .ret w h := id rfl
@[simp] theorem aMK {σ : Sg} {h : Hh} : (RT.nx σ h).noexc = .nx σ h := id rfl
@[simp] theorem aL3 {w : D} {h : Hh} : (RT.ret w h).noexc = .ret w h := id rfl
@[simp] theorem aNT {c : Nat} {fs : List (Str × D)} : aGV c fs = .xc c (fs.map (·.1)) (fs.map (·.2)) := id rfl
@[simp] theorem aNh {c : Nat} {ks : List Str} {ws : List D} {h : Hh} : aU (.xc c ks ws) h = (.xc c ks ws,h) := id rfl
@[simp] theorem aMa {c : Nat} {h : Hh} : aU (.cls c) h = (.cls c,h) := id rfl
@[simp] theorem aNg {c : String} {h : Hh} : aU (.ty c) h = (.ty c,h) := id rfl
@[simp] theorem aMA {a b : M D} {σ : Sg} {h : Hh} : jP a b σ h = (a σ h).bind fun x h1 => match x with
 | .bl true => b σ h1
 | .bl false => .ok (.bl false) h1
 | _ => .bad := id rfl
@[simp] theorem aNx {a b : M D} {σ : Sg} {h : Hh} : aMD a b σ h = (a σ h).bind fun x h1 => match x with
 | .bl true => .ok (.bl true) h1
 | .bl false => b σ h1
 | _ => .bad := id rfl
@[simp] theorem aN1 {n c : Nat} {ks : List Str} {ws : List D} : D.lim n (.xc c ks ws) = D.lims n ws := by simp only [D.lim]
@[simp] theorem aLa {c : Nat} {ks : List Str} {ma : M (List D)} {σ : Sg} {h : Hh} : aHO c ks ma σ h = (ma σ h).then σ fun ws h1 => if ws.length = ks.length then .exc c ((ks.zip ws).reverse) σ h1 else .bad := id rfl
@[simp] theorem aMO {c : Nat} {fs : List (Str × D)} {σ : Sg} {h : Hh} : eV (.exc c fs σ h) = .exc c fs h := id rfl
@[simp] theorem aMv {κ : Type} {n : Nat} : gQ (κ := κ) n [] = true := id rfl
@[simp] theorem aLZ {κ : Type} {n : Nat} {p : κ × D} {ps : List (κ × D)} : gQ n (p :: ps) = (D.lim n p.2 && gQ n ps) := id rfl
theorem aHB {h h' : Hh} {c : Nat} {fs : List (Str × D)} (a : Ux [] h h') (lim : gQ h.length fs = true) : gcR h (.exc c fs h') = .exc c fs h := by
 have e : iL h.length h h' = true := pZ a.len fun j c hj e => .inl (by rw [<- e]; exact (a.same j hj (by simp)).symm)
 simp only [gcR,gcX,e,lim,and_self,if_true]
 congr 1
 apply List.ext_getElem?
 intro j
 rcases Nat.lt_or_ge j h.length with hj | hj
 ·rw [List.getElem?_take_of_lt hj]; exact a.same j hj (by simp)
 ·rw [List.getElem?_eq_none hj,List.getElem?_eq_none (by simp; omega)]
@[simp] theorem aKJ {h e : Hh} {c : Nat} {fs : List (Str × D)} (lim : gQ h.length fs = true) : gcR h (.exc c fs (h ++ e)) = .exc c fs h := aHB .app lim
@[simp] theorem aNq {f : Str} {c : Nat} {ks : List Str} {ws : List D} {h : Hh} : aFU f (.xc c ks ws) h = if 100 <= c then match (ks.zip ws).lookup f with
   | some w => .ok w h
   | none => .bad
  else .bad := id rfl
@[simp] theorem aMB {f : Str} {m : M D} {σ : Sg} {h : Hh} : aK5 f m σ h = (m σ h).bind (aFU f) := id rfl
end PV
end
section
namespace PV
open PySem PySem.Spec PyProof.Rows L2
@[simp] theorem aMC {cl : Cll} {mt : Nat -> Option Nat} {m : Str} {mo : M D} {ms : M (List D)} {σ : Sg} {h : Hh} : aK6 cl mt m mo ms σ h = gcR h ((mo σ h).bind fun x h1 => match x with
 | .ref i => match h1[i]? with
  | some (.ins c fs) => match mt c with
   | some f => if c < 100 /\ fs.lookup m = none then (ms σ h1).bind fun ws h2 => cl f (.ref i :: ws) h2 else .bad
   | none => .bad
  | _ => .bad
 | _ => .bad) := id rfl
@[simp] theorem aMF {f : Str} {mo me : M D} {σ : Sg} {h : Hh} : aK9 f mo me σ h = (mSt me σ h).then σ fun w h1 => (mo σ h1).then σ fun x h2 => match aHn f x w h2 with
 | some h3 => .nx σ h3
 | none => .bad := id rfl
end PV
end
section
namespace PV
open PySem PySem.Spec PyProof.Rows L2
/-- an entry -/
structure Ent where
 s : Int
 o : Int
 e : Str
def Ent.enc (x : Ent) : D := .tup [.int x.s, .int x.o, .str x.e]
def kOf (s o : Int) : List Key := [.inl s, .inl o]
/-- the entry of a pair -/
def aIV (es : List Ent) (s o : Int) : Str := match es.find? fun x => decide (x.s = s /\ x.o = o) with
 | some x => x.e
 | none => "error"
def tf3 (od ed : D) (j : Nat) : List (Str × D) := [(("operators" : Str),od),("entries",ed),("entry_by_pair", .ref j)]
/-- the table at k of the heap: where its dict stands -/
structure TabAt (h : Hh) (k : Nat) (ops : List Opr) (es : List Ent) (j : Nat) (kvs : List (List Key × D)) : Prop where
 at_ : ∃ ev,(ev = .tup (es.map Ent.enc) \/ ev = .kt [] /\ es = []) /\ h[k]? = some (.ins 0 (tf3 (.tup (ops.map Opr.enc)) ev j))
 dic : h[j]? = some (.dT kvs)
 get : ∀ s o,eQ kvs (kOf s o) = if (s,o) ∈ aHb ops then some (.str (aIV es s o)) else none
theorem TabAt.ux {is : List Nat} {h h' : Hh} {k j : Nat} {ops : List Opr} {es : List Ent} {kvs : List (List Key × D)} (t : TabAt h k ops es j kvs) (u : Ux is h h') (hk : k ∉ is) (hj : j ∉ is) : TabAt h' k ops es j kvs := ⟨let ⟨ev,h1,h2⟩ := t.at_; ⟨ev,h1,u.get h2 hk⟩,u.get t.dic hj,t.get⟩
end PV
end
section
namespace PV
open PySem PySem.Spec PyProof.Rows L2
/-- the nodes on a side -/
def mO (ops : List Opr) (side : Bool) : Nat -> Tr -> List Tr
 | 0,_ => []
 | f + 1,t => match nxt ops side t with
  | some (_,t') => t :: mO ops side f t'
  | none => []
theorem mF {ops : List Opr} {side : Bool} {f : Nat} {t : Tr} (h : nxt ops side t = none) : mO ops side f t = [] := by
 cases f with
 | zero => rfl
 | succ f => simp only [mO,h]
theorem tV {ops : List Opr} {side : Bool} {f c : Nat} {t t' : Tr} (h : nxt ops side t = some (c,t')) : mO ops side (f + 1) t = t :: mO ops side f t' := by simp only [mO,h]
theorem aFq {ops : List Opr} {side : Bool} : ∀ {f g : Nat} {t : Tr},t.depth <= f -> t.depth <= g -> mO ops side f t = mO ops side g t := by
 intro f
 induction f with
 | zero =>
  intro g t hf hg
  cases e : nxt ops side t with
  | none => rw [mF e,mF e]
  | some q => obtain ⟨c,t'⟩ := q; have := zZ e; omega
 | succ f ih =>
  intro g t hf hg
  cases e : nxt ops side t with
  | none => rw [mF e,mF e]
  | some q =>
   obtain ⟨c,t'⟩ := q
   have := zZ e
   cases g with
   | zero => omega
   | succ g => rw [tV e,tV e,ih (g := g) (by omega) (by omega)]
def Tr.num : Tr -> Nat
 | .nd n _ => n
 | _ => 0
def kid : Tr -> Int -> Option Tr
 | .leaf _,_ => none
 | .grp t,c => if c = 0 then some t else none
 | .nd _ ts,c => if 0 <= c then ts[c.toNat]? else none
def sub : Tr -> List Int -> Option Tr
 | t,[] => some t
 | t,c :: pl => (kid t c).bind fun t' => sub t' pl
/-- whether the entries with the facing nodes let a node stand -/
def aBm (ops : List Opr) (ent : Int -> Int -> Str) (t : Tr) : Bool :=
 (match nxt ops false t with
  | some (_,r) => (mO ops true r.depth r).all fun x => decide (ent t.num x.num = "shift")
  | none => true) &&
 (match nxt ops true t with
  | some (_,l) => (mO ops false l.depth l).all fun x => decide (ent x.num t.num = "reduce")
  | none => true)
mutual
def mT (ops : List Opr) (ent : Int -> Int -> Str) : Tr -> Bool
 | .leaf _ => true
 | .grp t => mT ops ent t
 | .nd n ts => aBm ops ent (.nd n ts) && fitsTs ops ent ts
def fitsTs (ops : List Opr) (ent : Int -> Int -> Str) : List Tr -> Bool
 | [] => true
 | t :: ts => mT ops ent t && fitsTs ops ent ts
end
theorem wX {ops : List Opr} {ent : Int -> Int -> Str} : ∀ {ts : List Tr},fitsTs ops ent ts = ts.all (mT ops ent)
 | [] => rfl
 | t :: ts => by simp only [fitsTs,List.all_cons,wX]
end PV
end
section
namespace PV
open PySem PySem.Spec PyProof.Rows L2
def Ent.key (x : Ent) : Int × Int := (x.s,x.o)
end PV
end
section
namespace PV
open PySem PySem.Spec PyProof.Rows L2
/-- a dict that holds the entry of each pair -/
def aFA (h : Hh) (j : Nat) (ops : List Opr) (es : List Ent) : Prop := ∃ kvs,h[j]? = some (.dT kvs) /\ ∀ s o,eQ kvs (kOf s o) = if (s,o) ∈ aHb ops then some (.str (aIV es s o)) else none
theorem aFA.ux {is : List Nat} {h h' : Hh} {j : Nat} {ops : List Opr} {es : List Ent} (d : aFA h j ops es) (u : Ux is h h') (hj : j ∉ is) : aFA h' j ops es := by
 obtain ⟨kvs,e,hg⟩ := d
 exact ⟨kvs,u.get e hj,hg⟩
/-- entries with increased numbers -/
def Ent.up (n : Nat) (x : Ent) : Ent := ⟨x.s + n,x.o + n,x.e⟩
/-- operators of one word each -/
structure Named (ops : List Opr) (ws : List Str) : Prop where
 kd : ∀ o ∈ ops,o.kind ∈ kinds /\ o.kind ≠ "closed"
 wd : ops.map Opr.words = ws.map fun w => [w]
theorem Named.app {a b : List Opr} {ws us : List Str} (h1 : Named a ws) (h2 : Named b us) : Named (a ++ b) (ws ++ us) := ⟨fun o ho => by
 rcases List.mem_append.mp ho with ho | ho
 ·exact h1.kd o ho
 ·exact h2.kd o ho,by rw [List.map_append,List.map_append,h1.wd,h2.wd]⟩
end PV
end
section
namespace PV
open PySem PySem.Spec PyProof.Rows L2
/-- an unfinished operator,or an open group -/
structure Uf where
 num : Option Nat
 parts : List Tr
 later : List Str
def Uf.bd (f : Uf) : Bool := f.num.isNone || !f.later.isEmpty
def Uf.nm (f : Uf) : Nat := f.num.getD 0
inductive RErr where
 | missing (p : Nat) | unexp (p : Nat) | uncl (p : Nat) | entry (p s o : Nat)
def aJh (ops : List Opr) (b : Bool) (w : Str) : Option Nat := ops.findIdx? fun o => decide (o.L = b) && decide (o.words.head? = some w)
/-- the last child -/
theorem aGh {ops : List Opr} {n c : Nat} {ts : List Tr} {r : Tr} (h : nxt ops false (.nd n ts) = some (c,r)) : ts.dropLast ++ [r] = ts := by
 obtain ⟨n',ts',o,h1,_,_,hc,he⟩ := nW h
 cases h1
 simp only [Bool.false_eq_true,if_false] at hc
 have hlt := aF he
 have hne : ts ≠ [] := fun z => by rw [z] at hlt; simp at hlt
 have : ts.getLast hne = r := by
  rw [List.getLast_eq_getElem]
  rw [List.getElem?_eq_getElem hlt] at he
  have h2 : ts.length - 1 = c := hc.symm
  simp only [h2]
  exact Option.some.inj he
 rw [<- this]
 exact List.dropLast_concat_getLast hne
end PV
end
section
namespace PV
open PySem PySem.Spec PyProof.Rows L2
end PV
end
section
namespace PV
open PySem PySem.Spec PyProof.Rows L2
end PV
end
section
namespace PV
open PySem PySem.Spec PyProof.Rows L2
section
variable (ops : List Opr) (ent : Int -> Int -> Str) (p : Str -> Prop)
def lsp (t : Tr) : List Tr := mO ops true t.depth t
def rsp (t : Tr) : List Tr := mO ops false t.depth t
/-- the tokens so far of an operator: its left part,its words with its other parts -/
def ftk (o : Opr) (parts : List Tr) (used : List Str) : List Str :=
 if o.L = true then (match parts with | [] => [] | l :: qs => l.toks ops ++ oL used (qs.map (Tr.toks ops))) else oL used (parts.map (Tr.toks ops))
/-- the numbers on its left side -/
def fls (o : Opr) (n : Nat) (parts : List Tr) : List Nat :=
 if o.L = true then n :: (match parts with | [] => [] | l :: _ => (lsp ops l).map Tr.num) else []
/-- an unfinished operator,with the words that were used -/
structure FOk (n : Nat) (parts : List Tr) (later : List Str) (o : Opr) (used : List Str) : Prop where
 eo : ops[n]? = some o
 wd : o.words = used ++ later
 ln : parts.length + 1 = used.length + (if o.L = true then 1 else 0)
 ne : 1 <= used.length
 ok : ∀ q ∈ parts,q.ok ops p /\ mT ops ent q = true
 lf : o.L = true -> ∀ l,parts.head? = some l -> ∀ x ∈ rsp ops l,ent x.num n = "reduce"
end
section
variable {ops : List Opr} {ent : Int -> Int -> Str} {p : Str -> Prop}
/-- a node of such parts -/
theorem aHR {n : Nat} {o : Opr} {ts : List Tr} (eo : ops[n]? = some o) (hl : ts.length = o.holes) (hok : ∀ q ∈ ts,q.ok ops p /\ mT ops ent q = true) (lf : o.L = true -> ∀ l,ts.head? = some l -> ∀ x ∈ rsp ops l,ent x.num n = "reduce") (rf : o.Rr = true -> ∀ r,ts.getLast? = some r -> ∀ x ∈ lsp ops r,ent n x.num = "shift") :
  (Tr.nd n ts).ok ops p /\ mT ops ent (.nd n ts) = true /\ (lsp ops (.nd n ts)).map Tr.num = fls ops o n ts := by
 have ok : (Tr.nd n ts).ok ops p := ⟨⟨o,eo,hl⟩,yR.mpr fun q hq => (hok q hq).1⟩
 have hdl : (Tr.nd n ts).depth = Tr.depths ts + 1 := by simp only [Tr.depth]
 refine ⟨ok, ?_, ?_⟩
 ·rw [mT,Bool.and_eq_true,wX,List.all_eq_true]
  refine ⟨?_,fun q hq => (hok q hq).2⟩
  unfold aBm
  rw [Bool.and_eq_true]
  constructor
  ·cases e : nxt ops false (.nd n ts) with
   | none => rfl
   | some q =>
    obtain ⟨c,r⟩ := q
    obtain ⟨n',ts',o',h1,h2,h3,hc,h4⟩ := nW e
    cases h1
    rw [eo] at h2; cases h2
    have hts := aGh e
    have hlast : ts.getLast? = some r := by rw [<- hts]; simp
    simp only [List.all_eq_true,decide_eq_true_eq]
    exact fun x hx => rf (by simpa using h3) r hlast x hx
  ·cases e : nxt ops true (.nd n ts) with
   | none => rfl
   | some q =>
    obtain ⟨c,l⟩ := q
    obtain ⟨n',ts',o',h1,h2,h3,hc,h4⟩ := nW e
    cases h1
    rw [eo] at h2; cases h2
    simp only [if_true] at hc
    subst hc
    have hh : ts.head? = some l := by rw [List.head?_eq_getElem?]; exact h4
    simp only [List.all_eq_true,decide_eq_true_eq]
    exact fun x hx => lf (by simpa using h3) l hh x hx
 ·unfold lsp fls
  rw [hdl]
  cases hL : o.L with
  | false =>
   have : nxt ops true (.nd n ts) = none := by simp [nxt,eo,hL]
   rw [mF this]; rfl
  | true =>
   have hs := aDM (side := true) eo ok
   simp only [if_true,hL] at hs
   obtain ⟨⟨c,l⟩,e⟩ := Option.isSome_iff_exists.mp hs
   obtain ⟨n',ts',o',h1,h2,h3,hc,h4⟩ := nW e
   cases h1
   simp only [if_true] at hc
   subst hc
   cases ts with
   | nil => simp at h4
   | cons l' qs =>
    have : l' = l := by simpa using h4
    subst this
    have hld : l'.depth <= Tr.depths (l' :: qs) := oG.mp (Nat.le_refl _) l' (by simp)
    rw [tV e,aFq (f := Tr.depths (l' :: qs)) (g := l'.depth) hld (Nat.le_refl _)]
    rfl
/-- tokens of the whole -/
theorem aIA {n : Nat} {o : Opr} {ts : List Tr} (eo : ops[n]? = some o) (hL : o.L = true -> ts ≠ []) : (Tr.nd n ts).toks ops = ftk ops o ts o.words := by
 simp only [Tr.toks,aDL,eo,ftk,aAj]
 cases h : o.L with
 | false => simp
 | true =>
  cases ts with
  | nil => exact absurd rfl (hL h)
  | cons l qs => simp
theorem aEE {α : Type} {l : List α} {x : α} (h : l ≠ []) : (l ++ [x]).head? = l.head? := by
 cases l with
 | nil => exact absurd rfl h
 | cons a l => rfl
theorem FOk.pne {n : Nat} {o : Opr} {parts : List Tr} {used : List Str} {later : List Str} (F : FOk ops ent p n parts later o used) : o.L = true -> parts ≠ [] := fun h z => by
 have ln := F.ln
 have := F.ne
 rw [h,z] at ln
 simp only [List.length_nil,if_true] at ln; omega
/-- all words used,no right hole -/
theorem FOk.done {n : Nat} {o : Opr} {parts : List Tr} {used : List Str} (F : FOk ops ent p n parts [] o used) (hR : o.Rr = false) :
  (Tr.nd n parts).ok ops p /\ mT ops ent (.nd n parts) = true /\ (lsp ops (.nd n parts)).map Tr.num = fls ops o n parts /\ (Tr.nd n parts).toks ops = ftk ops o parts used := by
 have hw : o.words = used := by rw [F.wd,List.append_nil]
 have hl : parts.length = o.holes := by
  have := F.ln
  have := F.ne
  unfold Opr.holes
  rw [hw,hR]
  simp only [Bool.false_eq_true,if_false]
  omega
 obtain ⟨h1,h2,h3⟩ := aHR (ts := parts) (p := p) (ent := ent) F.eo hl F.ok F.lf (fun h => by rw [hR] at h; cases h)
 exact ⟨h1,h2,h3,by rw [aIA F.eo F.pne,hw]⟩
/-- the next word,behind a closed hole -/
theorem FOk.next {n : Nat} {o : Opr} {parts : List Tr} {used later : List Str} {w : Str} {x : Tr} (F : FOk ops ent p n parts (w :: later) o used) (xo : x.ok ops p) (xf : mT ops ent x = true) : FOk ops ent p n (parts ++ [x]) later o (used ++ [w]) := by
 refine ⟨F.eo,by rw [F.wd]; simp, ?_,by simp,fun q hq => ?_,fun hL l hh => F.lf hL l (by rwa [aEE (F.pne hL)] at hh)⟩
 ·have := F.ln
  simp only [List.length_append,List.length_cons,List.length_nil]
  omega
 ·rcases List.mem_append.mp hq with hq | hq
  ·exact F.ok q hq
  ·have : q = x := by simpa using hq
   subst this; exact ⟨xo,xf⟩
end
end PV
end
section
namespace PV
open PySem PySem.Spec PyProof.Rows L2
end PV
end
section
namespace PV
open PySem PySem.Spec PyProof.Rows L2
end PV
end
section
namespace PV
open PySem PySem.Spec PyProof.Rows L2
/-- from the innermost boundary on -/
def bs (st : List Uf) : List Uf := st.dropWhile fun f => !f.bd
end PV
end
section
namespace PV
open PySem PySem.Spec PyProof.Rows L2
end PV
end
section
namespace PV
open PySem PySem.Spec PyProof.Rows L2
theorem aDF {ops ops' : List Opr} (h : ops'.Sublist ops) : (eR ops').Sublist (eR ops) := by
 unfold eR
 induction h with
 | slnil => exact List.Sublist.refl _
 | cons a _ ih => simp only [List.flatMap_cons]; exact ih.trans (List.sublist_append_right _ _)
 | cons_cons a _ ih => simp only [List.flatMap_cons]; exact (List.Sublist.refl _).append ih
theorem OpsOk.sub {ops ops' : List Opr} (O : OpsOk ops) (h : ops'.Sublist ops) : OpsOk ops' := by
 have hf : ∀ b,(dU b ops').Sublist (dU b ops) := fun b => h.filterMap _
 have hl := aDF h
 exact ⟨fun o ho => O.ok o (h.subset ho),fun b => (O.nd b).sublist (hf b),O.lt.sublist hl,fun x hx b hb => O.ld x (hl.subset hx) b ((hf b).subset hb)⟩
end PV
end
section
namespace PV
open PySem PySem.Spec PyProof.Rows L2
def rdF (tb sA fA kA : Nat) (od : D) : List (Str × D) := [(("rules" : Str), .ref tb),("starts", .ref sA),("follows", .ref fA),("stack", .ref kA),("operand",od)]
def ufF (num : D) (p : Nat) (later : List Str) : List (Str × D) := [(("number" : Str),num),("parts", .ref p),("later", .tup (later.map .str))]
def aML (f : Uf) : D := match f.num with
 | none => .non
 | some n => .int (n : Nat)
def odD : Option Tr -> D
 | none => .non
 | some t => t.enc
structure FrAt (h : Hh) (x : Nat × Nat × Uf) : Prop where
 u : h[x.1]? = some (.ins 1 (ufF (aML x.2.2) x.2.1 x.2.2.later))
 p : h[x.2.1]? = some (.lst (Tr.encs x.2.2.parts))
def yH (fr : List (Nat × Nat × Uf)) : List Nat := fr.flatMap fun x => [x.1,x.2.1]
/-- the reader at r: its frames,the innermost first; nothing below n0 has changed -/
structure RdAt (hb : Hh) (ops : List Opr) (r tb sA fA kA : Nat) (h : Hh) (fr : List (Nat × Nat × Uf)) (od : Option Tr) : Prop where
 rd : h[r]? = some (.ins 2 (rdF tb sA fA kA (odD od)))
 st : ∃ kvs,h[sA]? = some (.dK kvs) /\ ∀ w,eQ kvs (.inr w) = (aJh ops false w).map fun n => D.int (n : Nat)
 fo : ∃ kvs,h[fA]? = some (.dK kvs) /\ ∀ w,eQ kvs (.inr w) = (aJh ops true w).map fun n => D.int (n : Nat)
 sk : h[kA]? = some (.lst (fr.reverse.map fun x => D.ref x.1))
 fs : ∀ x ∈ fr,FrAt h x
 nd : (r :: sA :: fA :: kA :: yH fr).Nodup
 lo : ∀ a ∈ r :: sA :: fA :: kA :: yH fr,hb.length <= a
 old : ∀ a,a < hb.length -> h[a]? = hb[a]?
 len : hb.length <= h.length
section
variable {hb h h' : Hh} {ops : List Opr} {r tb sA fA kA : Nat} {fr fr' : List (Nat × Nat × Uf)} {od od' : Option Tr}
theorem aFX {x : Nat × Nat × Uf} (h : x ∈ fr) : x.1 ∈ yH fr /\ x.2.1 ∈ yH fr := by
 unfold yH
 exact ⟨List.mem_flatMap.mpr ⟨x,h,by simp⟩,List.mem_flatMap.mpr ⟨x,h,by simp⟩⟩
theorem RdAt.lt (a : RdAt hb ops r tb sA fA kA h fr od) : r < h.length /\ sA < h.length /\ fA < h.length /\ kA < h.length := by
 obtain ⟨_,e1,_⟩ := a.st
 obtain ⟨_,e2,_⟩ := a.fo
 exact ⟨aF a.rd,aF e1,aF e2,aF a.sk⟩
/-- another heap with the same cells -/
theorem RdAt.same (a : RdAt hb ops r tb sA fA kA h fr od) (hl : hb.length <= h'.length) (hs : ∀ b ∈ r :: sA :: fA :: kA :: yH fr,h'[b]? = h[b]?) (ho : ∀ b,b < hb.length -> h'[b]? = h[b]?) : RdAt hb ops r tb sA fA kA h' fr od := by
 refine ⟨by rw [hs r (by simp)]; exact a.rd, ?_, ?_,by rw [hs kA (by simp)]; exact a.sk,fun x hx => ?_,a.nd,a.lo,fun b l => (ho b l).trans (a.old b l),hl⟩
 ·obtain ⟨kvs,e,g⟩ := a.st; exact ⟨kvs,by rw [hs sA (by simp)]; exact e,g⟩
 ·obtain ⟨kvs,e,g⟩ := a.fo; exact ⟨kvs,by rw [hs fA (by simp)]; exact e,g⟩
 ·have f := aFX hx
  exact ⟨by rw [hs x.1 (by simp [f.1])]; exact (a.fs x hx).u,by rw [hs x.2.1 (by simp [f.2])]; exact (a.fs x hx).p⟩
end
end PV
end
section
namespace PV
open PySem PySem.Spec PyProof.Rows L2
end PV
end
section
namespace PV
open PySem PySem.Spec PyProof.Rows L2
/-- a value by its content; src is the law's source of draws -/
inductive Q where
 | non | bl (b : Bool) | int (i : Int) | str (x : Str) | tup (ws : List Q) | kt (ws : List Q) | lst (ws : List Q)
 | dK (kvs : List (Key × Q)) | dT (kvs : List (List Key × Q)) | ins (c : Nat) (fs : List (Str × Q))
 | ty (n : String) | fn (f : Nat) | cls (c : Nat) | xc (c : Nat) (ks : List Str) (ws : List Q) | src
 deriving Inhabited
section
variable {P : Q -> Prop} (h1 : P .non) (h2 : ∀ b,P (.bl b)) (h3 : ∀ i,P (.int i)) (h4 : ∀ x,P (.str x)) (h5 : ∀ qs,(∀ q ∈ qs,P q) -> P (.tup qs)) (h6 : ∀ qs,(∀ q ∈ qs,P q) -> P (.kt qs)) (h7 : ∀ qs,(∀ q ∈ qs,P q) -> P (.lst qs))
 (h8 : ∀ kvs : List (Key × Q),(∀ q ∈ kvs,P q.2) -> P (.dK kvs)) (h9 : ∀ kvs : List (List Key × Q),(∀ q ∈ kvs,P q.2) -> P (.dT kvs)) (h10 : ∀ c (kvs : List (Str × Q)),(∀ q ∈ kvs,P q.2) -> P (.ins c kvs))
 (h11 : ∀ n,P (.ty n)) (h12 : ∀ n,P (.fn n)) (h13 : ∀ n,P (.cls n)) (h14 : ∀ c ks qs,(∀ q ∈ qs,P q) -> P (.xc c ks qs)) (h15 : P .src)
include h1 h2 h3 h4 h5 h6 h7 h8 h9 h10 h11 h12 h13 h14 h15
mutual
theorem Q.ind : ∀ q : Q,P q
 | .non => h1
 | .bl b => h2 b
 | .int i => h3 i
 | .str x => h4 x
 | .tup qs => h5 qs (Q.inds qs)
 | .kt qs => h6 qs (Q.inds qs)
 | .lst qs => h7 qs (Q.inds qs)
 | .dK kvs => h8 kvs (Q.indK kvs)
 | .dT kvs => h9 kvs (Q.indT kvs)
 | .ins c kvs => h10 c kvs (Q.indF kvs)
 | .ty n => h11 n
 | .fn n => h12 n
 | .cls n => h13 n
 | .xc c ks qs => h14 c ks qs (Q.inds qs)
 | .src => h15
theorem Q.inds : ∀ (qs : List Q),∀ q ∈ qs,P q
 | [] => fun q hq => by cases hq
 | q :: qs => fun x hx => (List.mem_cons.mp hx).elim (fun e => e ▸ Q.ind q) (Q.inds qs x)
theorem Q.indK : ∀ (qs : List (Key × Q)),∀ q ∈ qs,P q.2
 | [] => fun q hq => by cases hq
 | (k,q) :: qs => fun x hx => (List.mem_cons.mp hx).elim (fun e => e ▸ Q.ind q) (Q.indK qs x)
theorem Q.indT : ∀ (qs : List (List Key × Q)),∀ q ∈ qs,P q.2
 | [] => fun q hq => by cases hq
 | (k,q) :: qs => fun x hx => (List.mem_cons.mp hx).elim (fun e => e ▸ Q.ind q) (Q.indT qs x)
theorem Q.indF : ∀ (qs : List (Str × Q)),∀ q ∈ qs,P q.2
 | [] => fun q hq => by cases hq
 | (k,q) :: qs => fun x hx => (List.mem_cons.mp hx).elim (fun e => e ▸ Q.ind q) (Q.indF qs x)
end
end
section
variable (F : Nat -> Prop) (sa : Nat) (h : Hh)
mutual
def Rep : Q -> D -> Prop
 | .non,w => w = .non
 | .bl b,w => w = .bl b
 | .int i,w => w = .int i
 | .str x,w => w = .str x
 | .ty n,w => w = .ty n
 | .fn n,w => w = .fn n
 | .cls n,w => w = .cls n
 | .src,w => w = .ref sa
 | .tup qs,w => ∃ ws,w = .tup ws /\ Reps qs ws
 | .kt qs,w => ∃ ws,w = .kt ws /\ Reps qs ws
 | .xc c ks qs,w => ∃ ws,w = .xc c ks ws /\ Reps qs ws
 | .lst qs,w => ∃ ws,(w = .tl ws \/ ∃ a,w = .ref a /\ F a /\ h[a]? = some (.lst ws)) /\ Reps qs ws
 | .dK kvs,w => ∃ a ws,w = .ref a /\ F a /\ h[a]? = some (.dK ws) /\ RepA kvs ws
 | .dT kvs,w => ∃ a ws,w = .ref a /\ F a /\ h[a]? = some (.dT ws) /\ RepB kvs ws
 | .ins c fs,w => ∃ a ws,w = .ref a /\ F a /\ h[a]? = some (.ins c ws) /\ RepC fs ws
def Reps : List Q -> List D -> Prop
 | [],ws => ws = []
 | q :: qs,ws => ∃ w r,ws = w :: r /\ w.isTl = false /\ Rep q w /\ Reps qs r
def RepA : List (Key × Q) -> List (Key × D) -> Prop
 | [],ws => ws = []
 | (k,q) :: qs,ws => ∃ w r,ws = (k,w) :: r /\ w.isTl = false /\ Rep q w /\ RepA qs r
def RepB : List (List Key × Q) -> List (List Key × D) -> Prop
 | [],ws => ws = []
 | (k,q) :: qs,ws => ∃ w r,ws = (k,w) :: r /\ w.isTl = false /\ Rep q w /\ RepB qs r
def RepC : List (Str × Q) -> List (Str × D) -> Prop
 | [],ws => ws = []
 | (k,q) :: qs,ws => ∃ w r,ws = (k,w) :: r /\ w.isTl = false /\ Rep q w /\ RepC qs r
end
def aY {κ : Type} : List (κ × Q) -> List (κ × D) -> Prop
 | [],ws => ws = []
 | (k,q) :: qs,ws => ∃ w r,ws = (k,w) :: r /\ w.isTl = false /\ Rep F sa h q w /\ aY qs r
end
section
variable {F F' : Nat -> Prop} {sa : Nat} {h h' : Hh} {w : D} {ws : List D} {q : Q} {qs : List Q}
theorem aC3 : ∀ {kvs : List (Key × Q)} {ws : List (Key × D)},RepA F sa h kvs ws ↔ aY F sa h kvs ws
 | [],ws => by simp only [RepA,aY]
 | (k,q) :: kvs,ws => by simp only [RepA,aY,aC3]
theorem aC4 : ∀ {kvs : List (List Key × Q)} {ws : List (List Key × D)},RepB F sa h kvs ws ↔ aY F sa h kvs ws
 | [],ws => by simp only [RepB,aY]
 | (k,q) :: kvs,ws => by simp only [RepB,aY,aC4]
theorem aC5 : ∀ {kvs : List (Str × Q)} {ws : List (Str × D)},RepC F sa h kvs ws ↔ aY F sa h kvs ws
 | [],ws => by simp only [RepC,aY]
 | (k,q) :: kvs,ws => by simp only [RepC,aY,aC5]
theorem nZ {kvs : List (Key × Q)} : Rep F sa h (.dK kvs) w ↔ ∃ a ws,w = .ref a /\ F a /\ h[a]? = some (.dK ws) /\ aY F sa h kvs ws := by simp only [Rep,aC3]
theorem oA {kvs : List (List Key × Q)} : Rep F sa h (.dT kvs) w ↔ ∃ a ws,w = .ref a /\ F a /\ h[a]? = some (.dT ws) /\ aY F sa h kvs ws := by simp only [Rep,aC4]
theorem lN {c : Nat} {kvs : List (Str × Q)} : Rep F sa h (.ins c kvs) w ↔ ∃ a ws,w = .ref a /\ F a /\ h[a]? = some (.ins c ws) /\ aY F sa h kvs ws := by simp only [Rep,aC5]
theorem Reps.len : ∀ {qs : List Q} {ws : List D},Reps F sa h qs ws -> ws.length = qs.length
 | [],_,r => by simp only [Reps] at r; rw [r]; rfl
 | q :: qs,_,r => by
  simp only [Reps] at r
  obtain ⟨w,r,rfl,_,_,z⟩ := r
  simp [z.len]
theorem Reps.get : ∀ {qs : List Q} {ws : List D} {i : Nat} {q : Q},Reps F sa h qs ws -> qs[i]? = some q -> ∃ w,ws[i]? = some w /\ w.isTl = false /\ Rep F sa h q w
 | [],_,i,q,r,e => by simp at e
 | q :: qs,_,i,q',r,e => by
  simp only [Reps] at r
  obtain ⟨w,r,rfl,h1,h2,z⟩ := r
  cases i with
  | zero => simp at e; subst e; exact ⟨w,rfl,h1,h2⟩
  | succ i => simpa using z.get (by simpa using e)
theorem lO : ∀ {qs : List Q} {ws : List D},Reps F sa h qs ws ↔ ws.length = qs.length /\ ∀ (i : Nat) (q : Q) (w : D),qs[i]? = some q -> ws[i]? = some w -> w.isTl = false /\ Rep F sa h q w
 | [],ws => by
  simp only [Reps]
  constructor
  ·rintro rfl; simp
  ·rintro ⟨h1,_⟩; simpa using h1
 | q :: qs,ws => by
  simp only [Reps,lO]
  constructor
  ·rintro ⟨w,r,rfl,h1,h2,h3,h4⟩
   refine ⟨by simp [h3],fun i x y ex ey => ?_⟩
   cases i with
   | zero => simp at ex ey; subst ex; subst ey; exact ⟨h1,h2⟩
   | succ i => exact h4 i x y (by simpa using ex) (by simpa using ey)
  ·rintro ⟨h1,h2⟩
   cases ws with
   | nil => simp at h1
   | cons w r =>
    have := h2 0 q w rfl rfl
    exact ⟨w,r,rfl,this.1,this.2,by simpa using h1,fun i x y ex ey => h2 (i + 1) x y (by simpa using ex) (by simpa using ey)⟩
theorem Reps.app {qs' : List Q} {ws' : List D} : ∀ {qs : List Q} {ws : List D},Reps F sa h qs ws -> Reps F sa h qs' ws' -> Reps F sa h (qs ++ qs') (ws ++ ws')
 | [],_,a,b => by simp only [Reps] at a; subst a; exact b
 | q :: qs,_,a,b => by
  simp only [Reps] at a
  obtain ⟨w,r,rfl,h1,h2,z⟩ := a
  simp only [List.cons_append,Reps]
  exact ⟨w,_,rfl,h1,h2,z.app b⟩
theorem Reps.one (r : Rep F sa h q w) (hw : w.isTl = false) : Reps F sa h [q] [w] := by
 simp only [Reps]; exact ⟨w,[],rfl,hw,r,rfl⟩
theorem Reps.drop : ∀ {qs : List Q} {ws : List D} (n : Nat),Reps F sa h qs ws -> Reps F sa h (qs.drop n) (ws.drop n)
 | qs,ws,0,a => a
 | [],_,n + 1,a => by simp only [Reps] at a; subst a; simp [Reps]
 | q :: qs,_,n + 1,a => by
  simp only [Reps] at a
  obtain ⟨w,r,rfl,h1,h2,z⟩ := a
  simpa using z.drop n
theorem Reps.take : ∀ {qs : List Q} {ws : List D} (n : Nat),Reps F sa h qs ws -> Reps F sa h (qs.take n) (ws.take n)
 | qs,ws,0,a => by simp [Reps]
 | [],_,n + 1,a => by simp only [Reps] at a; subst a; simp [Reps]
 | q :: qs,_,n + 1,a => by
  simp only [Reps] at a
  obtain ⟨w,r,rfl,h1,h2,z⟩ := a
  simp only [List.take_succ_cons,Reps]
  exact ⟨w,_,rfl,h1,h2,z.take n⟩
theorem aY.keys {κ : Type} : ∀ {kvs : List (κ × Q)} {ws : List (κ × D)},aY F sa h kvs ws -> ws.map (·.1) = kvs.map (·.1)
 | [],_,r => by simp only [aY] at r; rw [r]; rfl
 | (k,q) :: kvs,_,r => by
  simp only [aY] at r
  obtain ⟨w,r,rfl,_,_,z⟩ := r
  simp [z.keys]
theorem aY.vals {κ : Type} : ∀ {kvs : List (κ × Q)} {ws : List (κ × D)},aY F sa h kvs ws -> Reps F sa h (kvs.map (·.2)) (ws.map (·.2))
 | [],_,r => by simp only [aY] at r; rw [r]; rfl
 | (k,q) :: kvs,_,r => by
  simp only [aY] at r
  obtain ⟨w,r,rfl,h1,h2,z⟩ := r
  simp only [List.map_cons,Reps]
  exact ⟨w,_,rfl,h1,h2,z.vals⟩
theorem uT {κ : Type} : ∀ {kvs : List (κ × Q)} {ws : List (κ × D)},ws.map (·.1) = kvs.map (·.1) -> Reps F sa h (kvs.map (·.2)) (ws.map (·.2)) -> aY F sa h kvs ws
 | [],ws,e,r => by simpa [aY] using e
 | (k,q) :: kvs,[],e,r => by simp at e
 | (k,q) :: kvs,(k',w) :: ws,e,r => by
  simp only [List.map_cons,Reps,List.cons.injEq] at e r
  obtain ⟨rfl,e⟩ := e
  obtain ⟨w',r',⟨rfl,rfl⟩,h1,h2,z⟩ := r
  simp only [aY]
  exact ⟨w,ws,rfl,h1,h2,uT e z⟩
/-- the frozen cells as they were,and more of them -/
structure Gw (F : Nat -> Prop) (h : Hh) (F' : Nat -> Prop) (h' : Hh) : Prop where
 len : h.length <= h'.length
 up : ∀ a,F a -> F' a
 same : ∀ a,F a -> h'[a]? = h[a]?
theorem Gw.rfl' : Gw F h F h := ⟨Nat.le_refl _,fun _ z => z,fun _ _ => rfl⟩
theorem Gw.trans {F2 : Nat -> Prop} {h2 : Hh} (a : Gw F h F' h') (b : Gw F' h' F2 h2) : Gw F h F2 h2 := ⟨Nat.le_trans a.len b.len,fun x z => b.up x (a.up x z),fun x z => (b.same x (a.up x z)).trans (a.same x z)⟩
theorem kJ (ih : ∀ q ∈ qs,∀ w,Rep F sa h q w -> Rep F' sa h' q w) (r : Reps F sa h qs ws) : Reps F' sa h' qs ws := by
 rw [lO] at r ⊢
 refine ⟨r.1,fun i q w e1 e2 => ?_⟩
 have := r.2 i q w e1 e2
 exact ⟨this.1,ih q (List.mem_of_getElem? e1) w this.2⟩
theorem oS {κ : Type} {kvs : List (κ × Q)} {ws : List (κ × D)} (ih : ∀ q ∈ kvs,∀ w,Rep F sa h q.2 w -> Rep F' sa h' q.2 w) (r : aY F sa h kvs ws) : aY F' sa h' kvs ws :=
 uT r.keys (kJ (fun q hq w => by
  obtain ⟨kv,hkv,rfl⟩ := List.mem_map.mp hq
  exact ih kv hkv w) r.vals)
theorem Rep.mono (g : Gw F h F' h') (r : Rep F sa h q w) : Rep F' sa h' q w := by
 induction q using Q.ind generalizing w with
 | h5 qs ih => simp only [Rep] at r ⊢; obtain ⟨ws,e,r⟩ := r; exact ⟨ws,e,kJ (fun q hq w r => ih q hq r) r⟩
 | h6 qs ih => simp only [Rep] at r ⊢; obtain ⟨ws,e,r⟩ := r; exact ⟨ws,e,kJ (fun q hq w r => ih q hq r) r⟩
 | h14 c ks qs ih => simp only [Rep] at r ⊢; obtain ⟨ws,e,r⟩ := r; exact ⟨ws,e,kJ (fun q hq w r => ih q hq r) r⟩
 | h7 qs ih =>
  simp only [Rep] at r ⊢
  obtain ⟨ws,e,r⟩ := r
  refine ⟨ws, ?_,kJ (fun q hq w r => ih q hq r) r⟩
  rcases e with e | ⟨a,e,f,c⟩
  ·exact .inl e
  ·exact .inr ⟨a,e,g.up a f,by rw [g.same a f]; exact c⟩
 | h8 kvs ih => rw [nZ] at r ⊢; obtain ⟨a,ws,e,f,c,r⟩ := r; exact ⟨a,ws,e,g.up a f,by rw [g.same a f]; exact c,oS (fun q hq w r => ih q hq r) r⟩
 | h9 kvs ih => rw [oA] at r ⊢; obtain ⟨a,ws,e,f,c,r⟩ := r; exact ⟨a,ws,e,g.up a f,by rw [g.same a f]; exact c,oS (fun q hq w r => ih q hq r) r⟩
 | h10 n kvs ih => rw [lN] at r ⊢; obtain ⟨a,ws,e,f,c,r⟩ := r; exact ⟨a,ws,e,g.up a f,by rw [g.same a f]; exact c,oS (fun q hq w r => ih q hq r) r⟩
 | _ => simpa only [Rep] using r
theorem Reps.mono (g : Gw F h F' h') (r : Reps F sa h qs ws) : Reps F' sa h' qs ws := kJ (fun _ _ _ r => r.mono g) r
theorem aY.mono {κ : Type} {kvs : List (κ × Q)} {ws : List (κ × D)} (g : Gw F h F' h') (r : aY F sa h kvs ws) : aY F' sa h' kvs ws := oS (fun _ _ _ r => r.mono g) r
end
end PV
end
section
namespace PV
open PySem PySem.Spec PyProof.Rows L2
inductive Rs (α : Type) where
 | ok (a : α) | exc (c : Nat) (fs : List (Str × Q))
/-- a plain program: what must hold of its result,the number of draws so far -/
abbrev Pm (α : Type) := (Rs α -> Nat -> Prop) -> Nat -> Prop
def Pm.ret {α : Type} (a : α) : Pm α := fun K c => K (.ok a) c
def Pm.bind {α β : Type} (p : Pm α) (f : α -> Pm β) : Pm β := fun K c => p (fun r c' => match r with
 | .ok a => f a K c'
 | .exc n fs => K (.exc n fs) c') c
def Pm.bad {α : Type} : Pm α := fun _ _ => False
def Pm.exc {α : Type} (n : Nat) (fs : List (Str × Q)) : Pm α := fun K c => K (.exc n fs) c
def Pm.of {α : Type} (o : Option α) : Pm α := match o with
 | some a => .ret a
 | none => .bad
section
variable {α β γ : Type}
@[simp] theorem aG {a : α} {f : α -> Pm β} : (Pm.ret a).bind f = f a := id rfl
@[simp] theorem aKS {f : α -> Pm β} : Pm.bind Pm.bad f = Pm.bad := id rfl
@[simp] theorem aKT {n : Nat} {fs : List (Str × Q)} {f : α -> Pm β} : Pm.bind (Pm.exc n fs) f = Pm.exc n fs := id rfl
@[simp] theorem aI {a : α} : Pm.of (some a) = .ret a := id rfl
@[simp] theorem aLh : Pm.of (none : Option α) = .bad := id rfl
@[simp] theorem bL {p : Pm α} {f : α -> Pm β} {g : β -> Pm γ} : (p.bind f).bind g = p.bind fun a => (f a).bind g := by
 funext K c
 show p _ c = p _ c
 apply congrFun
 apply congrArg
 funext r c'
 cases r <;> rfl
@[simp] theorem eF {a : α} {K : Rs α -> Nat -> Prop} {c : Nat} : Pm.ret a K c = K (.ok a) c := id rfl
@[simp] theorem aL4 {n : Nat} {fs : List (Str × Q)} {K : Rs α -> Nat -> Prop} {c : Nat} : Pm.exc n fs K c = K (.exc n fs) c := id rfl
end
/-- where a def began: the heap,the frozen cells,the source -/
structure Bs where
 h0 : Hh
 F0 : Nat -> Prop
 sa : Nat
structure Iv (B : Bs) (F : Nat -> Prop) (h : Hh) (c : Nat) : Prop where
 sr : Sr h B.sa c
 ns : ¬ F B.sa
 fl : ∀ a,F a -> ∃ x,h[a]? = some x /\ x.lim h.length = true
 len : B.h0.length <= h.length
 sl : B.sa < B.h0.length
 up0 : ∀ a,B.F0 a -> F a
 dn0 : ∀ a,a < B.h0.length -> F a -> B.F0 a
 same0 : ∀ a,a < B.h0.length -> a ≠ B.sa -> h[a]? = B.h0[a]?
structure Ge (sa : Nat) (F : Nat -> Prop) (h : Hh) (F' : Nat -> Prop) (h' : Hh) : Prop extends Gw F h F' h' where
 dn : ∀ a,a < h.length -> F' a -> F a
 old : ∀ a,a < h.length -> a ≠ sa -> h'[a]? = h[a]?
def Top (F : Nat -> Prop) (sa : Nat) (h : Hh) (a : Nat) : Q -> Prop
 | .lst qs => ∃ ws,h[a]? = some (.lst ws) /\ Reps F sa h qs ws
 | .dK kvs => ∃ ws,h[a]? = some (.dK ws) /\ aY F sa h kvs ws
 | .dT kvs => ∃ ws,h[a]? = some (.dT ws) /\ aY F sa h kvs ws
 | .ins c fs => ∃ ws,h[a]? = some (.ins c ws) /\ aY F sa h fs ws
 | _ => False
/-- fresh: nobody holds it -/
def qR (n : Nat) (F : Nat -> Prop) (sa : Nat) (h : Hh) (q : Q) (w : D) : Prop := (∃ qs ws,q = .lst qs /\ w = .tl ws /\ Reps F sa h qs ws) \/ ∃ a,w = .ref a /\ n <= a /\ ¬ F a /\ Top F sa h a q
section
variable {F F' F1 F2 : Nat -> Prop} {sa a n c c' : Nat} {h h' h1 h2 : Hh} {w : D} {ws : List D} {q : Q} {qs : List Q} {B : Bs}
theorem Ge.rfl' : Ge sa F h F h := ⟨.rfl',fun _ _ z => z,fun _ _ _ => rfl⟩
theorem Ge.trans (x : Ge sa F h F1 h1) (y : Ge sa F1 h1 F2 h2) : Ge sa F h F2 h2 :=
 ⟨x.toGw.trans y.toGw,fun a l z => x.dn a l (y.dn a (Nat.lt_of_lt_of_le l x.len) z),fun a l z => (y.old a (Nat.lt_of_lt_of_le l x.len) z).trans (x.old a l z)⟩
theorem Top.mono (g : Gw F h F' h') (ha : h'[a]? = h[a]?) (t : Top F sa h a q) : Top F' sa h' a q := by
 cases q with
 | lst qs => obtain ⟨ws,e,r⟩ := t; exact ⟨ws,by rw [ha]; exact e,r.mono g⟩
 | dK qs => obtain ⟨ws,e,r⟩ := t; exact ⟨ws,by rw [ha]; exact e,r.mono g⟩
 | dT qs => obtain ⟨ws,e,r⟩ := t; exact ⟨ws,by rw [ha]; exact e,r.mono g⟩
 | ins n qs => obtain ⟨ws,e,r⟩ := t; exact ⟨ws,by rw [ha]; exact e,r.mono g⟩
 | _ => exact t.elim
theorem Top.lt (t : Top F sa h a q) : a < h.length := by
 cases q with
 | lst qs => obtain ⟨ws,e,r⟩ := t; exact aF e
 | dK qs => obtain ⟨ws,e,r⟩ := t; exact aF e
 | dT qs => obtain ⟨ws,e,r⟩ := t; exact aF e
 | ins n qs => obtain ⟨ws,e,r⟩ := t; exact aF e
 | _ => exact t.elim
theorem Top.rep (t : Top F sa h a q) (f : F a) : Rep F sa h q (.ref a) := by
 cases q with
 | lst qs => obtain ⟨ws,e,r⟩ := t; simp only [Rep]; exact ⟨ws, .inr ⟨a,rfl,f,e⟩,r⟩
 | dK qs => obtain ⟨ws,e,r⟩ := t; rw [nZ]; exact ⟨a,ws,rfl,f,e,r⟩
 | dT qs => obtain ⟨ws,e,r⟩ := t; rw [oA]; exact ⟨a,ws,rfl,f,e,r⟩
 | ins n qs => obtain ⟨ws,e,r⟩ := t; rw [lN]; exact ⟨a,ws,rfl,f,e,r⟩
 | _ => exact t.elim
theorem Rep.top (r : Rep F sa h q (.ref a)) : (q = .src /\ a = sa) \/ (F a /\ Top F sa h a q) := by
 cases q with
 | lst qs =>
  simp only [Rep] at r
  obtain ⟨ws,e | ⟨b,e,f,g⟩,r⟩ := r
  ·cases e
  ·cases e; exact .inr ⟨f,ws,g,r⟩
 | dK qs => rw [nZ] at r; obtain ⟨b,ws,e,f,g,r⟩ := r; cases e; exact .inr ⟨f,ws,g,r⟩
 | dT qs => rw [oA] at r; obtain ⟨b,ws,e,f,g,r⟩ := r; cases e; exact .inr ⟨f,ws,g,r⟩
 | ins n qs => rw [lN] at r; obtain ⟨b,ws,e,f,g,r⟩ := r; cases e; exact .inr ⟨f,ws,g,r⟩
 | src => simp only [Rep] at r; cases r; exact .inl ⟨rfl,rfl⟩
 | tup qs => simp only [Rep] at r; obtain ⟨_,e,_⟩ := r; cases e
 | kt qs => simp only [Rep] at r; obtain ⟨_,e,_⟩ := r; cases e
 | xc c ks qs => simp only [Rep] at r; obtain ⟨_,e,_⟩ := r; cases e
 | _ => simp only [Rep] at r; cases r
theorem lX {n : Nat} : ∀ {ws : List D},D.lims n ws = true ↔ ∀ w ∈ ws,D.lim n w = true
 | [] => by simp
 | w :: ws => by simp [lX (ws := ws)]
theorem jZ {κ : Type} {n : Nat} : ∀ {kvs : List (κ × D)},gQ n kvs = D.lims n (kvs.map (·.2))
 | [] => rfl
 | p :: kvs => by simp [jZ (kvs := kvs)]
theorem Rep.lim (hF : ∀ a,F a -> a < n) (hs : sa < n) (r : Rep F sa h q w) : w.lim n = true := by
 have key : ∀ {qs : List Q} {ws : List D},(∀ q ∈ qs,∀ w,Rep F sa h q w -> w.lim n = true) -> Reps F sa h qs ws -> D.lims n ws = true := fun {qs ws} ih r => lX.mpr fun w hw => by
  obtain ⟨i,hi,e⟩ := List.getElem_of_mem hw
  have hl := r.len
  have := (lO.mp r).2 i (qs[i]'(by omega)) w (by simp) (by rw [<- e]; simp)
  exact ih _ (List.getElem_mem _) w this.2
 induction q using Q.ind generalizing w with
 | h5 qs ih => simp only [Rep] at r; obtain ⟨ws,rfl,r⟩ := r; simp only [D.lim]; exact key (fun q hq w r => ih q hq r) r
 | h6 qs ih => simp only [Rep] at r; obtain ⟨ws,rfl,r⟩ := r; simp only [D.lim]; exact key (fun q hq w r => ih q hq r) r
 | h14 c ks qs ih => simp only [Rep] at r; obtain ⟨ws,rfl,r⟩ := r; simp only [D.lim]; exact key (fun q hq w r => ih q hq r) r
 | h7 qs ih =>
  simp only [Rep] at r
  obtain ⟨ws,rfl | ⟨a,rfl,f,e⟩,r⟩ := r
  ·simp only [D.lim]; exact key (fun q hq w r => ih q hq r) r
  ·simp [hF a f]
 | h8 kvs ih => rw [nZ] at r; obtain ⟨a,ws,rfl,f,_⟩ := r; simp [hF a f]
 | h9 kvs ih => rw [oA] at r; obtain ⟨a,ws,rfl,f,_⟩ := r; simp [hF a f]
 | h10 n kvs ih => rw [lN] at r; obtain ⟨a,ws,rfl,f,_⟩ := r; simp [hF a f]
 | h15 => simp only [Rep] at r; subst r; simp [hs]
 | _ => simp only [Rep] at r; subst r; simp [D.lim]
theorem Reps.lim (hF : ∀ a,F a -> a < n) (hs : sa < n) (r : Reps F sa h qs ws) : D.lims n ws = true := lX.mpr fun w hw => by
 obtain ⟨i,hi,e⟩ := List.getElem_of_mem hw
 have hl := r.len
 have := (lO.mp r).2 i (qs[i]'(by omega)) w (by simp) (by rw [<- e]; simp)
 exact this.2.lim hF hs
theorem aY.lim {κ : Type} {kvs : List (κ × Q)} {ws : List (κ × D)} (hF : ∀ a,F a -> a < n) (hs : sa < n) (r : aY F sa h kvs ws) : gQ n ws = true := by
 rw [jZ]; exact r.vals.lim hF hs
/-- what a cut leaves -/
theorem Rep.cut (hF : ∀ a,a < n -> F' a -> F a) (hs : ∀ a,F a -> h2[a]? = h'[a]? /\ ∃ x,h'[a]? = some x /\ x.lim n = true) (r : Rep F' sa h' q w) (l : w.lim n = true) : Rep F sa h2 q w := by
 have key : ∀ {qs : List Q} {ws : List D},(∀ q ∈ qs,∀ w,Rep F' sa h' q w -> w.lim n = true -> Rep F sa h2 q w) -> Reps F' sa h' qs ws -> D.lims n ws = true -> Reps F sa h2 qs ws := fun {qs ws} ih r l => by
  rw [lO] at r ⊢
  refine ⟨r.1,fun i q w e1 e2 => ?_⟩
  have := r.2 i q w e1 e2
  exact ⟨this.1,ih q (List.mem_of_getElem? e1) w this.2 (lX.mp l w (List.mem_of_getElem? e2))⟩
 have keyK : ∀ {κ : Type} {kvs : List (κ × Q)} {ws : List (κ × D)},(∀ q ∈ kvs,∀ w,Rep F' sa h' q.2 w -> w.lim n = true -> Rep F sa h2 q.2 w) -> aY F' sa h' kvs ws -> gQ n ws = true -> aY F sa h2 kvs ws := fun {κ kvs ws} ih r l =>
  uT r.keys (key (fun q hq w => by
   obtain ⟨kv,hkv,rfl⟩ := List.mem_map.mp hq
   exact ih kv hkv w) r.vals (by rw [<- jZ]; exact l))
 induction q using Q.ind generalizing w with
 | h5 qs ih => simp only [Rep] at r ⊢; obtain ⟨ws,rfl,r⟩ := r; simp only [D.lim] at l; exact ⟨ws,rfl,key (fun q hq w r l => ih q hq r l) r l⟩
 | h6 qs ih => simp only [Rep] at r ⊢; obtain ⟨ws,rfl,r⟩ := r; simp only [D.lim] at l; exact ⟨ws,rfl,key (fun q hq w r l => ih q hq r l) r l⟩
 | h14 c ks qs ih => simp only [Rep] at r ⊢; obtain ⟨ws,rfl,r⟩ := r; simp only [D.lim] at l; exact ⟨ws,rfl,key (fun q hq w r l => ih q hq r l) r l⟩
 | h7 qs ih =>
  simp only [Rep] at r ⊢
  obtain ⟨ws,rfl | ⟨a,rfl,f,e⟩,r⟩ := r
  ·simp only [D.lim] at l; exact ⟨ws, .inl rfl,key (fun q hq w r l => ih q hq r l) r l⟩
  ·have fa := hF a (by simpa using l) f
   obtain ⟨s1,x,s2,s3⟩ := hs a fa
   rw [e] at s2; cases s2
   exact ⟨ws, .inr ⟨a,rfl,fa,by rw [s1]; exact e⟩,key (fun q hq w r l => ih q hq r l) r (by simpa [Cl.lim] using s3)⟩
 | h8 kvs ih =>
  rw [nZ] at r ⊢
  obtain ⟨a,ws,rfl,f,e,r⟩ := r
  have fa := hF a (by simpa using l) f
  obtain ⟨s1,x,s2,s3⟩ := hs a fa
  rw [e] at s2; cases s2
  exact ⟨a,ws,rfl,fa,by rw [s1]; exact e,keyK (fun q hq w r l => ih q hq r l) r (by simpa [Cl.lim] using s3)⟩
 | h9 kvs ih =>
  rw [oA] at r ⊢
  obtain ⟨a,ws,rfl,f,e,r⟩ := r
  have fa := hF a (by simpa using l) f
  obtain ⟨s1,x,s2,s3⟩ := hs a fa
  rw [e] at s2; cases s2
  exact ⟨a,ws,rfl,fa,by rw [s1]; exact e,keyK (fun q hq w r l => ih q hq r l) r (by simpa [Cl.lim] using s3)⟩
 | h10 m kvs ih =>
  rw [lN] at r ⊢
  obtain ⟨a,ws,rfl,f,e,r⟩ := r
  have fa := hF a (by simpa using l) f
  obtain ⟨s1,x,s2,s3⟩ := hs a fa
  rw [e] at s2; cases s2
  exact ⟨a,ws,rfl,fa,by rw [s1]; exact e,keyK (fun q hq w r l => ih q hq r l) r (by simpa [Cl.lim] using s3)⟩
 | _ => simpa only [Rep] using r
theorem Reps.cut (hF : ∀ a,a < n -> F' a -> F a) (hs : ∀ a,F a -> h2[a]? = h'[a]? /\ ∃ x,h'[a]? = some x /\ x.lim n = true) (r : Reps F' sa h' qs ws) (l : D.lims n ws = true) : Reps F sa h2 qs ws := by
 rw [lO] at r ⊢
 refine ⟨r.1,fun i q w e1 e2 => ?_⟩
 have := r.2 i q w e1 e2
 exact ⟨this.1,this.2.cut hF hs (lX.mp l w (List.mem_of_getElem? e2))⟩
theorem aY.cut {κ : Type} {kvs : List (κ × Q)} {ws : List (κ × D)} (hF : ∀ a,a < n -> F' a -> F a) (hs : ∀ a,F a -> h2[a]? = h'[a]? /\ ∃ x,h'[a]? = some x /\ x.lim n = true) (r : aY F' sa h' kvs ws) (l : gQ n ws = true) : aY F sa h2 kvs ws :=
 uT r.keys (r.vals.cut hF hs (by rw [<- jZ]; exact l))
/-- one more frozen cell -/
def Fx (F : Nat -> Prop) (a : Nat) : Nat -> Prop := fun b => F b \/ b = a
theorem Top.cut {c : Cl} (hF : ∀ a,a < n -> F' a -> F a) (hs : ∀ a,F a -> h2[a]? = h'[a]? /\ ∃ x,h'[a]? = some x /\ x.lim n = true) (t : Top F' sa h' a q) (e : h'[a]? = some c) (l : c.lim n = true) {b : Nat} (e2 : h2[b]? = some c) : Top F sa h2 b q := by
 cases q with
 | lst qs => obtain ⟨ws,e',r⟩ := t; rw [e] at e'; cases e'; exact ⟨ws,e2,r.cut hF hs (by simpa [Cl.lim] using l)⟩
 | dK qs => obtain ⟨ws,e',r⟩ := t; rw [e] at e'; cases e'; exact ⟨ws,e2,r.cut hF hs (by simpa [Cl.lim] using l)⟩
 | dT qs => obtain ⟨ws,e',r⟩ := t; rw [e] at e'; cases e'; exact ⟨ws,e2,r.cut hF hs (by simpa [Cl.lim] using l)⟩
 | ins m qs => obtain ⟨ws,e',r⟩ := t; rw [e] at e'; cases e'; exact ⟨ws,e2,r.cut hF hs (by simpa [Cl.lim] using l)⟩
 | _ => exact t.elim
end
end PV
end
section
namespace PV
open PySem PySem.Spec PyProof.Rows L2
/-- the outcome r of a heap's function beside a plain program's continuation K -/
inductive Out (B : Bs) (F : Nat -> Prop) (h : Hh) {α β : Type} (Rl : (Nat -> Prop) -> Hh -> β -> α -> Prop) (K : Rs β -> Nat -> Prop) : R α -> Prop
 | ok {q : β} {c' : Nat} {w : α} {h' : Hh} {F' : Nat -> Prop} (k : K (.ok q) c') (iv : Iv B F' h' c') (g : Ge B.sa F h F' h') (r : Rl F' h' q w) : Out B F h Rl K (.ok w h')
 | exc {n c' : Nat} {fs : List (Str × Q)} {fs' : List (Str × D)} {h' : Hh} {F' : Nat -> Prop} (k : K (.exc n fs) c') (iv : Iv B F' h' c') (g : Ge B.sa F h F' h') (r : aY F' B.sa h' fs fs') : Out B F h Rl K (.exc n fs' h')
abbrev RlS (B : Bs) : (Nat -> Prop) -> Hh -> Q -> D -> Prop := fun F h q w => Rep F B.sa h q w
abbrev RlF (n : Nat) (B : Bs) : (Nat -> Prop) -> Hh -> Q -> D -> Prop := fun F h q w => qR n F B.sa h q w
abbrev RlA (B : Bs) : (Nat -> Prop) -> Hh -> List Q -> List D -> Prop := fun F h q w => Reps F B.sa h q w
abbrev RlE {α : Type} : (Nat -> Prop) -> Hh -> α -> α -> Prop := fun _ _ q w => w = q
def bK {α β : Type} (g : α -> Pm β) (K : Rs β -> Nat -> Prop) : Rs α -> Nat -> Prop := fun r c' => match r with
 | .ok a => g a K c'
 | .exc n fs => K (.exc n fs) c'
section
variable {F F' F1 F2 : Nat -> Prop} {sa a n c c' : Nat} {h h' h1 h2 : Hh} {w : D} {ws : List D} {q : Q} {qs : List Q} {B : Bs} {α β α' β' : Type} {Rl : (Nat -> Prop) -> Hh -> β -> α -> Prop} {Rl2 : (Nat -> Prop) -> Hh -> β' -> α' -> Prop} {K : Rs β -> Nat -> Prop} {K2 : Rs β' -> Nat -> Prop}
theorem Out.ge {r : R α} (g : Ge B.sa F h F1 h1) (o : Out B F1 h1 Rl K r) : Out B F h Rl K r := by
 cases o with
 | ok k iv g' r => exact .ok k iv (g.trans g') r
 | exc k iv g' r => exact .exc k iv (g.trans g') r
theorem Out.bind {r : R α} {f : α -> Hh -> R α'} {g : β -> Pm β'} (o : Out B F h Rl (bK g K2) r)
  (hf : ∀ {F1 : Nat -> Prop} {h1 : Hh} {q : β} {w : α} {c1 : Nat},Iv B F1 h1 c1 -> Ge B.sa F h F1 h1 -> Rl F1 h1 q w -> g q K2 c1 -> Out B F1 h1 Rl2 K2 (f w h1)) : Out B F h Rl2 K2 (r.bind f) := by
 cases o with
 | ok k iv g' r => exact (hf iv g' r k).ge g'
 | exc k iv g' r => exact .exc k iv g' r
theorem Out.imp {r : R α} {Rl' : (Nat -> Prop) -> Hh -> β -> α -> Prop} (o : Out B F h Rl K r) (hr : ∀ {F1 : Nat -> Prop} {h1 : Hh} {q : β} {w : α} {c1 : Nat},Iv B F1 h1 c1 -> Ge B.sa F h F1 h1 -> Rl F1 h1 q w -> Rl' F1 h1 q w) : Out B F h Rl' K r := by
 cases o with
 | ok k iv g' r => exact .ok k iv g' (hr iv g' r)
 | exc k iv g' r => exact .exc k iv g' r
theorem Out.ret {q : β} {w : α} (iv : Iv B F h c) (k : K (.ok q) c) (r : Rl F h q w) : Out B F h Rl K (.ok w h) := .ok k iv .rfl' r
theorem Iv.lt (iv : Iv B F h c) (f : F a) : a < h.length := let ⟨_,e,_⟩ := iv.fl a f; aF e
theorem Iv.sal (iv : Iv B F h c) : B.sa < h.length := Nat.lt_of_lt_of_le iv.sl iv.len
theorem Iv.base (iv : Iv B F h c) : Iv ⟨h,F,B.sa⟩ F h c := ⟨iv.sr,iv.ns,iv.fl,Nat.le_refl _,iv.sal,fun _ z => z,fun _ _ z => z,fun _ _ _ => rfl⟩
theorem Iv.rebase (iv : Iv B F h c) (g : Ge B.sa F h F1 h1) (i2 : Iv ⟨h,F,B.sa⟩ F1 h1 c') : Iv B F1 h1 c' :=
 ⟨i2.sr,i2.ns,i2.fl,Nat.le_trans iv.len g.len,iv.sl,fun a z => g.up a (iv.up0 a z),fun a l z => iv.dn0 a l (g.dn a (Nat.lt_of_lt_of_le l iv.len) z),fun a l z => (g.old a (Nat.lt_of_lt_of_le l iv.len) z).trans (iv.same0 a l z)⟩
theorem Rep.limH (iv : Iv B F h c) (r : Rep F B.sa h q w) : w.lim h.length = true := r.lim (fun _ f => iv.lt f) iv.sal
theorem Reps.limH (iv : Iv B F h c) (r : Reps F B.sa h qs ws) : D.lims h.length ws = true := r.lim (fun _ f => iv.lt f) iv.sal
theorem Top.limH (iv : Iv B F h c) (t : Top F B.sa h a q) : ∃ x,h[a]? = some x /\ x.lim h.length = true := by
 cases q with
 | lst qs => obtain ⟨ws,e,r⟩ := t; exact ⟨_,e,by simp only [Cl.lim]; exact r.limH iv⟩
 | dK qs => obtain ⟨ws,e,r⟩ := t; exact ⟨_,e,by simp only [Cl.lim]; exact r.lim (fun _ f => iv.lt f) iv.sal⟩
 | dT qs => obtain ⟨ws,e,r⟩ := t; exact ⟨_,e,by simp only [Cl.lim]; exact r.lim (fun _ f => iv.lt f) iv.sal⟩
 | ins m qs => obtain ⟨ws,e,r⟩ := t; exact ⟨_,e,by simp only [Cl.lim]; exact r.lim (fun _ f => iv.lt f) iv.sal⟩
 | _ => exact t.elim
/-- freeze a cell of one's own -/
theorem Iv.freeze (iv : Iv B F h c) (ha : B.h0.length <= a) (t : Top F B.sa h a q) : Iv B (Fx F a) h c := by
 have := iv.sl
 refine ⟨iv.sr,fun z => ?_,fun b z => ?_,iv.len,iv.sl,fun b z => .inl (iv.up0 b z),fun b l z => ?_,iv.same0⟩
 ·rcases z with z | z
  ·exact iv.ns z
  ·omega
 ·rcases z with z | rfl
  ·exact iv.fl b z
  ·exact t.limH iv
 ·rcases z with z | rfl
  ·exact iv.dn0 b l z
  ·omega
theorem nR : Gw F h (Fx F a) h := ⟨Nat.le_refl _,fun _ z => .inl z,fun _ _ => rfl⟩
theorem Ge.fx (g : Ge sa F h F1 h1) (ha : h.length <= a) : Ge sa F h (Fx F1 a) h1 := ⟨g.toGw.trans nR,fun b l z => by
 rcases z with z | rfl
 ·exact g.dn b l z
 ·omega,g.old⟩
theorem aCP {n m : Nat} {x : Cl} (hn : n <= m) (l : x.lim n = true) : x.lim m = true := by
 cases x with
 | lst ws => simp only [Cl.lim] at l ⊢; exact lims_mono hn l
 | dK ws => simp only [Cl.lim,jZ] at l ⊢; exact lims_mono hn l
 | dT ws => simp only [Cl.lim,jZ] at l ⊢; exact lims_mono hn l
 | ins c ws => simp only [Cl.lim,jZ] at l ⊢; exact lims_mono hn l
/-- a new cell at the end -/
theorem Iv.app (iv : Iv B F h c) (x : Cl) : Iv B F (h ++ [x]) c := by
 refine ⟨iv.sr.app,iv.ns,fun b z => ?_,by have := iv.len; simp; omega,iv.sl,iv.up0,iv.dn0,fun b l z => ?_⟩
 ·obtain ⟨y,e,l⟩ := iv.fl b z
  refine ⟨y, ?_,aCP (by simp) l⟩
  rw [List.getElem?_append_left (aF e)]; exact e
 ·have := iv.len
  rw [List.getElem?_append_left (by omega)]; exact iv.same0 b l z
theorem geApp {x : Cl} (hF : ∀ a,F a -> a < h.length) : Ge sa F h F (h ++ [x]) := ⟨⟨by simp,fun _ z => z,fun a z => List.getElem?_append_left (hF a z)⟩,fun _ _ z => z,fun a l _ => List.getElem?_append_left l⟩
theorem Iv.geApp (iv : Iv B F h c) {x : Cl} : Ge B.sa F h F (h ++ [x]) := PV.geApp fun _ f => iv.lt f
/-- what is stored -/
theorem tW (iv : Iv B F h c) (r : Rep F B.sa h q w) : ∃ F2,Iv B F2 (aU w h).2 c /\ Ge B.sa F h F2 (aU w h).2 /\ Rep F2 B.sa (aU w h).2 q (aU w h).1 /\ (aU w h).1.isTl = false := by
 by_cases ht : w.isTl = true
 ·cases w with
  | tl ws =>
   have hq : ∃ qs,q = .lst qs /\ Reps F B.sa h qs ws := by
    cases q with
    | lst qs =>
     simp only [Rep] at r
     obtain ⟨ws',e | ⟨a,e,_⟩,r⟩ := r
     ·cases e; exact ⟨qs,rfl,r⟩
     ·cases e
    | tup qs => simp only [Rep] at r; obtain ⟨_,e,_⟩ := r; cases e
    | kt qs => simp only [Rep] at r; obtain ⟨_,e,_⟩ := r; cases e
    | xc _ _ qs => simp only [Rep] at r; obtain ⟨_,e,_⟩ := r; cases e
    | dK qs => rw [nZ] at r; obtain ⟨_,_,e,_⟩ := r; cases e
    | dT qs => rw [oA] at r; obtain ⟨_,_,e,_⟩ := r; cases e
    | ins _ qs => rw [lN] at r; obtain ⟨_,_,e,_⟩ := r; cases e
    | _ => simp only [Rep] at r; cases r
   obtain ⟨qs,rfl,rs⟩ := hq
   have g0 : Ge B.sa F h F (h ++ [.lst ws]) := iv.geApp
   have t : Top F B.sa (h ++ [.lst ws]) h.length (.lst qs) := ⟨ws,by simp,rs.mono g0.toGw⟩
   have i2 := (iv.app (.lst ws)).freeze iv.len t
   exact ⟨Fx F h.length,i2,g0.fx (Nat.le_refl _),(t.mono nR rfl).rep (.inr rfl),rfl⟩
  | _ => cases ht
 ·have : aU w h = (w,h) := by
   cases w <;> first | rfl | exact absurd rfl ht
  rw [this]
  exact ⟨F,iv, .rfl',r,by simpa using ht⟩
theorem aKu (iv : Iv B F h c) (hn : n <= h.length) (r : qR n F B.sa h q w) : ∃ a,(aU w h).1 = .ref a /\ n <= a /\ ¬ F a /\ Iv B F (aU w h).2 c /\ Ge B.sa F h F (aU w h).2 /\ Top F B.sa (aU w h).2 a q := by
 rcases r with ⟨qs,ws,rfl,rfl,r⟩ | ⟨a,rfl,ha,hf,t⟩
 ·have g0 : Ge B.sa F h F (h ++ [.lst ws]) := iv.geApp
  exact ⟨h.length,rfl,hn,fun z => Nat.lt_irrefl _ (iv.lt z),iv.app _,g0,ws,by simp [aU],r.mono g0.toGw⟩
 ·exact ⟨a,rfl,ha,hf,iv, .rfl',t⟩
theorem aMr (g : Ge B.sa F h F' h') (i2 : Iv B F' h' c') : iL h.length h h' = true := pZ g.len fun j x hj e => by
 by_cases hs : j = B.sa
 ·subst hs
  obtain ⟨y,e2,l⟩ := i2.sr.cell h.length
  rw [e2] at e; cases e; exact .inr l
 ·rw [g.old j hj hs] at e; exact .inl e
theorem Iv.cut (iv : Iv B F h c) (g : Ge B.sa F h F' h') (i2 : Iv B F' h' c') : Iv B F (h'.take h.length) c' /\ Ge B.sa F h F (h'.take h.length) /\ (∀ a,F a -> (h'.take h.length)[a]? = h'[a]? /\ ∃ x,h'[a]? = some x /\ x.lim h.length = true) := by
 have hl := g.len
 have lt : (h'.take h.length).length = h.length := by simp; omega
 have tk : ∀ a,a < h.length -> (h'.take h.length)[a]? = h'[a]? := fun a l => by rw [List.getElem?_take]; simp [l]
 have nsa : ∀ a,F a -> a ≠ B.sa := fun a f z => iv.ns (z ▸ f)
 refine ⟨⟨i2.sr.cut iv.sal,iv.ns,fun a f => ?_,by rw [lt]; exact iv.len,iv.sl,iv.up0,iv.dn0,fun a l z => ?_⟩,⟨⟨by rw [lt]; exact Nat.le_refl _,fun _ z => z,fun a f => ?_⟩,fun _ _ z => z,fun a l z => ?_⟩,fun a f => ?_⟩
 ·obtain ⟨x,e,l⟩ := iv.fl a f
  exact ⟨x,by rw [tk a (aF e),g.old a (aF e) (nsa a f)]; exact e,by rw [lt]; exact l⟩
 ·have := iv.len
  rw [tk a (by omega)]; exact i2.same0 a l z
 ·rw [tk a (iv.lt f)]; exact g.same a f
 ·rw [tk a l]; exact g.old a l z
 ·obtain ⟨x,e,l⟩ := iv.fl a f
  exact ⟨tk a (iv.lt f),x,by rw [g.same a f]; exact e,l⟩
theorem Out.gcS {K : Rs Q -> Nat -> Prop} {r : R D} (iv : Iv B F h c) (o : Out B F h (RlS B) K r) : Out B F h (RlS B) K (gcR h r) := by
 cases o with
 | @ok q c' w h' F' k i2 g r =>
  obtain ⟨ic,gc',hs⟩ := iv.cut g i2
  show Out B F h (RlS B) K (gc h w h')
  unfold gc
  rw [if_pos (aMr g i2)]
  by_cases hl : w.lim h.length = true
  ·rw [if_pos hl]
   exact .ok k ic gc' (r.cut g.dn hs hl)
  ·rw [if_neg hl]
   split
   ·rename_i i
    split
    ·rename_i ws e
     split
     ·rename_i hz
      have t : ∃ qs,q = .lst qs /\ Reps F' B.sa h' qs ws := by
       rcases r.top with ⟨_,z⟩ | ⟨f,t⟩
       ·exact absurd (by simp [z,iv.sal]) hl
       ·cases q with
        | lst qs => obtain ⟨ws',e',r'⟩ := t; rw [e] at e'; cases e'; exact ⟨qs,rfl,r'⟩
        | dK qs => obtain ⟨ws',e',r'⟩ := t; rw [e] at e'; cases e'
        | dT qs => obtain ⟨ws',e',r'⟩ := t; rw [e] at e'; cases e'
        | ins m qs => obtain ⟨ws',e',r'⟩ := t; rw [e] at e'; cases e'
        | _ => exact t.elim
      obtain ⟨qs,rfl,rs⟩ := t
      refine .ok k ic gc' ?_
      simp only [RlS,Rep]
      exact ⟨ws, .inl rfl,rs.cut g.dn hs hz.1⟩
     ·exact .ok k i2 g r
    ·rename_i x hx e
     split
     ·rename_i hz
      have t : Top F' B.sa h' i q := by
       rcases r.top with ⟨_,z⟩ | ⟨f,t⟩
       ·exact absurd (by simp [z,iv.sal]) hl
       ·exact t
      have ia := ic.app x
      have lt : (h'.take h.length).length = h.length := by have := g.len; simp; omega
      have hs2 : ∀ a,F a -> (h'.take h.length ++ [x])[a]? = h'[a]? /\ ∃ x,h'[a]? = some x /\ x.lim h.length = true := fun a f => by
       obtain ⟨s1,s2⟩ := hs a f
       exact ⟨by rw [List.getElem?_append_left (by rw [lt]; exact iv.lt f)]; exact s1,s2⟩
      have t2 : Top F B.sa (h'.take h.length ++ [x]) h.length q := t.cut g.dn hs2 e hz.1 (by rw [List.getElem?_append_right (by omega)]; simp [lt])
      exact .ok (F' := Fx F h.length) k (ia.freeze iv.len t2) ((gc'.trans (Iv.geApp ic)).fx (Nat.le_refl _)) ((t2.mono nR rfl).rep (.inr rfl))
     ·exact .ok k i2 g r
    ·exact .ok k i2 g r
   ·exact .ok k i2 g r
 | @exc n c' fs fs' h' F' k i2 g r =>
  obtain ⟨ic,gc',hs⟩ := iv.cut g i2
  show Out B F h (RlS B) K (gcX h n fs' h')
  unfold gcX
  split
  ·rename_i hz
   exact .exc k ic gc' (r.cut g.dn hs hz.2)
  ·exact .exc k i2 g r
/-- fresh is more than whole -/
theorem qR.rep (iv : Iv B F h c) (hn : B.h0.length <= n) (r : qR n F B.sa h q w) : ∃ F2,Iv B F2 h c /\ (∀ F0 h0,Ge B.sa F0 h0 F h -> h0.length <= n -> Ge B.sa F0 h0 F2 h) /\ Rep F2 B.sa h q w := by
 rcases r with ⟨qs,ws,rfl,rfl,r⟩ | ⟨a,rfl,ha,hf,t⟩
 ·refine ⟨F,iv,fun _ _ g _ => g, ?_⟩
  simp only [Rep]; exact ⟨ws, .inl rfl,r⟩
 ·exact ⟨Fx F a,iv.freeze (Nat.le_trans hn ha) t,fun _ _ g l => g.fx (Nat.le_trans l ha),(t.mono nR rfl).rep (.inr rfl)⟩
theorem Out.fs {K : Rs Q -> Nat -> Prop} {r : R D} (iv : Iv B F h c) (o : Out B F h (RlF h.length B) K r) : Out B F h (RlS B) K r := by
 cases o with
 | ok k i2 g r =>
  obtain ⟨F2,i3,g3,r3⟩ := r.rep i2 iv.len
  exact .ok k i3 (g3 _ _ g (Nat.le_refl _)) r3
 | exc k i2 g r => exact .exc k i2 g r
end
inductive Sl where
 | no | fz (q : Q) | ow (q : Q) | eqd (w : D)
structure En (B : Bs) (F : Nat -> Prop) (O : Nat -> Option Nat) (h : Hh) (Γ : List Sl) (σ : Sg) : Prop where
 len : σ.length = Γ.length
 fz : ∀ (i : Nat) (q : Q),Γ[i]? = some (.fz q) -> ∃ w,σ[i]? = some (some w) /\ w.isTl = false /\ Rep F B.sa h q w
 ow : ∀ (i : Nat) (q : Q),Γ[i]? = some (.ow q) -> ∃ a,O i = some a /\ σ[i]? = some (some (.ref a)) /\ Top F B.sa h a q
 oh : ∀ i a,O i = some a -> B.h0.length <= a /\ ¬ F a /\ a < h.length
 inj : ∀ i j a,O i = some a -> O j = some a -> i = j
 eqd : ∀ (i : Nat) (w : D),Γ[i]? = some (.eqd w) -> σ[i]? = some (some w)
/-- whole,or a list or dict of one's own -/
def nO (B : Bs) (O : Nat -> Option Nat) (F : Nat -> Prop) (h : Hh) (q : Q) (w : D) : Prop := Rep F B.sa h q w \/ ∃ i a,O i = some a /\ w = .ref a /\ Top F B.sa h a q
section
variable {F F' F1 F2 : Nat -> Prop} {sa a n c c' : Nat} {h h' h1 h2 : Hh} {w : D} {ws : List D} {q : Q} {qs : List Q} {B : Bs} {O : Nat -> Option Nat} {Γ : List Sl} {σ : Sg}
theorem En.ge (en : En B F O h Γ σ) (iv : Iv B F h c) (g : Ge B.sa F h F1 h1) : En B F1 O h1 Γ σ := by
 have hs := iv.sl
 refine ⟨en.len,fun i q e => ?_,fun i q e => ?_,fun i a e => ?_,en.inj,en.eqd⟩
 ·obtain ⟨w,e1,e2,r⟩ := en.fz i q e
  exact ⟨w,e1,e2,r.mono g.toGw⟩
 ·obtain ⟨a,e1,e2,t⟩ := en.ow i q e
  obtain ⟨o1,o2,o3⟩ := en.oh i a e1
  exact ⟨a,e1,e2,t.mono g.toGw (g.old a o3 (by omega))⟩
 ·obtain ⟨o1,o2,o3⟩ := en.oh i a e
  exact ⟨o1,fun z => o2 (g.dn a o3 z),Nat.lt_of_lt_of_le o3 g.len⟩
theorem nO.ge (en : En B F O h Γ σ) (iv : Iv B F h c) (g : Ge B.sa F h F1 h1) (r : nO B O F h q w) : nO B O F1 h1 q w := by
 have hs := iv.sl
 rcases r with r | ⟨i,a,e1,e2,t⟩
 ·exact .inl (r.mono g.toGw)
 ·obtain ⟨o1,o2,o3⟩ := en.oh i a e1
  exact .inr ⟨i,a,e1,e2,t.mono g.toGw (g.old a o3 (by omega))⟩
end
end PV
end
section
namespace PV
open PySem PySem.Spec PyProof.Rows L2
/-- as Rep,but the cell at the top need not be frozen -/
def Vw (F : Nat -> Prop) (sa : Nat) (h : Hh) : Q -> D -> Prop
 | .lst qs,w => ∃ ws,(w = .tl ws \/ ∃ a,w = .ref a /\ h[a]? = some (.lst ws)) /\ Reps F sa h qs ws
 | .dK kvs,w => ∃ a ws,w = .ref a /\ h[a]? = some (.dK ws) /\ aY F sa h kvs ws
 | .dT kvs,w => ∃ a ws,w = .ref a /\ h[a]? = some (.dT ws) /\ aY F sa h kvs ws
 | .ins c kvs,w => ∃ a ws,w = .ref a /\ h[a]? = some (.ins c ws) /\ aY F sa h kvs ws
 | q,w => Rep F sa h q w
section
variable {F : Nat -> Prop} {sa : Nat} {h : Hh} {q x y : Q} {w u v : D} {qs : List Q} {ws : List D} {B : Bs} {O : Nat -> Option Nat}
theorem Rep.vw (r : Rep F sa h q w) : Vw F sa h q w := by
 cases q with
 | lst qs =>
  simp only [Rep,Vw] at r ⊢
  obtain ⟨ws,e,r⟩ := r
  refine ⟨ws, ?_,r⟩
  rcases e with e | ⟨a,e,_,e2⟩
  ·exact .inl e
  ·exact .inr ⟨a,e,e2⟩
 | dK qs => rw [nZ] at r; obtain ⟨a,ws,e,_,e2,r⟩ := r; exact ⟨a,ws,e,e2,r⟩
 | dT qs => rw [oA] at r; obtain ⟨a,ws,e,_,e2,r⟩ := r; exact ⟨a,ws,e,e2,r⟩
 | ins c qs => rw [lN] at r; obtain ⟨a,ws,e,_,e2,r⟩ := r; exact ⟨a,ws,e,e2,r⟩
 | _ => exact r
theorem Top.vw {a : Nat} (t : Top F sa h a q) : Vw F sa h q (.ref a) := by
 cases q with
 | lst qs => obtain ⟨ws,e,r⟩ := t; exact ⟨ws, .inr ⟨a,rfl,e⟩,r⟩
 | dK qs => obtain ⟨ws,e,r⟩ := t; exact ⟨a,ws,rfl,e,r⟩
 | dT qs => obtain ⟨ws,e,r⟩ := t; exact ⟨a,ws,rfl,e,r⟩
 | ins c qs => obtain ⟨ws,e,r⟩ := t; exact ⟨a,ws,rfl,e,r⟩
 | _ => exact t.elim
theorem nO.vw (r : nO B O F h q w) : Vw F B.sa h q w := by
 rcases r with r | ⟨i,a,_,rfl,t⟩
 ·exact r.vw
 ·exact t.vw
theorem qR.vw {n : Nat} (r : qR n F sa h q w) : Vw F sa h q w := by
 rcases r with ⟨qs,ws,rfl,rfl,r⟩ | ⟨a,rfl,_,_,t⟩
 ·exact ⟨ws, .inl rfl,r⟩
 ·exact t.vw
theorem iT (v : Vw F sa h (.lst qs) w) : ∃ ws,asL h w = some ws /\ asM h w = some ws /\ asT w = none /\ tyD h w = some "list" /\ Reps F sa h qs ws := by
 obtain ⟨ws,rfl | ⟨a,rfl,e⟩,r⟩ := v
 ·exact ⟨ws,rfl,rfl,rfl,rfl,r⟩
 ·exact ⟨ws,by simp [asL,e],by simp [asM,e],rfl,by simp [tyD,e],r⟩
theorem cK (v : Vw F sa h (.tup qs) w) : ∃ ws,w = .tup ws /\ Reps F sa h qs ws := by simpa only [Vw,Rep] using v
theorem nA (v : Vw F sa h (.kt qs) w) : ∃ ws,w = .kt ws /\ Reps F sa h qs ws := by simpa only [Vw,Rep] using v
theorem bZ {i : Int} (v : Vw F sa h (.int i) w) : w = .int i := by simpa only [Vw,Rep] using v
theorem iI {i : Bool} (v : Vw F sa h (.bl i) w) : w = .bl i := by simpa only [Vw,Rep] using v
theorem bX {i : Str} (v : Vw F sa h (.str i) w) : w = .str i := by simpa only [Vw,Rep] using v
theorem uD (v : Vw F sa h .non w) : w = .non := by simpa only [Vw,Rep] using v
theorem aHq {n : String} (v : Vw F sa h (.ty n) w) : w = .ty n := by simpa only [Vw,Rep] using v
theorem aKI {n : Nat} (v : Vw F sa h (.cls n) w) : w = .cls n := by simpa only [Vw,Rep] using v
theorem aLY {c : Nat} {ks : List Str} (v : Vw F sa h (.xc c ks qs) w) : ∃ ws,w = .xc c ks ws /\ Reps F sa h qs ws := by simpa only [Vw,Rep] using v
theorem cZ {i : Int} : Rep F sa h (.int i) (.int i) := by simp only [Rep]
theorem cF {i : Bool} : Rep F sa h (.bl i) (.bl i) := by simp only [Rep]
theorem fF {i : Str} : Rep F sa h (.str i) (.str i) := by simp only [Rep]
theorem aC6 : Rep F sa h .non .non := by simp only [Rep]
theorem kI (r : Reps F sa h qs ws) : Rep F sa h (.tup qs) (.tup ws) := by simp only [Rep]; exact ⟨ws,rfl,r⟩
theorem aFe (r : Reps F sa h qs ws) : Rep F sa h (.lst qs) (.tl ws) := by simp only [Rep]; exact ⟨ws, .inl rfl,r⟩
def bD : Nat -> Q -> Option PyData
 | 0,_ => none
 | n + 1,q => match q with
  | .non => some .none
  | .bl b => some (.bool b)
  | .int i => some (.int i)
  | .str x => some (.str x)
  | .tup ws => (aK (bD n) ws).map .tuple
  | .kt ws => (aK (bD n) ws).map .tuple
  | .lst ws => (aK (bD n) ws).map .list
  | _ => none
theorem dM {β : Type} {f : Q -> Option β} {g : D -> Option β} (hf : ∀ q w b,Rep F sa h q w -> f q = some b -> g w = some b) : ∀ {qs : List Q} {ws : List D} {bs : List β},Reps F sa h qs ws -> aK f qs = some bs -> aK g ws = some bs
 | [],_,bs,r,e => by simp only [Reps] at r; subst r; simpa [aK] using e
 | q :: qs,_,bs,r,e => by
  simp only [Reps] at r
  obtain ⟨w,r,rfl,_,h2,z⟩ := r
  simp only [aK] at e ⊢
  cases e1 : f q with
  | none => rw [e1] at e; cases e
  | some b =>
   cases e2 : aK f qs with
   | none => rw [e1,e2] at e; cases e
   | some b' =>
    rw [e1,e2] at e
    rw [hf q w b h2 e1,dM hf z e2]
    exact e
theorem iQ : ∀ {n : Nat} {q : Q} {w : D} {d : PyData},Vw F sa h q w -> bD n q = some d -> toP h n w = some d
 | 0,_,_,_,_,e => by simp [bD] at e
 | n + 1,q,w,d,v,e => by
  have ih : ∀ q w b,Rep F sa h q w -> bD n q = some b -> toP h n w = some b := fun q w b r e => iQ r.vw e
  cases q with
  | non => cases uD v; simpa [toP,bD] using e
  | bl b => cases iI v; simpa [toP,bD] using e
  | int i => cases bZ v; simpa [toP,bD] using e
  | str x => cases bX v; simpa [toP,bD] using e
  | tup qs =>
   obtain ⟨ws,rfl,r⟩ := cK v
   simp only [bD,Option.map_eq_some_iff] at e
   obtain ⟨ds,e,rfl⟩ := e
   simp only [toP,dM ih r e,Option.map_some]
  | kt qs =>
   obtain ⟨ws,rfl,r⟩ := nA v
   simp only [bD,Option.map_eq_some_iff] at e
   obtain ⟨ds,e,rfl⟩ := e
   simp only [toP,dM ih r e,Option.map_some]
  | lst qs =>
   obtain ⟨ws,hw,r⟩ := v
   simp only [bD,Option.map_eq_some_iff] at e
   obtain ⟨ds,e,rfl⟩ := e
   rcases hw with rfl | ⟨a,rfl,ea⟩
   ·simp only [toP,dM ih r e,Option.map_some]
   ·simp only [toP,ea,dM ih r e,Option.map_some]
  | _ => simp [bD] at e
def qS (f : D -> Hh -> R D) (g : Q -> Option Q) : Prop := ∀ (F : Nat -> Prop) (sa : Nat) (h : Hh) (x : Q) (u : D) (q : Q),Vw F sa h x u -> g x = some q -> ∃ w,f u h = .ok w h /\ Rep F sa h q w
def iJ (f : D -> D -> Hh -> R D) (g : Q -> Q -> Option Q) : Prop := ∀ (F : Nat -> Prop) (sa : Nat) (h : Hh) (x y : Q) (u v : D) (q : Q),Vw F sa h x u -> Vw F sa h y v -> g x y = some q -> ∃ w,f u v h = .ok w h /\ Rep F sa h q w
/-- the same,and a list is a list just made -/
def aGW (f : D -> Hh -> R D) (g : Q -> Option Q) : Prop := ∀ (F : Nat -> Prop) (sa : Nat) (h : Hh) (x : Q) (u : D) (q : Q),Vw F sa h x u -> g x = some q -> ∃ qs ws,q = .lst qs /\ f u h = .ok (.tl ws) h /\ Reps F sa h qs ws
def aKV (f : D -> D -> Hh -> R D) (g : Q -> Q -> Option Q) : Prop := ∀ (F : Nat -> Prop) (sa : Nat) (h : Hh) (x y : Q) (u v : D) (q : Q),Vw F sa h x u -> Vw F sa h y v -> g x y = some q -> ∃ qs ws,q = .lst qs /\ f u v h = .ok (.tl ws) h /\ Reps F sa h qs ws
def cR : Q -> Q -> Option Q
 | .int i, .int j => some (.int (i + j))
 | .str i, .str j => if i.length + j.length <= sizeLine then some (.str (i ++ j)) else none
 | .tup i, .tup j => if i.length + j.length <= sizeLine then some (.tup (i ++ j)) else none
 | .lst i, .lst j => if i.length + j.length <= sizeLine then some (.lst (i ++ j)) else none
 | _,_ => none
def aHi : Q -> Q -> Option Q
 | .lst i, .lst j => if i.length + j.length <= sizeLine then some (.lst (i ++ j)) else none
 | _,_ => none
theorem aJL : aKV bP aHi := by
 intro F sa h x y u v q rx ry e
 unfold aHi at e
 split at e
 ·split at e
  ·rename_i i j hl
   cases e
   obtain ⟨ws,a1,a2,a3,a4,r1⟩ := iT rx
   obtain ⟨us,b1,b2,b3,b4,r2⟩ := iT ry
   refine ⟨_,ws ++ us,rfl, ?_,r1.app r2⟩
   have hl' : ws.length + us.length <= sizeLine := by rw [r1.len,r2.len]; exact hl
   obtain ⟨_,rfl | ⟨a,rfl,ea⟩,_⟩ := rx <;> simp only [bP,asT,a2,b2,hl',if_true]
  ·cases e
 ·cases e
theorem fQ : iJ bP cR := by
 intro F sa h x y u v q rx ry e
 unfold cR at e
 split at e
 ·cases e; cases bZ rx; cases bZ ry; exact ⟨_,rfl,cZ⟩
 ·split at e
  ·rename_i hl
   cases e; cases bX rx; cases bX ry; exact ⟨_,by simp only [bP,hl,if_true],fF⟩
  ·cases e
 ·split at e
  ·rename_i hl
   cases e
   obtain ⟨ws,rfl,r1⟩ := cK rx
   obtain ⟨us,rfl,r2⟩ := cK ry
   rw [<- r1.len,<- r2.len] at hl
   exact ⟨_,aFC (by exact hl),kI (r1.app r2)⟩
  ·cases e
 ·rename_i i j
  obtain ⟨qs,ws,rfl,e2,r⟩ := aJL F sa h _ _ u v q rx ry e
  exact ⟨_,e2,aFe r⟩
 ·cases e
def tT : Q -> Q -> Option Q
 | .int i, .int j => some (.int (i - j))
 | _,_ => none
theorem aD1 : iJ kD tT := by
 intro F sa h x y u v q rx ry e
 unfold tT at e
 split at e
 ·cases e; cases bZ rx; cases bZ ry; exact ⟨_,rfl,cZ⟩
 ·cases e
def rX (x y : Q) : Option Bool := match x,y with
 | .str a, .str b => some (decide (a = b))
 | x,y => match bD bG x,bD bG y with
  | some d,some e => if SeqAt.shaped d && SeqAt.shaped e then some (PyData.eqv d e) else none
  | _,_ => none
def qEq (x y : Q) : Option Q := (rX x y).map .bl
def qNe (x y : Q) : Option Q := (rX x y).map fun b => .bl (!b)
theorem aCR {b : Bool} (rx : Vw F sa h x u) (ry : Vw F sa h y v) (e : rX x y = some b) : eqW u v h = .ok (.bl b) h /\ neW u v h = .ok (.bl (!b)) h := by
 unfold rX at e
 split at e
 ·cases e; cases bX rx; cases bX ry; exact ⟨rfl,rfl⟩
 ·rename_i hn
  split at e
  ·rename_i d d' e1 e2
   split at e
   ·rename_i hz
    cases e
    have p1 := iQ rx e1
    have p2 := iQ ry e2
    have hne : ¬ ∃ a b,u = .str a /\ v = .str b := by
     rintro ⟨a,b,rfl,rfl⟩
     have t1 : toP h bG (.str a) = some (.str a) := rfl
     have t2 : toP h bG (.str b) = some (.str b) := rfl
     rw [t1] at p1; rw [t2] at p2
     cases p1; cases p2
     have k1 : ∀ {x : Q} {a : Str},bD bG x = some (.str a) -> x = .str a := fun {x a} e => by
      cases x with
      | str z => simp only [bD,bG] at e; cases e; rfl
      | tup z => simp only [bD,bG,Option.map_eq_some_iff] at e; obtain ⟨_,_,e⟩ := e; cases e
      | kt z => simp only [bD,bG,Option.map_eq_some_iff] at e; obtain ⟨_,_,e⟩ := e; cases e
      | lst z => simp only [bD,bG,Option.map_eq_some_iff] at e; obtain ⟨_,_,e⟩ := e; cases e
      | _ => simp only [bD,bG] at e; cases e
     exact hn a b (k1 e1) (k1 e2)
    have ed : eqD h u v = some (PyData.eqv d d') := by simp only [eqD,p1,p2,hz,if_true]
    constructor
    ·unfold eqW; split
     ·exact absurd ⟨_,_,rfl,rfl⟩ hne
     ·rw [ed]
    ·unfold neW; split
     ·exact absurd ⟨_,_,rfl,rfl⟩ hne
     ·rw [ed]
   ·cases e
  ·cases e
theorem wB : iJ eqW qEq := by
 intro F sa h x y u v q rx ry e
 unfold qEq at e
 obtain ⟨b,e',rfl⟩ := Option.map_eq_some_iff.mp e
 exact ⟨_,(aCR rx ry e').1,cF⟩
theorem aBM : iJ neW qNe := by
 intro F sa h x y u v q rx ry e
 unfold qNe at e
 obtain ⟨b,e',rfl⟩ := Option.map_eq_some_iff.mp e
 exact ⟨_,(aCR rx ry e').2,cF⟩
end
end PV
end
section
namespace PV
open PySem PySem.Spec PyProof.Rows L2
section
variable {F : Nat -> Prop} {sa : Nat} {h : Hh} {q x y : Q} {w u v : D} {qs : List Q} {ws : List D}
def zJ : Q -> Option Key
 | .int i => some (.inl i)
 | .str x => some (.inr x)
 | _ => none
theorem zK {q : Q} {w : D} {k : Key} (r : Vw F sa h q w) (e : zJ q = some k) : toK w = some k := by
 cases q with
 | int i => cases bZ r; exact e
 | str i => cases bX r; exact e
 | _ => simp [zJ] at e
def oK {κ : Type} [DecidableEq κ] (kvs : List (κ × Q)) (k : κ) : Option Q := (kvs.find? fun kv => decide (kv.1 = k)).map (·.2)
theorem vL {κ : Type} [DecidableEq κ] {k : κ} : ∀ {kvs : List (κ × Q)} {ws : List (κ × D)},aY F sa h kvs ws -> (oK kvs k = none /\ eQ ws k = none) \/ ∃ q w,oK kvs k = some q /\ eQ ws k = some w /\ w.isTl = false /\ Rep F sa h q w
 | [],_,r => by simp only [aY] at r; subst r; exact .inl ⟨rfl,rfl⟩
 | (k',q) :: kvs,_,r => by
  simp only [aY] at r
  obtain ⟨w,r,rfl,h1,h2,z⟩ := r
  by_cases hk : k' = k
  ·subst hk
   exact .inr ⟨q,w,by simp [oK],by simp [eQ],h1,h2⟩
  ·have ih := vL (k := k) z
   have e1 : oK ((k',q) :: kvs) k = oK kvs k := by simp [oK,List.find?_cons,hk]
   have e2 : eQ ((k',w) :: r) k = eQ r k := by simp [eQ,List.find?_cons,hk]
   rw [e1,e2]; exact ih
/-- a key's place in a dict -/
def mS (d k : Q) : Option (Option Q) := match d with
 | .dK kvs => (zJ k).map (oK kvs)
 | .dT kvs => match k with
  | .tup ks => (aK zJ ks).map (oK kvs)
  | _ => none
 | _ => none
theorem rB {o : Option Q} (rx : Vw F sa h x u) (ry : Vw F sa h y v) (e : mS x y = some o) : (∃ a,u = .ref a /\ fD h u = none) /\ ((o = none /\ jG h u v = some none) \/ ∃ q w,o = some q /\ jG h u v = some (some w) /\ w.isTl = false /\ Rep F sa h q w) := by
 cases x with
 | dK kvs =>
  obtain ⟨a,ws,rfl,ea,r⟩ := rx
  simp only [mS,Option.map_eq_some_iff] at e
  obtain ⟨k,e1,rfl⟩ := e
  have e2 := zK ry e1
  refine ⟨⟨a,rfl,by simp [fD,ea]⟩, ?_⟩
  have : jG h (.ref a) v = some (eQ ws k) := by simp only [jG,ea,e2]
  rw [this]
  rcases vL (k := k) r with ⟨h1,h2⟩ | ⟨q,w,h1,h2,h3,h4⟩
  ·exact .inl ⟨h1,by rw [h2]⟩
  ·exact .inr ⟨q,w,h1,by rw [h2],h3,h4⟩
 | dT kvs =>
  obtain ⟨a,ws,rfl,ea,r⟩ := rx
  cases y with
  | tup ks =>
   obtain ⟨us,rfl,r2⟩ := cK ry
   simp only [mS,Option.map_eq_some_iff] at e
   obtain ⟨k,e1,rfl⟩ := e
   have e2 : aK toK us = some k := dM (fun q w b r e => zK r.vw e) r2 e1
   refine ⟨⟨a,rfl,by simp [fD,ea]⟩, ?_⟩
   have : jG h (.ref a) (.tup us) = some (eQ ws k) := by simp only [jG,ea,e2]
   rw [this]
   rcases vL (k := k) r with ⟨h1,h2⟩ | ⟨q,w,h1,h2,h3,h4⟩
   ·exact .inl ⟨h1,by rw [h2]⟩
   ·exact .inr ⟨q,w,h1,by rw [h2],h3,h4⟩
  | _ => simp [mS] at e
 | _ => simp [mS] at e
theorem yB {n : Nat} {x : Q} {ds : List PyData} (e : bD n x = some (.tuple ds)) : (∃ qs,x = .tup qs) \/ ∃ qs,x = .kt qs := by
 cases n with
 | zero => cases e
 | succ n =>
  cases x with
  | tup qs => exact .inl ⟨qs,rfl⟩
  | kt qs => exact .inr ⟨qs,rfl⟩
  | lst qs => simp only [bD,Option.map_eq_some_iff] at e; obtain ⟨_,_,e⟩ := e; cases e
  | _ => simp only [bD] at e; cases e
theorem uB {n : Nat} {x : Q} {ds : List PyData} (e : bD n x = some (.list ds)) : ∃ qs,x = .lst qs := by
 cases n with
 | zero => cases e
 | succ n =>
  cases x with
  | lst qs => exact ⟨qs,rfl⟩
  | tup qs => simp only [bD,Option.map_eq_some_iff] at e; obtain ⟨_,_,e⟩ := e; cases e
  | kt qs => simp only [bD,Option.map_eq_some_iff] at e; obtain ⟨_,_,e⟩ := e; cases e
  | _ => simp only [bD] at e; cases e
def aEc (y z : Str) : Bool := match y.cps.toList with
 | [c] => decide (c ∈ z.cps.toList)
 | _ => !(Builtin.Str.occurrences z y 0 z.length 1).isEmpty
theorem aHG {y z : Str} : inO (.str y) (.str z) h = some (aEc y z) := by
 simp only [inO,aEc]
 generalize y.cps.toList = l
 match l with
 | [] => rfl
 | [_] => rfl
 | _ :: _ :: _ => rfl
def lM (x y : Q) : Option Bool := match y with
 | .str z => match x with
  | .str y => some (aEc y z)
  | _ => none
 | .dK kvs => (mS (.dK kvs) x).map Option.isSome
 | .dT kvs => (mS (.dT kvs) x).map Option.isSome
 | y => match bD bG x,bD bG y with
  | some d,some (.tuple ds) => if SeqAt.shaped d && SeqAt.shaped (.tuple ds) then some (ds.any fun z => PyData.eqv z d) else none
  | some d,some (.list ds) => if SeqAt.shaped d && SeqAt.shaped (.list ds) then some (ds.any fun z => PyData.eqv z d) else none
  | _,_ => none
theorem aCW {b : Bool} (rx : Vw F sa h x u) (ry : Vw F sa h y v) (e : lM x y = some b) : inO u v h = some b := by
 cases y with
 | str z =>
  cases bX ry
  cases x with
  | str y => cases bX rx; rw [aHG]; exact e
  | _ => simp [lM] at e
 | dK kvs =>
  simp only [lM,Option.map_eq_some_iff] at e
  obtain ⟨o,e,rfl⟩ := e
  obtain ⟨⟨a,rfl,_⟩,hd⟩ := rB ry rx e
  simp only [inO]
  rcases hd with ⟨rfl,hd⟩ | ⟨q,w,rfl,hd,_⟩ <;> rw [hd] <;> rfl
 | dT kvs =>
  simp only [lM,Option.map_eq_some_iff] at e
  obtain ⟨o,e,rfl⟩ := e
  obtain ⟨⟨a,rfl,_⟩,hd⟩ := rB ry rx e
  simp only [inO]
  rcases hd with ⟨rfl,hd⟩ | ⟨q,w,rfl,hd,_⟩ <;> rw [hd] <;> rfl
 | tup qs =>
  obtain ⟨ws,rfl,r⟩ := cK ry
  simp only [lM] at e
  split at e
  ·rename_i d ds e1 e2
   have p1 := iQ rx e1
   have p2 := iQ ry e2
   simp only [inO,p1,p2]; exact e
  ·rename_i d ds e1 e2
   obtain ⟨_,e2⟩ := uB e2; cases e2
  ·cases e
 | kt qs =>
  obtain ⟨ws,rfl,r⟩ := nA ry
  simp only [lM] at e
  split at e
  ·rename_i d ds e1 e2
   have p1 := iQ rx e1
   have p2 := iQ ry e2
   simp only [inO,p1,p2]; exact e
  ·rename_i d ds e1 e2
   obtain ⟨_,e2⟩ := uB e2; cases e2
  ·cases e
 | lst qs =>
  simp only [lM] at e
  split at e
  ·rename_i d ds e1 e2
   rcases yB e2 with ⟨_,e2⟩ | ⟨_,e2⟩ <;> cases e2
  ·rename_i d ds e1 e2
   have p1 := iQ rx e1
   have p2 := iQ ry e2
   obtain ⟨ws,rfl | ⟨a,rfl,ea⟩,r⟩ := ry
   ·simp only [inO,jG,p1,p2]; exact e
   ·simp only [inO,jG,ea,p1,p2]; exact e
  ·cases e
 | _ =>
  simp only [lM] at e
  split at e
  ·rename_i d ds e1 e2
   rcases yB e2 with ⟨_,e2⟩ | ⟨_,e2⟩ <;> cases e2
  ·rename_i d ds e1 e2
   obtain ⟨_,e2⟩ := uB e2; cases e2
  ·cases e
def qIn (x y : Q) : Option Q := (lM x y).map .bl
def qNi (x y : Q) : Option Q := (lM x y).map fun b => .bl (!b)
theorem aBK : iJ inW qIn := by
 intro F sa h x y u v q rx ry e
 obtain ⟨b,e',rfl⟩ := Option.map_eq_some_iff.mp e
 exact ⟨_,by simp only [inW,aCW rx ry e'],cF⟩
theorem aM6 : iJ niW qNi := by
 intro F sa h x y u v q rx ry e
 obtain ⟨b,e',rfl⟩ := Option.map_eq_some_iff.mp e
 exact ⟨_,by simp only [niW,aCW rx ry e'],cF⟩
def iG : Q -> Option Int
 | .int i => some i
 | _ => none
theorem zI {q : Q} {w : D} {k : Int} (r : Rep F sa h q w) (e : iG q = some k) : toI w = some k := by
 cases q with
 | int i => cases bZ r.vw; exact e
 | _ => simp [iG] at e
def qLt : Q -> Q -> Option Q
 | .int i, .int j => some (.bl (decide (i < j)))
 | .str i, .str j => some (.bl (decide (i.cps.toList < j.cps.toList)))
 | .tup i, .tup j => match aK iG i,aK iG j with
  | some i,some j => some (.bl (HT.lexLt i j))
  | _,_ => none
 | _,_ => none
theorem aBL : iJ ltW qLt := by
 intro F sa h x y u v q rx ry e
 unfold qLt at e
 split at e
 ·cases e; cases bZ rx; cases bZ ry; exact ⟨_,rfl,cF⟩
 ·cases e; cases bX rx; cases bX ry; exact ⟨_,rfl,cF⟩
 ·split at e
  ·rename_i e1 e2
   cases e
   obtain ⟨ws,rfl,r1⟩ := cK rx
   obtain ⟨us,rfl,r2⟩ := cK ry
   exact ⟨_,by simp only [ltW,asT,dM (fun q w b r e => zI r e) r1 e1,dM (fun q w b r e => zI r e) r2 e2],cF⟩
  ·cases e
 ·cases e
def qLe : Q -> Q -> Option Q
 | .int i, .int j => some (.bl (decide (i <= j)))
 | .str i, .str j => some (.bl (!decide (j.cps.toList < i.cps.toList)))
 | _,_ => none
def qGt : Q -> Q -> Option Q
 | .int i, .int j => some (.bl (decide (j < i)))
 | .str i, .str j => some (.bl (decide (j.cps.toList < i.cps.toList)))
 | _,_ => none
def qGe : Q -> Q -> Option Q
 | .int i, .int j => some (.bl (decide (j <= i)))
 | .str i, .str j => some (.bl (!decide (i.cps.toList < j.cps.toList)))
 | _,_ => none
theorem aD0 : iJ leW qLe := by
 intro F sa h x y u v q rx ry e
 unfold qLe at e
 split at e
 ·cases e; cases bZ rx; cases bZ ry; exact ⟨_,rfl,cF⟩
 ·cases e; cases bX rx; cases bX ry; exact ⟨_,rfl,cF⟩
 ·cases e
theorem aJN : iJ gtW qGt := by
 intro F sa h x y u v q rx ry e
 unfold qGt at e
 split at e
 ·cases e; cases bZ rx; cases bZ ry; exact ⟨_,rfl,cF⟩
 ·cases e; cases bX rx; cases bX ry; exact ⟨_,rfl,cF⟩
 ·cases e
theorem aJM : iJ geW qGe := by
 intro F sa h x y u v q rx ry e
 unfold qGe at e
 split at e
 ·cases e; cases bZ rx; cases bZ ry; exact ⟨_,rfl,cF⟩
 ·cases e; cases bX rx; cases bX ry; exact ⟨_,rfl,cF⟩
 ·cases e
def Q.isNon : Q -> Bool
 | .non => true
 | _ => false
theorem aF7 (r : Vw F sa h q w) : w.isNon = q.isNon := by
 cases q with
 | non => cases uD r; rfl
 | bl b => cases iI r; rfl
 | int b => cases bZ r; rfl
 | str b => cases bX r; rfl
 | tup b => obtain ⟨_,rfl,_⟩ := cK r; rfl
 | kt b => obtain ⟨_,rfl,_⟩ := nA r; rfl
 | xc c k b => obtain ⟨_,rfl,_⟩ := aLY r; rfl
 | lst b => obtain ⟨_,rfl | ⟨_,rfl,_⟩,_⟩ := r <;> rfl
 | dK b => obtain ⟨_,_,rfl,_⟩ := r; rfl
 | dT b => obtain ⟨_,_,rfl,_⟩ := r; rfl
 | ins c b => obtain ⟨_,_,rfl,_⟩ := r; rfl
 | ty b => cases aHq r; rfl
 | cls b => cases aKI r; rfl
 | fn b => simp only [Vw,Rep] at r; cases r; rfl
 | src => simp only [Vw,Rep] at r; cases r; rfl
def qIs : Q -> Q -> Option Q
 | .bl a, .bl b => some (.bl (decide (a = b)))
 | x, .non => some (.bl x.isNon)
 | _,_ => none
def aBA : Q -> Q -> Option Q
 | .bl a, .bl b => some (.bl (!decide (a = b)))
 | x, .non => some (.bl (!x.isNon))
 | _,_ => none
theorem aLu : iJ xA aBA := by
 intro F sa h x y u v q rx ry e
 unfold aBA at e
 split at e
 ·cases e; cases iI rx; cases iI ry; exact ⟨_,rfl,cF⟩
 ·cases e; cases uD ry; rw [<- aF7 rx]; exact ⟨_,by cases u <;> rfl,cF⟩
 ·cases e
def qIx (x y : Q) : Option Q := match x,y with
 | .lst qs, .int i => atI qs i
 | .tup qs, .int i => atI qs i
 | .kt qs, .int i => atI qs i
 | .str z, .int i => if z.length <= sizeLine then (atI z.cps.toList i).map fun c => .str ⟨#[c]⟩ else none
 | .dK kvs,y => (mS (.dK kvs) y).join
 | .dT kvs,y => (mS (.dT kvs) y).join
 | _,_ => none
theorem vE {i : Int} (r : Reps F sa h qs ws) (e : atI qs i = some q) : ∃ w,atI ws i = some w /\ Rep F sa h q w := by
 unfold atI at e ⊢
 rw [r.len]
 cases hi : ixN qs.length i with
 | none => rw [hi] at e; cases e
 | some j =>
  rw [hi] at e
  obtain ⟨w,e1,_,e2⟩ := r.get e
  exact ⟨w,e1,e2⟩
theorem dS : iJ ixW qIx := by
 intro F sa h x y u v q rx ry e
 unfold qIx at e
 split at e
 ·cases bZ ry
  obtain ⟨ws,a1,a2,a3,a4,r1⟩ := iT rx
  obtain ⟨w,e1,e2⟩ := vE r1 e
  exact ⟨w,by simp only [ixW,a1,e1],e2⟩
 ·cases bZ ry
  obtain ⟨ws,rfl,r1⟩ := cK rx
  obtain ⟨w,e1,e2⟩ := vE r1 e
  exact ⟨w,by simp only [ixW,asL,asT,e1],e2⟩
 ·cases bZ ry
  obtain ⟨ws,rfl,r1⟩ := nA rx
  obtain ⟨w,e1,e2⟩ := vE r1 e
  exact ⟨w,by simp only [ixW,asL,asT,e1],e2⟩
 ·cases bZ ry
  cases bX rx
  split at e
  ·rename_i hl
   obtain ⟨c,e1,rfl⟩ := Option.map_eq_some_iff.mp e
   exact ⟨_,by simp only [ixW,asL,asT,hl,if_true,e1],fF⟩
  ·cases e
 ·obtain ⟨o,e1,e2⟩ := Option.join_eq_some_iff.mp e |> fun z => (⟨some q,z,rfl⟩ : ∃ o,_ = some o /\ o = some q)
  subst e2
  obtain ⟨⟨a,rfl,hl⟩,hd⟩ := rB rx ry e1
  rcases hd with ⟨hd,_⟩ | ⟨q',w,hq,hd,_,hr⟩
  ·cases hd
  ·cases hq
   refine ⟨w, ?_,hr⟩
   have h1 : asL h (.ref a) = none := by
    unfold fD at hl
    simp only [asL]
    cases hh : h[a]? with
    | none => rfl
    | some c => cases c <;> simp_all
   cases v <;> simp only [ixW,h1,asT,hd]
 ·obtain ⟨o,e1,e2⟩ := Option.join_eq_some_iff.mp e |> fun z => (⟨some q,z,rfl⟩ : ∃ o,_ = some o /\ o = some q)
  subst e2
  obtain ⟨⟨a,rfl,hl⟩,hd⟩ := rB rx ry e1
  rcases hd with ⟨hd,_⟩ | ⟨q',w,hq,hd,_,hr⟩
  ·cases hd
  ·cases hq
   refine ⟨w, ?_,hr⟩
   have h1 : asL h (.ref a) = none := by
    unfold fD at hl
    simp only [asL]
    cases hh : h[a]? with
    | none => rfl
    | some c => cases c <;> simp_all
   cases v <;> simp only [ixW,h1,asT,hd]
 ·cases e
def pC (xs : List Q) (lo hi : Option Int) : List Q := (xs.drop (HT.sIx xs.length 0 lo)).take (HT.sIx xs.length xs.length hi - HT.sIx xs.length 0 lo)
def qSl (x : Q) (lo hi : Option Int) : Option Q := match x with
 | .lst qs => some (.lst (pC qs lo hi))
 | .tup qs => some (.tup (pC qs lo hi))
 | .str z => if z.length <= sizeLine then some (.str (cutS z lo hi)) else none
 | _ => none
theorem aAW {lo hi : Option Int} (r : Reps F sa h qs ws) : Reps F sa h (pC qs lo hi) (pB ws lo hi) := by
 unfold pC pB
 rw [r.len]
 exact (r.drop _).take _
theorem aHv {lo hi : Option Int} (hz : HT.sIx ws.length 0 lo = 0 /\ HT.sIx ws.length ws.length hi = ws.length) : pB ws lo hi = ws := by
 unfold pB
 rw [hz.1,hz.2]; simp
theorem aM7 {lo hi : Option Int} (rx : Vw F sa h x u) (e : qSl x lo hi = some q) : ∃ w,slW u lo hi h = .ok w h /\ Rep F sa h q w := by
 unfold qSl at e
 split at e
 ·cases e
  obtain ⟨ws,a1,a2,a3,a4,r1⟩ := iT rx
  exact ⟨_,by simp only [slW,a1],aFe (aAW r1)⟩
 ·cases e
  obtain ⟨ws,rfl,r1⟩ := cK rx
  refine ⟨.tup (pB ws lo hi), ?_,kI (aAW r1)⟩
  simp only [slW,asL,asT]
  split
  ·rename_i hz; rw [aHv hz]
  ·rfl
 ·split at e
  ·rename_i hl
   cases e; cases bX rx
   exact ⟨_,by simp only [slW,asL,asT,hl,if_true],fF⟩
  ·cases e
 ·cases e
end
end PV
end
section
namespace PV
open PySem PySem.Spec PyProof.Rows L2
section
variable {F : Nat -> Prop} {sa : Nat} {h : Hh} {q x y : Q} {w u v : D} {qs : List Q} {ws : List D}
def dN : Q -> Option Q
 | .lst qs => some (.int qs.length)
 | .tup qs => some (.int qs.length)
 | .kt qs => some (.int qs.length)
 | .str z => if z.length <= sizeLine then some (.int z.length) else none
 | .dK kvs => some (.int kvs.length)
 | .dT kvs => some (.int kvs.length)
 | _ => none
theorem aY.len {κ : Type} {kvs : List (κ × Q)} {ws : List (κ × D)} (r : aY F sa h kvs ws) : ws.length = kvs.length := by
 have := congrArg List.length r.keys
 simpa using this
theorem iH : qS bW dN := by
 intro F sa h x u q rx e
 unfold dN at e
 split at e
 ·cases e
  obtain ⟨ws,a1,a2,a3,a4,r1⟩ := iT rx
  exact ⟨.int ws.length,by simp only [bW,a1],by rw [r1.len]; exact cZ⟩
 ·cases e
  obtain ⟨ws,rfl,r1⟩ := cK rx
  exact ⟨.int ws.length,by simp only [bW,asL,asT],by rw [r1.len]; exact cZ⟩
 ·cases e
  obtain ⟨ws,rfl,r1⟩ := nA rx
  exact ⟨.int ws.length,by simp only [bW,asL,asT],by rw [r1.len]; exact cZ⟩
 ·split at e
  ·rename_i hl
   cases e; cases bX rx
   exact ⟨_,by simp only [bW,asL,asT,hl,if_true],cZ⟩
  ·cases e
 ·cases e
  obtain ⟨a,ws,rfl,ea,r⟩ := rx
  exact ⟨.int ws.length,by simp only [bW,asL,asT,ea],by rw [r.len]; exact cZ⟩
 ·cases e
  obtain ⟨a,ws,rfl,ea,r⟩ := rx
  exact ⟨.int ws.length,by simp only [bW,asL,asT,ea],by rw [r.len]; exact cZ⟩
 ·cases e
def aDV : Q -> Option Q
 | .int i => some (.int (-i))
 | _ => none
theorem aLv : qS yQ aDV := by
 intro F sa h x u q rx e
 unfold aDV at e
 split at e
 ·cases e; cases bZ rx; exact ⟨_,rfl,cZ⟩
 ·cases e
def rZ : Q -> Option Q
 | .int i => some (.int i)
 | .bl k => some (.int (if k then 1 else 0))
 | .str a => match PySem.intText? a with
  | some n => if a.length <= 640 then some (.int n) else none
  | none => none
 | _ => none
theorem aDZ : qS nS rZ := by
 intro F sa h x u q rx e
 unfold rZ at e
 split at e
 ·cases e; cases bZ rx; exact ⟨_,rfl,cZ⟩
 ·cases e; cases iI rx; exact ⟨_,rfl,cZ⟩
 ·cases bX rx
  split at e
  ·rename_i e1
   split at e
   ·rename_i hl
    cases e
    exact ⟨_,by simp only [nS,e1,hl,if_true],cZ⟩
   ·cases e
  ·cases e
 ·cases e
def aE6 : Q -> Option Q
 | .lst qs => some (.tup qs)
 | .tup qs => some (.tup qs)
 | _ => none
def sL : Q -> Option Q
 | .lst qs => some (.lst qs)
 | .tup qs => some (.lst qs)
 | .kt qs => some (.lst qs)
 | .str z => if z.cps.size <= sizeLine then some (.lst (z.cps.toList.map fun c => .str ⟨#[c]⟩)) else none
 | _ => none
theorem oB {α : Type} {f : α -> Q} {g : α -> D} {l : List α} (hf : ∀ a ∈ l,(g a).isTl = false /\ Rep F sa h (f a) (g a)) : Reps F sa h (l.map f) (l.map g) := by
 induction l with
 | nil => simp [Reps]
 | cons a l ih =>
  simp only [List.map_cons,Reps]
  exact ⟨_,_,rfl,(hf a (by simp)).1,(hf a (by simp)).2,ih fun b hb => hf b (by simp [hb])⟩
theorem aFh : aGW jO sL := by
 intro F sa h x u q rx e
 unfold sL at e
 split at e
 ·cases e
  obtain ⟨ws,a1,a2,a3,a4,r1⟩ := iT rx
  exact ⟨_,_,rfl,by simp only [jO,a1],r1⟩
 ·cases e
  obtain ⟨ws,rfl,r1⟩ := cK rx
  exact ⟨_,_,rfl,by simp only [jO,asL,asT],r1⟩
 ·cases e
  obtain ⟨ws,rfl,r1⟩ := nA rx
  exact ⟨_,_,rfl,by simp only [jO,asL,asT],r1⟩
 ·split at e
  ·rename_i hl
   cases e; cases bX rx
   exact ⟨_,_,rfl,by simp only [jO,asL,asT,hl,if_true],oB fun c _ => ⟨rfl,fF⟩⟩
  ·cases e
 ·cases e
def cH : Q -> Option Bool
 | .bl b => some b
 | _ => none
theorem aIx {q : Q} {w : D} {k : Bool} (r : Rep F sa h q w) (e : cH q = some k) : toB w = some k := by
 cases q with
 | bl i => cases iI r.vw; exact e
 | _ => simp [cH] at e
def tR : Q -> Option Q
 | .lst qs => (aK cH qs).map fun bs => .bl (bs.all id)
 | _ => none
def aJz : Q -> Option Q
 | .lst qs => (aK cH qs).map fun bs => .bl (bs.any id)
 | _ => none
def aDX : Q -> Option Q
 | .lst qs => (aK iG qs).map fun bs => .int bs.sum
 | _ => none
theorem aAH : qS jD tR := by
 intro F sa h x u q rx e
 unfold tR at e
 split at e
 ·obtain ⟨ws,a1,a2,a3,a4,r1⟩ := iT rx
  obtain ⟨bs,e1,rfl⟩ := Option.map_eq_some_iff.mp e
  exact ⟨_,by simp only [jD,a1,dM (fun q w b r e => aIx r e) r1 e1],cF⟩
 ·cases e
theorem aLw : qS tY aDX := by
 intro F sa h x u q rx e
 unfold aDX at e
 split at e
 ·obtain ⟨ws,a1,a2,a3,a4,r1⟩ := iT rx
  obtain ⟨bs,e1,rfl⟩ := Option.map_eq_some_iff.mp e
  exact ⟨_,by simp only [tY,a1,dM (fun q w b r e => zI r e) r1 e1],cZ⟩
 ·cases e
def sM (x : Q) : Option Q := match bD bG x with
 | some d => if d.showable && decide (d.shown.length <= sizeLine) && SeqAt.shaped d then some (.str d.shown) else none
 | none => none
theorem aJO : qS xS sM := by
 intro F sa h x u q rx e
 unfold sM at e
 split at e
 ·rename_i d e1
  split at e
  ·rename_i hz
   cases e
   exact ⟨_,by simp only [xS,iQ rx e1,hz,if_true],fF⟩
  ·cases e
 ·cases e
theorem aIa : qS jB sM := by
 intro F sa h x u q rx e
 obtain ⟨w,e2,r⟩ := aJO F sa h x u q rx e
 refine ⟨w, ?_,r⟩
 unfold sM at e
 split at e
 ·rename_i d e1
  simp only [jB,iQ rx e1]; exact e2
 ·cases e
def aMV : Q -> Q -> Option Q
 | .int i, .int j => some (.int (if j > i then j else i))
 | _,_ => none
def aMW : Q -> Q -> Option Q
 | .int i, .int j => some (.int (if j < i then j else i))
 | _,_ => none
def tyQ : Q -> Option String
 | .non => some "NoneType"
 | .bl _ => some "bool"
 | .int _ => some "int"
 | .str _ => some "str"
 | .tup _ => some "tuple"
 | .kt _ => some "tuple"
 | .lst _ => some "list"
 | .dK _ => some "dict"
 | .dT _ => some "dict"
 | _ => none
theorem aKE {t : String} (r : Vw F sa h q w) (e : tyQ q = some t) : tyD h w = some t := by
 cases q with
 | non => cases uD r; exact e
 | bl b => cases iI r; exact e
 | int b => cases bZ r; exact e
 | str b => cases bX r; exact e
 | tup b => obtain ⟨_,rfl,_⟩ := cK r; exact e
 | kt b => obtain ⟨_,rfl,_⟩ := nA r; exact e
 | lst b => obtain ⟨_,_,_,_,a4,_⟩ := iT r; rw [a4]; exact e
 | dK b => obtain ⟨_,_,rfl,ea,_⟩ := r; simp only [tyD,ea]; exact e
 | dT b => obtain ⟨_,_,rfl,ea,_⟩ := r; simp only [tyD,ea]; exact e
 | _ => simp [tyQ] at e
def aV : Q -> Q -> Option Q
 | x, .ty n => match tyQ x with
  | some t => (kitB t n).map .bl
  | none => none
 | _,_ => none
theorem jV : iJ gP aV := by
 intro F sa h x y u v q rx ry e
 unfold aV at e
 split at e
 ·cases aHq ry
  split at e
  ·rename_i t e1
   obtain ⟨b,e2,rfl⟩ := Option.map_eq_some_iff.mp e
   exact ⟨_,by simp only [gP,aAC,aKE rx e1,e2],cF⟩
  ·cases e
 ·cases e
def aMT (f : Str) : Q -> Option Q
 | .xc c ks qs => if 100 <= c then (ks.zip qs).lookup f else none
 | .ins c fs => if c < 100 then fs.lookup f else none
 | _ => none
end
end PV
end
section
namespace PV
open PySem PySem.Spec PyProof.Rows L2
/-- whole -/
structure SEs (Γ : List Sl) (m : M D) (p : Pm Q) : Prop where
 run : ∀ {B : Bs} {F : Nat -> Prop} {O : Nat -> Option Nat} {σ : Sg} {h : Hh} {c : Nat} {K : Rs Q -> Nat -> Prop},Iv B F h c -> En B F O h Γ σ -> p K c -> Out B F h (RlS B) K (m σ h)
/-- whole,or one's own -/
structure SEw (Γ : List Sl) (m : M D) (p : Pm Q) : Prop where
 run : ∀ {B : Bs} {F : Nat -> Prop} {O : Nat -> Option Nat} {σ : Sg} {h : Hh} {c : Nat} {K : Rs Q -> Nat -> Prop},Iv B F h c -> En B F O h Γ σ -> p K c -> Out B F h (fun F' h' q w => nO B O F' h' q w) K (m σ h)
/-- fresh -/
structure SEf (Γ : List Sl) (m : M D) (p : Pm Q) : Prop where
 run : ∀ {B : Bs} {F : Nat -> Prop} {O : Nat -> Option Nat} {σ : Sg} {h : Hh} {c : Nat} {K : Rs Q -> Nat -> Prop},Iv B F h c -> En B F O h Γ σ -> p K c -> Out B F h (RlF h.length B) K (m σ h)
structure STb (Γ : List Sl) (m : M Bool) (p : Pm Bool) : Prop where
 run : ∀ {B : Bs} {F : Nat -> Prop} {O : Nat -> Option Nat} {σ : Sg} {h : Hh} {c : Nat} {K : Rs Bool -> Nat -> Prop},Iv B F h c -> En B F O h Γ σ -> p K c -> Out B F h RlE K (m σ h)
structure SAs (n : Nat) (Γ : List Sl) (m : M (List D)) (p : Pm (List Q)) : Prop where
 run : ∀ {B : Bs} {F : Nat -> Prop} {O : Nat -> Option Nat} {σ : Sg} {h : Hh} {c : Nat} {K : Rs (List Q) -> Nat -> Prop},Iv B F h c -> En B F O h Γ σ -> p K c -> Out B F h (fun F' h' q w => Reps F' B.sa h' q w /\ q.length = n) K (m σ h)
structure SPo (Γ : List Sl) (m : Option (M D)) (p : Pm (Option Int)) : Prop where
 run : ∀ {B : Bs} {F : Nat -> Prop} {O : Nat -> Option Nat} {σ : Sg} {h : Hh} {c : Nat} {K : Rs (Option Int) -> Nat -> Prop},Iv B F h c -> En B F O h Γ σ -> p K c -> Out B F h RlE K (oN m σ h)
/-- a def: fr tells whether its result is fresh -/
structure FnS (fr : Bool) (cl : List D -> Hh -> R D) (p : List Q -> Pm Q) : Prop where
 run : ∀ {F : Nat -> Prop} {sa : Nat} {h : Hh} {c : Nat} {K : Rs Q -> Nat -> Prop} {qs : List Q} {ws : List D},Iv ⟨h,F,sa⟩ F h c -> Reps F sa h qs ws -> p qs K c ->
  Out ⟨h,F,sa⟩ F h (fun F' h' q w => if fr = true then qR h.length F' sa h' q w else Rep F' sa h' q w) K (cl ws h)
section
variable {Γ : List Sl} {m a b d : M D} {p pa pb pd : Pm Q} {q : Q} {w : D} {f : D -> D -> Hh -> R D} {g : Q -> Q -> Option Q} {f1 : D -> Hh -> R D} {g1 : Q -> Option Q}
theorem SEs.toW (s : SEs Γ m p) : SEw Γ m p := ⟨fun iv en k => (s.run iv en k).imp fun _ _ r => .inl r⟩
theorem SEf.toS (s : SEf Γ m p) : SEs Γ m p := ⟨fun iv en k => (s.run iv en k).fs iv⟩
theorem SEf.toW (s : SEf Γ m p) : SEw Γ m p := s.toS.toW
theorem nJ {α β : Type} {o : Option α} {g : α -> Pm β} {K : Rs β -> Nat -> Prop} {c : Nat} (k : (Pm.of o).bind g K c) : ∃ a,o = some a /\ g a K c := by
 cases o with
 | none => exact k.elim
 | some a => exact ⟨a,rfl,k⟩
theorem eU {α : Type} {o : Option α} {K : Rs α -> Nat -> Prop} {c : Nat} (k : (Pm.of o) K c) : ∃ a,o = some a /\ K (.ok a) c := by
 cases o with
 | none => exact k.elim
 | some a => exact ⟨a,rfl,k⟩
theorem wV (r : ∀ F sa h,Rep F sa h q w) : SEs Γ (mC w) (.ret q) := ⟨fun iv en k => .ret iv k (r _ _ _)⟩
theorem aG1 : SEs Γ (mC .non) (.ret .non) := wV fun _ _ _ => aC6
theorem aW {i : Int} : SEs Γ (mC (.int i)) (.ret (.int i)) := wV fun _ _ _ => cZ
theorem jH {i : Bool} : SEs Γ (mC (.bl i)) (.ret (.bl i)) := wV fun _ _ _ => cF
theorem bE {i : Str} : SEs Γ (mC (.str i)) (.ret (.str i)) := wV fun _ _ _ => fF
theorem mJ {n : String} : SEs Γ (mC (.ty n)) (.ret (.ty n)) := wV fun _ _ _ => by simp only [Rep]
theorem aD (i : Nat) (e : Γ[i]? = some (.fz q)) : SEs Γ (mV i) (.ret q) := ⟨fun iv en k => by
 obtain ⟨w,e1,_,r⟩ := en.fz i q e
 rw [xD,e1]
 exact .ret iv k r⟩
theorem aP (s : iJ f g) (x : SEw Γ a pa) (y : SEw Γ b pb) : SEs Γ (mOp f a b) (pa.bind fun x => pb.bind fun y => .of (g x y)) := ⟨fun iv en k =>
 (x.run iv en k).bind fun i1 g1 r1 k1 => (y.run i1 (en.ge iv g1) k1).bind fun i2 g2 r2 k2 => by
  obtain ⟨q,e,k3⟩ := eU k2
  obtain ⟨w,e2,r3⟩ := s _ _ _ _ _ _ _ _ (nO.ge (en.ge iv g1) i1 g2 r1).vw r2.vw e
  rw [e2]
  exact .ret i2 k3 r3⟩
theorem dH (s : qS f1 g1) (x : SEw Γ a pa) : SEs Γ (mF1 f1 a) (pa.bind fun x => .of (g1 x)) := ⟨fun iv en k =>
 (x.run iv en k).bind fun i1 g1 r1 k1 => by
  obtain ⟨q,e,k3⟩ := eU k1
  obtain ⟨w,e2,r3⟩ := s _ _ _ _ _ _ r1.vw e
  rw [e2]
  exact .ret i1 k3 r3⟩
theorem aG0 (s : aGW f1 g1) (x : SEw Γ a pa) : SEf Γ (mF1 f1 a) (pa.bind fun x => .of (g1 x)) := ⟨fun iv en k =>
 (x.run iv en k).bind fun i1 g1 r1 k1 => by
  obtain ⟨q,e,k3⟩ := eU k1
  obtain ⟨qs,ws,rfl,e2,r3⟩ := s _ _ _ _ _ _ r1.vw e
  rw [e2]
  exact .ret i1 k3 (.inl ⟨qs,ws,rfl,rfl,r3⟩)⟩
def aDW : Q -> Option Q
 | .bl b => some (.bl (!b))
 | _ => none
theorem aKY (x : SEw Γ a pa) : SEs Γ (aAE a) (pa.bind fun x => .of (aDW x)) := ⟨fun iv en k =>
 (x.run iv en k).bind fun i1 g1 r1 k1 => by
  obtain ⟨q,e,k3⟩ := eU k1
  unfold aDW at e
  split at e
  ·cases e; cases iI r1.vw; exact .ret i1 k3 cF
  ·cases e⟩
def cQ (x : Q) (p : Pm Q) : Pm Q := match x with
 | .bl true => p
 | .bl false => .ret (.bl false)
 | _ => .bad
def pOr (x : Q) (p : Pm Q) : Pm Q := match x with
 | .bl true => .ret (.bl true)
 | .bl false => p
 | _ => .bad
@[simp] theorem aOe {p : Pm Q} : cQ (.bl true) p = p := id rfl
@[simp] theorem aOd {p : Pm Q} : cQ (.bl false) p = .ret (.bl false) := id rfl
@[simp] theorem aOG {p : Pm Q} : pOr (.bl true) p = .ret (.bl true) := id rfl
@[simp] theorem aOF {p : Pm Q} : pOr (.bl false) p = p := id rfl
theorem oH (x : SEw Γ a pa) (y : SEs Γ b pb) : SEs Γ (jP a b) (pa.bind fun x => cQ x pb) := ⟨fun iv en k =>
 (x.run iv en k).bind fun i1 g1 r1 k1 => by
  unfold cQ at k1
  split at k1
  ·cases iI r1.vw; exact y.run i1 (en.ge iv g1) k1
  ·cases iI r1.vw; exact .ret i1 k1 cF
  ·exact k1.elim⟩
theorem uJ {f' : D -> D -> Hh -> R D} {g' : Q -> Q -> Option Q} (s : iJ f g) (s' : iJ f' g') (x : SEw Γ a pa) (y : SEw Γ b pb) (z : SEw Γ d pd) :
  SEs Γ (gG f f' a b d) (pa.bind fun x => pb.bind fun y => (Pm.of (g x y)).bind fun t => cQ t (pd.bind fun z => .of (g' y z))) := ⟨fun iv en k =>
 (x.run iv en k).bind fun i1 g1 r1 k1 => (y.run i1 (en.ge iv g1) k1).bind fun i2 g2 r2 k2 => by
  obtain ⟨q,e,k3⟩ := nJ k2
  have e1 := en.ge iv g1
  have e2 := e1.ge i1 g2
  obtain ⟨w,e3,r3⟩ := s _ _ _ _ _ _ _ _ (nO.ge e1 i1 g2 r1).vw r2.vw e
  rw [e3]
  simp only [R.bind_ok]
  unfold cQ at k3
  split at k3
  ·cases iI r3.vw
   exact (z.run i2 e2 k3).bind fun i4 g4 r4 k4 => by
    obtain ⟨q,e,k5⟩ := eU k4
    obtain ⟨w,e5,r5⟩ := s' _ _ _ _ _ _ _ _ (nO.ge e2 i2 g4 r2).vw r4.vw e
    rw [e5]
    exact .ret i4 k5 r5
  ·cases iI r3.vw; exact .ret i2 k3 cF
  ·exact k3.elim⟩
theorem t_b (x : SEw Γ a pa) : STb Γ (mB a) (pa.bind fun x => .of (cH x)) := ⟨fun iv en k =>
 (x.run iv en k).bind fun i1 g1 r1 k1 => by
  obtain ⟨q,e,k3⟩ := eU k1
  unfold cH at e
  split at e
  ·cases e; cases iI r1.vw; exact .ret i1 k3 rfl
  ·cases e⟩
theorem sT {t : M Bool} {pt : Pm Bool} (x : STb Γ t pt) : STb Γ (iX t) (pt.bind fun x => .ret (!x)) := ⟨fun iv en k =>
 (x.run iv en k).bind fun i1 g1 r1 k1 => by subst r1; exact .ret i1 k1 rfl⟩
theorem aHp {t s : M Bool} {pt ps : Pm Bool} (x : STb Γ t pt) (y : STb Γ s ps) : STb Γ (kW t s) (pt.bind fun x => if x = true then ps else .ret false) := ⟨fun iv en k =>
 (x.run iv en k).bind fun i1 g1 r1 k1 => by
  subst r1
  split
  ·rename_i hx; rw [if_pos hx] at k1; exact y.run i1 (en.ge iv g1) k1
  ·rename_i hx; rw [if_neg hx] at k1; exact .ret i1 k1 rfl⟩
theorem tZ {t s : M Bool} {pt ps : Pm Bool} (x : STb Γ t pt) (y : STb Γ s ps) : STb Γ (gR t s) (pt.bind fun x => if x = true then .ret true else ps) := ⟨fun iv en k =>
 (x.run iv en k).bind fun i1 g1 r1 k1 => by
  subst r1
  split
  ·rename_i hx; rw [if_pos hx] at k1; exact .ret i1 k1 rfl
  ·rename_i hx; rw [if_neg hx] at k1; exact y.run i1 (en.ge iv g1) k1⟩
theorem mY : STb Γ (fun _ h => .ok true h) (.ret true) := ⟨fun iv en k => .ret iv k rfl⟩
theorem aX : SAs 0 Γ (aA []) (.ret []) := ⟨fun iv en k => .ret iv k ⟨by simp [Reps],rfl⟩⟩
theorem aC {n : Nat} {ms : List (M D)} {ps : Pm (List Q)} (x : SEs Γ a pa) (y : SAs n Γ (aA ms) ps) : SAs (n + 1) Γ (aA (a :: ms)) (pa.bind fun x => ps.bind fun xs => .ret (x :: xs)) := ⟨fun iv en k =>
 (x.run iv en k).bind fun i1 g1 r1 k1 => by
  obtain ⟨F2,i2,g2,r2,ht⟩ := tW i1 r1
  refine Out.ge g2 ((y.run i2 ((en.ge iv g1).ge i1 g2) k1).bind fun i3 g3 r3 k3 => .ret i3 k3 ⟨?_,by simp [r3.2]⟩)
  simp only [Reps]
  exact ⟨_,_,rfl,ht,r2.mono g3.toGw,r3.1⟩⟩
theorem cU {n : Nat} {ma : M (List D)} {ps : Pm (List Q)} (hn : n <= 1000) (x : SAs n Γ ma ps) : SEs Γ (bM ma) (ps.bind fun xs => .ret (.tup xs)) := ⟨fun iv en k =>
 (x.run iv en k).bind fun i1 g1 r1 k1 => by
  rw [if_pos (by rw [r1.1.len,r1.2]; exact sz (by omega))]
  exact .ret i1 k1 (kI r1.1)⟩
theorem oI {n : Nat} {ma : M (List D)} {ps : Pm (List Q)} (hn : n <= 1000) (x : SAs n Γ ma ps) : SEf Γ (dJ ma) (ps.bind fun xs => .ret (.lst xs)) := ⟨fun iv en k =>
 (x.run iv en k).bind fun i1 g1 r1 k1 => by
  rw [if_pos (by rw [r1.1.len,r1.2]; exact sz (by omega))]
  exact .ret i1 k1 (.inl ⟨_,_,rfl,rfl,r1.1⟩)⟩
theorem aGZ : SEf Γ (mD0 (.dK [])) (.ret (.dK [])) := ⟨fun iv en k => by
 refine .ok k (iv.app _) iv.geApp (.inr ⟨_,rfl,Nat.le_refl _,fun z => Nat.lt_irrefl _ (iv.lt z),[],by simp,by simp [aY]⟩)⟩
theorem lY : SPo Γ none (.ret none) := ⟨fun iv en k => .ret iv k rfl⟩
theorem jM (x : SEw Γ a pa) : SPo Γ (some a) (pa.bind fun x => (Pm.of (iG x)).bind fun i => .ret (some i)) := ⟨fun iv en k =>
 (x.run iv en k).bind fun i1 g1 r1 k1 => by
  obtain ⟨i,e,k3⟩ := nJ k1
  unfold iG at e
  split at e
  ·cases e; cases bZ r1.vw; exact .ret i1 k3 rfl
  ·cases e⟩
theorem rC {lo hi : Option (M D)} {pl ph : Pm (Option Int)} (x : SEw Γ a pa) (y : SPo Γ lo pl) (z : SPo Γ hi ph) : SEs Γ (mSl a lo hi) (pa.bind fun x => pl.bind fun l => ph.bind fun u => .of (qSl x l u)) := ⟨fun iv en k =>
 (x.run iv en k).bind fun i1 g1 r1 k1 => (y.run i1 (en.ge iv g1) k1).bind fun i2 g2 r2 k2 => (z.run i2 ((en.ge iv g1).ge i1 g2) k2).bind fun i3 g3 r3 k3 => by
  subst r2; subst r3
  obtain ⟨q,e,k4⟩ := eU k3
  obtain ⟨w,e2,r4⟩ := aM7 (nO.ge ((en.ge iv g1).ge i1 g2) i2 g3 (nO.ge (en.ge iv g1) i1 g2 r1)).vw e
  rw [e2]
  exact .ret i3 k4 r4⟩
theorem aEA {fr : Bool} {cl : List D -> Hh -> R D} {pc : List Q -> Pm Q} {B : Bs} {F : Nat -> Prop} {h : Hh} {c : Nat} {K : Rs Q -> Nat -> Prop} {qs : List Q} {ws : List D} (s : FnS fr cl pc) (iv : Iv B F h c) (r : Reps F B.sa h qs ws) (k : pc qs K c) :
  Out B F h (fun F' h' q w => if fr = true then qR h.length F' B.sa h' q w else Rep F' B.sa h' q w) K (cl ws h) := by
 have o := s.run iv.base r k
 revert o
 generalize cl ws h = r0
 intro o
 cases o with
 | ok k i2 g r => exact .ok k (iv.rebase g i2) g r
 | exc k i2 g r => exact .exc k (iv.rebase g i2) g r
theorem cI {n : Nat} {cl : Cll} {f : Nat} {ma : M (List D)} {ps : Pm (List Q)} {pc : List Q -> Pm Q} (s : FnS false (cl f) pc) (x : SAs n Γ ma ps) : SEs Γ (aR cl f ma) (ps.bind pc) := ⟨fun iv en k =>
 Out.gcS iv ((x.run iv en k).bind fun i1 g1 r1 k1 => (aEA s i1 r1.1 k1).imp fun _ _ r => by simpa using r)⟩
theorem FnS.weak {cl : List D -> Hh -> R D} {pc : List Q -> Pm Q} (s : FnS true cl pc) : FnS false cl pc := ⟨fun iv r k => (Out.fs (B := ⟨_,_,_⟩) iv ((s.run iv r k).imp fun _ _ r => by simpa using r)).imp fun _ _ r => by simpa using r⟩
theorem aAa {F : Nat -> Prop} {sa : Nat} {h : Hh} {qs : List Q} {ws : List D} (r : Reps F sa h qs ws) : ∀ {perm : List Nat} {ys : List Q},dQ perm qs = some ys -> ∃ us,dQ perm ws = some us /\ Reps F sa h ys us
 | [],ys,e => by simp [dQ,aK] at e; subst e; exact ⟨[],rfl,by simp [Reps]⟩
 | i :: perm,ys,e => by
  simp only [dQ,aK] at e ⊢
  cases e1 : qs[i]? with
  | none => rw [e1] at e; cases e
  | some q =>
   cases e2 : aK (fun i => qs[i]?) perm with
   | none => rw [e1,e2] at e; cases e
   | some ys' =>
    rw [e1,e2] at e; cases e
    obtain ⟨w,e3,ht,r3⟩ := r.get e1
    obtain ⟨us,e4,r4⟩ := aAa r (perm := perm) e2
    refine ⟨w :: us, ?_,by simp only [Reps]; exact ⟨w,us,rfl,ht,r3,r4⟩⟩
    unfold dQ at e4
    rw [e3,e4]
theorem aHy {n : Nat} {cl : Cll} {f : Nat} {ma : M (List D)} {ps : Pm (List Q)} {perm : List Nat} {pc : List Q -> Pm Q} (s : FnS false (cl f) pc) (x : SAs n Γ ma ps) : SEs Γ (nV cl f ma perm) (ps.bind fun xs => (Pm.of (dQ perm xs)).bind pc) := ⟨fun iv en k =>
 Out.gcS iv ((x.run iv en k).bind fun i1 g1 r1 k1 => by
  obtain ⟨ys,e,k2⟩ := nJ k1
  obtain ⟨us,e2,r2⟩ := aAa r1.1 e
  simp only [e2]
  exact (aEA s i1 r2 k2).imp fun _ _ r => by simpa using r)⟩
def oE : Q -> Option String
 | .str _ => some "str"
 | .lst _ => some "list"
 | .dK _ => some "dict"
 | .dT _ => some "dict"
 | _ => none
theorem aIB {F : Nat -> Prop} {sa : Nat} {h : Hh} {t : String} (r : Vw F sa h q w) (e : oE q = some t) : tyM h w = some t := by
 cases q with
 | str b => cases bX r; exact e
 | lst b =>
  obtain ⟨_,rfl | ⟨_,rfl,ea⟩,_⟩ := r
  ·exact e
  ·simp only [tyM,ea]; exact e
 | dK b => obtain ⟨_,_,rfl,ea,_⟩ := r; simp only [tyM,ea]; exact e
 | dT b => obtain ⟨_,_,rfl,ea,_⟩ := r; simp only [tyM,ea]; exact e
 | _ => simp [oE] at e
def pTy (T : String) (x : Q) (p : Pm Q) : Pm Q := if oE x = some T then p else .bad
@[simp] theorem aNH {p : Pm Q} {x : Str} : pTy "str" (.str x) p = p := by simp [pTy,oE]
@[simp] theorem aNG {p : Pm Q} {x : List Q} : pTy "list" (.lst x) p = p := by simp [pTy,oE]
@[simp] theorem aOf {p : Pm Q} {x : List (Key × Q)} : pTy "dict" (.dK x) p = p := by simp [pTy,oE]
@[simp] theorem aOg {p : Pm Q} {x : List (List Key × Q)} : pTy "dict" (.dT x) p = p := by simp [pTy,oE]
end
end PV
end
section
namespace PV
open PySem PySem.Spec PyProof.Rows L2
def aMl (B : Bs) (F : Nat -> Prop) (h : Hh) (qs : List Q) (src : Src) : Prop := ∃ ws,Reps F B.sa h qs ws /\ ∀ h' : Hh,(∀ a,F a -> h'[a]? = h[a]?) -> ∀ i,src i h' = some ws[i]?
def aMm (B : Bs) (F : Nat -> Prop) (h : Hh) (qs : List Q) (src : Src) : Prop := ∃ ws,Reps F B.sa h qs ws /\ ∀ h' : Hh,(∀ a,a < h.length -> a ≠ B.sa -> h'[a]? = h[a]?) -> ∀ i,src i h' = some ws[i]?
structure SIs (Γ : List Sl) (m : M Src) (p : Pm (List Q)) : Prop where
 run : ∀ {B : Bs} {F : Nat -> Prop} {O : Nat -> Option Nat} {σ : Sg} {h : Hh} {c : Nat} {K : Rs (List Q) -> Nat -> Prop},Iv B F h c -> En B F O h Γ σ -> p K c -> Out B F h (fun F' h' q w => aMl B F' h' q w) K (m σ h)
structure SIw (Γ : List Sl) (m : M Src) (p : Pm (List Q)) : Prop where
 run : ∀ {B : Bs} {F : Nat -> Prop} {O : Nat -> Option Nat} {σ : Sg} {h : Hh} {c : Nat} {K : Rs (List Q) -> Nat -> Prop},Iv B F h c -> En B F O h Γ σ -> p K c -> Out B F h (fun F' h' q w => aMm B F' h' q w) K (m σ h)
def iF : Q -> Option (List Q)
 | .lst qs => some qs
 | .tup qs => some qs
 | .kt qs => some qs
 | .str z => some (z.cps.toList.map fun c => .str ⟨#[c]⟩)
 | _ => none
def oQ : Q -> Option (List Q)
 | .int j => if -(2 ^ 62) <= j /\ j < 2 ^ 62 then some ((List.range j.toNat).map fun i => .int (i : Nat)) else none
 | _ => none
def wW (qs : List Q) : List Q := qs.mapIdx fun i q => .tup [.int (i : Nat),q]
def aHj : Q -> Option (List Q)
 | .lst qs => some (wW qs)
 | .tup qs => some (wW qs)
 | .kt qs => some (wW qs)
 | _ => none
def aEk (xs ys : List Q) : List Q := (xs.zip ys).map fun q => .tup [q.1,q.2]
def aJF : Q -> Q -> Option (List Q)
 | .tup xs, .tup ys => some (aEk xs ys)
 | .lst xs, .lst ys => some (aEk xs ys)
 | _,_ => none
section
variable {Γ : List Sl} {a b : M D} {p pa pb : Pm Q} {q : Q} {w : D} {F : Nat -> Prop} {sa : Nat} {h : Hh} {qs : List Q} {ws : List D} {B : Bs} {c : Nat} {O : Nat -> Option Nat} {σ : Sg}
theorem SIs.toW {m : M Src} {p : Pm (List Q)} (s : SIs Γ m p) : SIw Γ m p := ⟨fun iv en k => (s.run iv en k).imp fun i1 _ r => by
 obtain ⟨ws,r,hs⟩ := r
 exact ⟨ws,r,fun h' e => hs h' fun a f => e a (i1.lt f) fun z => i1.ns (z ▸ f)⟩⟩
theorem aGM {z : Str} {i : Nat} {h' : Hh} : pQ z i h' = some (z.cps.toList.map fun c => D.str ⟨#[c]⟩)[i]? := by simp only [pQ,List.getElem?_map]
theorem i_e (x : SEs Γ a pa) : SIs Γ (miE a) (pa.bind fun x => .of (iF x)) := ⟨fun iv en k =>
 (x.run iv en k).bind fun i1 g1 r1 k1 => by
  obtain ⟨l,e,k3⟩ := eU k1
  unfold iF at e
  split at e
  ·cases e
   simp only [RlS,Rep] at r1
   obtain ⟨ws,rfl | ⟨a,rfl,fa,ea⟩,r⟩ := r1
   ·simp only [lD,asT,asL]
    exact .ret i1 k3 ⟨ws,r,fun h' e i => by simp only [aB1,asL]⟩
   ·simp only [lD,asT,asL,ea]
    exact .ret i1 k3 ⟨ws,r,fun h' e i => by simp only [aB1,asL,e a fa,ea]⟩
  ·cases e
   obtain ⟨ws,rfl,r⟩ := cK r1.vw
   simp only [lD,asT]
   exact .ret i1 k3 ⟨ws,r,fun h' e i => rfl⟩
  ·cases e
   obtain ⟨ws,rfl,r⟩ := nA r1.vw
   simp only [lD,asT]
   exact .ret i1 k3 ⟨ws,r,fun h' e i => rfl⟩
  ·cases e
   cases bX r1.vw
   simp only [lD,asT,asL]
   exact .ret i1 k3 ⟨_,oB fun c _ => ⟨rfl,fF⟩,fun h' e i => aGM⟩
  ·cases e⟩
theorem aI4 (x : SEw Γ a pa) : SIs Γ (iO a) (pa.bind fun x => .of (oQ x)) := ⟨fun iv en k =>
 (x.run iv en k).bind fun i1 g1 r1 k1 => by
  obtain ⟨l,e,k3⟩ := eU k1
  unfold oQ at e
  split at e
  ·cases bZ r1.vw
   split at e
   ·rename_i hl
    cases e
    simp only
    rw [if_pos hl]
    refine .ret i1 k3 ⟨_,oB fun c _ => ⟨rfl,cZ⟩,fun h' e i => ?_⟩
    rw [qF]; simp
   ·cases e
  ·cases e⟩
structure TgS (t : Tg) {α : Type} (un : Q -> Option α) (ΓT : List Sl -> α -> List Sl) : Prop where
 run : ∀ {B : Bs} {F : Nat -> Prop} {O : Nat -> Option Nat} {h : Hh} {Γ : List Sl} {σ : Sg} {q : Q} {w : D} {a : α},En B F O h Γ σ -> Rep F B.sa h q w -> w.isTl = false -> un q = some a -> ∃ σ',t.set w σ h = some σ' /\ En B F O h (ΓT Γ a) σ'
theorem En.set {i : Nat} (en : En B F O h Γ σ) (r : Rep F B.sa h q w) (ht : w.isTl = false) : En B F O h (Γ.set i (.fz q)) (σ.set i (some w)) := by
 refine ⟨by simp [en.len],fun j q' e => ?_,fun j q' e => ?_,en.oh,en.inj,fun j w' e => by
  by_cases hj : i = j
  ·subst hj
   have hl : i < Γ.length := by simpa using aF e
   rw [List.getElem?_set_self hl] at e; cases e
  ·rw [List.getElem?_set_ne hj] at e ⊢
   exact en.eqd j w' e⟩
 ·by_cases hj : i = j
  ·subst hj
   have hl : i < Γ.length := by simpa using aF e
   rw [List.getElem?_set_self hl] at e; cases e
   exact ⟨w,List.getElem?_set_self (by rw [en.len]; exact hl),ht,r⟩
  ·rw [List.getElem?_set_ne hj] at e ⊢
   exact en.fz j q' e
 ·by_cases hj : i = j
  ·subst hj
   have hl : i < Γ.length := by simpa using aF e
   rw [List.getElem?_set_self hl] at e; cases e
  ·rw [List.getElem?_set_ne hj] at e ⊢
   exact en.ow j q' e
theorem En.no {i : Nat} {o : Option D} (en : En B F O h Γ σ) : En B F O h (Γ.set i .no) (σ.set i o) := by
 refine ⟨by simp [en.len],fun j q' e => ?_,fun j q' e => ?_,en.oh,en.inj,fun j w' e => by
  by_cases hj : i = j
  ·subst hj
   have hl : i < Γ.length := by simpa using aF e
   rw [List.getElem?_set_self hl] at e; cases e
  ·rw [List.getElem?_set_ne hj] at e ⊢
   exact en.eqd j w' e⟩
 ·by_cases hj : i = j
  ·subst hj
   have hl : i < Γ.length := by simpa using aF e
   rw [List.getElem?_set_self hl] at e; cases e
  ·rw [List.getElem?_set_ne hj] at e ⊢
   exact en.fz j q' e
 ·by_cases hj : i = j
  ·subst hj
   have hl : i < Γ.length := by simpa using aF e
   rw [List.getElem?_set_self hl] at e; cases e
  ·rw [List.getElem?_set_ne hj] at e ⊢
   exact en.ow j q' e
theorem tg1 (i : Nat) : TgS (.nm i) some (fun Γ q => Γ.set i (.fz q)) := ⟨fun en r ht e => by
 cases e; exact ⟨_,by simp only [Tg.set],en.set r ht⟩⟩
/-- the parts of a tuple or list -/
def tS : Q -> Option (List Q)
 | .tup qs => some qs
 | .kt qs => some qs
 | .lst qs => some qs
 | _ => none
theorem aEV (r : Rep F sa h q w) (e : tS q = some qs) : ∃ ws,(∀ ts σ,Tg.set (.tu ts) w σ h = Tg.sets ts ws σ h) /\ Reps F sa h qs ws := by
 cases q with
 | tup qs => cases e; obtain ⟨ws,rfl,r'⟩ := cK r.vw; exact ⟨ws,fun ts σ => by simp only [Tg.set,asT],r'⟩
 | kt qs => cases e; obtain ⟨ws,rfl,r'⟩ := nA r.vw; exact ⟨ws,fun ts σ => by simp only [Tg.set,asT],r'⟩
 | lst qs => cases e; obtain ⟨ws,a1,a2,a3,a4,r'⟩ := iT r.vw; exact ⟨ws,fun ts σ => by simp only [Tg.set,a3,a1],r'⟩
 | _ => simp [tS] at e
def un2 (q : Q) : Option (Q × Q) := match tS q with
 | some [a,b] => some (a,b)
 | _ => none
def un3 (q : Q) : Option (Q × Q × Q) := match tS q with
 | some [a,b,c] => some (a,b,c)
 | _ => none
def un4 (q : Q) : Option (Q × Q × Q × Q) := match tS q with
 | some [a,b,c,d] => some (a,b,c,d)
 | _ => none
@[simp] theorem zM {a b : Q} : un2 (.tup [a,b]) = some (a,b) := id rfl
@[simp] theorem aNR {a b c : Q} : un3 (.tup [a,b,c]) = some (a,b,c) := id rfl
@[simp] theorem aNS {a b c d : Q} : un4 (.tup [a,b,c,d]) = some (a,b,c,d) := id rfl
@[simp] theorem aNQ {a b : Q} : un2 (.lst [a,b]) = some (a,b) := id rfl
theorem tg2 (i j : Nat) : TgS (.tu [.nm i, .nm j]) un2 (fun Γ q => (Γ.set i (.fz q.1)).set j (.fz q.2)) := ⟨fun en r ht e => by
 unfold un2 at e
 split at e
 ·rename_i a b ep
  cases e
  obtain ⟨ws,e1,rs⟩ := aEV r ep
  simp only [Reps] at rs
  obtain ⟨w1,_,rfl,t1,r1,w2,_,rfl,t2,r2,rfl⟩ := rs
  exact ⟨_,by rw [e1]; simp only [Tg.sets,Tg.set],(en.set r1 t1).set r2 t2⟩
 ·cases e⟩
def noK {α : Type} (K : Rs α -> Nat -> Prop) : Rs α -> Nat -> Prop := fun r c' => match r with
 | .ok a => K (.ok a) c'
 | .exc _ _ => False
def Pm.noX {α : Type} (p : Pm α) : Pm α := fun K c => p (noK K) c
@[simp] theorem uQ {α : Type} {a : α} : (Pm.ret a).noX = .ret a := id rfl
@[simp] theorem aNC {α : Type} : (Pm.bad : Pm α).noX = .bad := id rfl
theorem Out.noX {α β : Type} {Rl : (Nat -> Prop) -> Hh -> β -> α -> Prop} {K : Rs β -> Nat -> Prop} {r : R α} (o : Out B F h Rl (noK K) r) : Out B F h Rl K (noX r) := by
 cases o with
 | ok k iv g r => exact .ok k iv g r
 | exc k iv g r => exact k.elim
theorem lL {α β β' : Type} {Rl : (Nat -> Prop) -> Hh -> β -> α -> Prop} {p : Pm β} {g : β -> Pm β'} {K2 : Rs β' -> Nat -> Prop} {r : R α} (run : ∀ {K : Rs β -> Nat -> Prop},p K c -> Out B F h Rl K r) (k : (p.noX.bind g) K2 c) : Out B F h Rl (bK g K2) (PV.noX r) := Out.noX (run k)
def mM {α A : Type} (un : Q -> Option α) (pb : α -> A -> Pm A) : List Q -> A -> Pm A
 | [],acc => .ret acc
 | q :: qs,acc => (Pm.of (un q)).bind fun a => (pb a acc).bind fun acc' => mM un pb qs acc'
def dR (Γ : List Sl) : List Nat -> List Sl
 | [] => Γ
 | v :: vs => (dR Γ vs).set v .no
theorem En.wipe : ∀ {vs : List Nat},En B F O h Γ σ -> En B F O h (dR Γ vs) (cG σ vs)
 | [],en => en
 | v :: vs,en => (en.wipe (vs := vs)).no
theorem xB {α A A' : Type} {un : Q -> Option α} {pb : α -> A -> Pm A} {t : Tg} {ΓT : List Sl -> α -> List Sl} {body : A' -> Sg -> Hh -> R A'} {src : Src} {σ0 : Sg} {RA : (Nat -> Prop) -> Hh -> A -> A' -> Prop} {K : Rs A -> Nat -> Prop}
  (tg : TgS t un ΓT) (mono : ∀ {F h F' h' a a'},Ge B.sa F h F' h' -> RA F h a a' -> RA F' h' a a')
  (hb : ∀ {F1 : Nat -> Prop} {h1 : Hh} {c1 : Nat} {x : α} {acc : A} {acc' : A'} {σ1 : Sg} {K : Rs A -> Nat -> Prop},Iv B F1 h1 c1 -> En B F1 O h1 (ΓT Γ x) σ1 -> RA F1 h1 acc acc' -> pb x acc K c1 -> Out B F1 h1 RA K (body acc' σ1 h1)) :
  ∀ (n i : Nat) {qs : List Q} {ws : List D} {acc : A} {acc' : A'} {F : Nat -> Prop} {h : Hh} {c : Nat},Iv B F h c -> En B F O h Γ σ0 -> (∀ {F' h'},Ge B.sa F h F' h' -> ∀ j,src (i + j) h' = some ws[j]?) -> Reps F B.sa h qs ws -> ws.length < n -> RA F h acc acc' -> mM un pb qs acc K c ->
   Out B F h RA K (lcL src t body σ0 n i acc' h)
 | 0,i,qs,ws,acc,acc',F,h,c,iv,en,hs,r,hl,ra,k => by omega
 | n + 1,i,qs,ws,acc,acc',F,h,c,iv,en,hs,r,hl,ra,k => by
  have s0 := hs .rfl' 0
  simp only [Nat.add_zero] at s0
  cases qs with
  | nil =>
   simp only [Reps] at r; subst r
   simp only [lcL,s0]
   exact .ret iv k ra
  | cons q qs =>
   simp only [Reps] at r
   obtain ⟨w,ws,rfl,ht,r1,rs⟩ := r
   simp only [mM] at k
   obtain ⟨a,e,k1⟩ := nJ k
   obtain ⟨σ',e2,en2⟩ := tg.run en r1 ht e
   simp only [lcL,s0,List.getElem?_cons_zero,e2]
   refine (hb iv en2 ra k1).bind fun i3 g3 r3 k3 => ?_
   refine xB (pb := pb) (body := body) (RA := RA) (K := K) tg (fun g r => mono g r) (fun x1 x2 x3 x4 => hb x1 x2 x3 x4) n (i + 1) i3 (en.ge iv g3) (fun {F' h'} g j => ?_) (rs.mono g3.toGw) (by simp at hl; omega) r3 k3
   have := hs (g3.trans g) (j + 1)
   rw [Nat.add_assoc,Nat.add_comm 1 j]
   simpa using this
def lcB {α : Type} (pt : α -> Pm Bool) (pe : α -> Pm Q) (a : α) (acc : List Q) : Pm (List Q) := (pt a).noX.bind fun b => if b = true then (pe a).noX.bind fun y => if acc.length < sizeLine then .ret (acc ++ [y]) else .bad else .ret acc
/-- [e for t in l if c] -/
def lcP {α : Type} (un : Q -> Option α) (pt : α -> Pm Bool) (pe : α -> Pm Q) (l : List Q) : Pm Q := if l.length <= sizeLine then (mM un (lcB pt pe) l []).bind fun xs => .ret (.lst xs) else .bad
theorem aHJ {α : Type} {mt : M Bool} {me : M D} {Γ' : α -> List Sl} {pt : α -> Pm Bool} {pe : α -> Pm Q} (ht : ∀ a,STb (Γ' a) mt (pt a)) (he : ∀ a,SEs (Γ' a) me (pe a)) {F1 : Nat -> Prop} {h1 : Hh} {c1 : Nat} {x : α} {acc : List Q} {acc' : List D} {σ1 : Sg} {K : Rs (List Q) -> Nat -> Prop}
  (iv : Iv B F1 h1 c1) (en : En B F1 O h1 (Γ' x) σ1) (ra : RlA B F1 h1 acc acc') (k : lcB pt pe x acc K c1) : Out B F1 h1 (RlA B) K (kP mt me acc' σ1 h1) := by
 unfold kP
 unfold lcB at k
 refine (lL (fun k => (ht x).run iv en k) k).bind fun i2 g2 r2 k2 => ?_
 subst r2
 split
 ·rename_i hx
  rw [if_pos hx] at k2
  refine (lL (fun k => (he x).run i2 (en.ge iv g2) k) k2).bind fun i3 g3 r3 k3 => ?_
  split at k3
  ·rename_i hl
   rw [if_pos (by rw [ra.len]; exact hl)]
   obtain ⟨F4,i4,g4,r4,t4⟩ := tW i3 r3
   exact .ok k3 i4 g4 ((((ra.mono g2.toGw).mono g3.toGw).mono g4.toGw).app (.one r4 t4))
  ·exact k3.elim
 ·rename_i hx
  rw [if_neg hx] at k2
  exact .ret i2 k2 (ra.mono g2.toGw)
theorem vJ {α : Type} {mi : M Src} {t : Tg} {mt : M Bool} {me : M D} {vs : List Nat} {pi : Pm (List Q)} {un : Q -> Option α} {ΓT : List Sl -> α -> List Sl} {pt : α -> Pm Bool} {pe : α -> Pm Q} (hi : SIw Γ mi pi) (tg : TgS t un ΓT) (ht : ∀ a,STb (ΓT (dR Γ vs) a) mt (pt a)) (he : ∀ a,SEs (ΓT (dR Γ vs) a) me (pe a)) :
  SEf Γ (mLc mi t mt me vs) (pi.bind fun l => lcP un pt pe l) := ⟨fun {B F O σ h c K} iv en k => by
 refine (hi.run iv en k).bind fun {F1 h1 l src c1} i1 g1 r1 k1 => ?_
 unfold lcP at k1
 split at k1
 ·rename_i hl
  obtain ⟨ws,rs,hs⟩ := r1
  refine Out.bind (Rl := RlA B) (g := fun xs => Pm.ret (Q.lst xs)) ?_ fun i2 g2 r2 k2 => .ret i2 k2 (.inl ⟨_,_,rfl,rfl,r2⟩)
  exact xB tg (fun g r => r.mono g.toGw) (fun iv en ra k => aHJ ht he iv en ra k) dP 0 i1 ((en.ge iv g1).wipe) (fun g j => by rw [Nat.zero_add]; exact hs _ g.old j) rs (by rw [rs.len]; exact Nat.lt_of_le_of_lt hl (by decide)) (by simp [RlA,Reps]) k1
 ·exact k1.elim⟩
end
end PV
end
section
namespace PV
open PySem PySem.Spec PyProof.Rows L2
def aGs {κ : Type} [DecidableEq κ] (kvs : List (κ × Q)) (k : κ) (w : Q) : List (κ × Q) :=
 if kvs.any (fun kv => decide (kv.1 = k)) then kvs.map (fun kv => if kv.1 = k then (kv.1,w) else kv) else kvs ++ [(k,w)]
section
variable {Γ : List Sl} {a b : M D} {p pa pb : Pm Q} {q : Q} {w : D} {F : Nat -> Prop} {sa : Nat} {h : Hh} {qs : List Q} {ws : List D} {B : Bs} {c : Nat} {O : Nat -> Option Nat} {σ : Sg} {κ : Type} [DecidableEq κ]
theorem aBG {k : κ} : ∀ {kvs : List (κ × Q)} {ws : List (κ × D)},aY F sa h kvs ws -> ws.any (fun kv => decide (kv.1 = k)) = kvs.any (fun kv => decide (kv.1 = k))
 | [],_,r => by simp only [aY] at r; subst r; rfl
 | (k',q) :: kvs,_,r => by
  simp only [aY] at r
  obtain ⟨w,r,rfl,_,_,z⟩ := r
  simp only [List.any_cons,aBG z]
theorem aGz {k : κ} {kvs : List (κ × Q)} {ws : List (κ × D)} (r : aY F sa h kvs ws) (rq : Rep F sa h q w) (ht : w.isTl = false) : aY F sa h (aGs kvs k q) (kB ws k w) := by
 unfold aGs kB
 rw [aBG r]
 split
 ·rename_i hk
  clear hk
  induction kvs generalizing ws with
  | nil => simp only [aY] at r; subst r; simp [aY]
  | cons p kvs ih =>
   obtain ⟨k',q'⟩ := p
   simp only [aY] at r
   obtain ⟨w',r,rfl,h1,h2,z⟩ := r
   simp only [List.map_cons]
   by_cases hk : k' = k
   ·simp only [hk,if_true,aY]; exact ⟨w,_,rfl,ht,rq,ih z⟩
   ·simp only [hk,if_false,aY]; exact ⟨w',_,rfl,h1,h2,ih z⟩
 ·rename_i hk
  clear hk
  induction kvs generalizing ws with
  | nil => simp only [aY] at r; subst r; simp only [List.nil_append,aY]; exact ⟨w,[],rfl,ht,rq,rfl⟩
  | cons p kvs ih =>
   obtain ⟨k',q'⟩ := p
   simp only [aY] at r
   obtain ⟨w',r,rfl,h1,h2,z⟩ := r
   simp only [List.cons_append,aY]
   exact ⟨w',_,rfl,h1,h2,ih z⟩
def dcB {α : Type} (kq : Q -> Option κ) (pt : α -> Pm Bool) (pk pv : α -> Pm Q) (a : α) (acc : List (κ × Q)) : Pm (List (κ × Q)) := (pt a).noX.bind fun b => if b = true then (pk a).noX.bind fun y => (pv a).noX.bind fun z => (Pm.of (kq y)).bind fun k => if acc.length < sizeLine then .ret (aGs acc k z) else .bad else .ret acc
theorem aHw {α : Type} {K0 : KKind κ} {kq : Q -> Option κ} (hk : ∀ {F : Nat -> Prop} {sa : Nat} {h : Hh} {q : Q} {w : D} {k : κ},Vw F sa h q w -> kq q = some k -> K0.key w = some k) {mt : M Bool} {mk mv : M D} {Γ' : α -> List Sl} {pt : α -> Pm Bool} {pk pv : α -> Pm Q} (ht : ∀ a,STb (Γ' a) mt (pt a)) (hmk : ∀ a,SEs (Γ' a) mk (pk a)) (hmv : ∀ a,SEs (Γ' a) mv (pv a)) {F1 : Nat -> Prop} {h1 : Hh} {c1 : Nat} {x : α} {acc : List (κ × Q)} {acc' : List (κ × D)} {σ1 : Sg} {K : Rs (List (κ × Q)) -> Nat -> Prop}
  (iv : Iv B F1 h1 c1) (en : En B F1 O h1 (Γ' x) σ1) (ra : aY F1 B.sa h1 acc acc') (k : dcB kq pt pk pv x acc K c1) : Out B F1 h1 (fun F h q w => aY F B.sa h q w) K (mR K0 mt mk mv acc' σ1 h1) := by
 unfold mR
 unfold dcB at k
 refine (lL (fun k => (ht x).run iv en k) k).bind fun i2 g2 r2 k2 => ?_
 subst r2
 split
 ·rename_i hx
  rw [if_pos hx] at k2
  have e2 := en.ge iv g2
  refine (lL (fun k => (hmk x).run i2 e2 k) k2).bind fun i3 g3 r3 k3 => ?_
  have e3 := e2.ge i2 g3
  refine (lL (fun k => (hmv x).run i3 e3 k) k3).bind fun i4 g4 r4 k4 => ?_
  obtain ⟨kk,ek,k5⟩ := nJ k4
  split at k5
  ·rename_i hl
   simp only [hk (r3.mono g4.toGw).vw ek]
   rw [if_pos (by rw [ra.len]; exact hl)]
   obtain ⟨F5,i5,g5,r5,t5⟩ := tW i4 r4
   exact .ok k5 i5 g5 (aGz ((((ra.mono g2.toGw).mono g3.toGw).mono g4.toGw).mono g5.toGw) r5 t5)
  ·exact k5.elim
 ·rename_i hx
  rw [if_neg hx] at k2
  exact .ret i2 k2 (ra.mono g2.toGw)
def aIR {α β : Type} (kq : Q -> Option κ) (pt : α -> Pm Bool) (pi1 : α -> Pm (List Q)) (un1 : Q -> Option β) (pt1 : α -> β -> Pm Bool) (pk pv : α -> β -> Pm Q) (a : α) (acc : List (κ × Q)) : Pm (List (κ × Q)) := (pt a).noX.bind fun b => if b = true then (pi1 a).noX.bind fun l1 => if l1.length <= sizeLine then mM un1 (dcB kq (pt1 a) (pk a) (pv a)) l1 acc else .bad else .ret acc
def aDr {α β : Type} (kq : Q -> Option κ) (mk : List (κ × Q) -> Q) (un : Q -> Option α) (pt : α -> Pm Bool) (pi1 : α -> Pm (List Q)) (un1 : Q -> Option β) (pt1 : α -> β -> Pm Bool) (pk pv : α -> β -> Pm Q) (l : List Q) : Pm Q := if l.length <= sizeLine then (mM un (aIR kq pt pi1 un1 pt1 pk pv) l []).bind fun xs => .ret (mk xs) else .bad
theorem aIT {α β : Type} {K0 : KKind κ} {kq : Q -> Option κ} {mkq : List (κ × Q) -> Q} (hk : ∀ {F : Nat -> Prop} {sa : Nat} {h : Hh} {q : Q} {w : D} {k : κ},Vw F sa h q w -> kq q = some k -> K0.key w = some k)
  (hc : ∀ {F : Nat -> Prop} {sa : Nat} {h : Hh} {acc : List (κ × Q)} {acc' : List (κ × D)} {a : Nat},aY F sa h acc acc' -> h[a]? = some (K0.cell acc') -> Top F sa h a (mkq acc))
  {mi mi1 : M Src} {t t1 : Tg} {mt mt1 : M Bool} {mk mv : M D} {vs vs1 : List Nat} {pi : Pm (List Q)} {un : Q -> Option α} {ΓT : List Sl -> α -> List Sl} {pt : α -> Pm Bool} {pi1 : α -> Pm (List Q)} {un1 : Q -> Option β} {ΓT1 : List Sl -> β -> List Sl} {pt1 : α -> β -> Pm Bool} {pk pv : α -> β -> Pm Q}
  (hi : SIw Γ mi pi) (tg : TgS t un ΓT) (ht : ∀ a,STb (ΓT (dR Γ vs) a) mt (pt a)) (hi1 : ∀ a,SIw (ΓT (dR Γ vs) a) mi1 (pi1 a)) (tg1 : TgS t1 un1 ΓT1) (ht1 : ∀ a b,STb (ΓT1 (dR (ΓT (dR Γ vs) a) vs1) b) mt1 (pt1 a b)) (hmk : ∀ a b,SEs (ΓT1 (dR (ΓT (dR Γ vs) a) vs1) b) mk (pk a b)) (hmv : ∀ a b,SEs (ΓT1 (dR (ΓT (dR Γ vs) a) vs1) b) mv (pv a b)) :
  SEf Γ (rP K0 mi t mt mi1 t1 mt1 mk mv vs vs1) (pi.bind fun l => aDr kq mkq un pt pi1 un1 pt1 pk pv l) := ⟨fun {B F O σ h c K} iv en k => by
 refine (hi.run iv en k).bind fun {F1 h1 l src c1} i1 g1 r1 k1 => ?_
 unfold aDr at k1
 split at k1
 ·rename_i hl
  obtain ⟨ws,rs,hs⟩ := r1
  refine Out.bind (Rl := fun F h q w => aY F B.sa h q w) (g := fun xs => Pm.ret (mkq xs)) ?_ fun i2 g2 r2 k2 => .ok k2 (i2.app _) i2.geApp (.inr ⟨_,rfl,Nat.le_trans g1.len g2.len,fun z => Nat.lt_irrefl _ (i2.lt z),hc (r2.mono (i2.geApp).toGw) (by simp)⟩)
  refine xB tg (fun g r => r.mono g.toGw) (fun {F2 h2 c2 x acc acc' σ2 K2} i2 en2 ra k2 => ?_) dP 0 i1 ((en.ge iv g1).wipe) (fun g j => by rw [Nat.zero_add]; exact hs _ g.old j) rs (by rw [rs.len]; exact Nat.lt_of_le_of_lt hl (by decide)) (by simp [aY]) k1
  unfold aIR at k2
  refine (lL (fun k => (ht x).run i2 en2 k) k2).bind fun i3 g3 r3 k3 => ?_
  subst r3
  split
  ·rename_i hx
   rw [if_pos hx] at k3
   refine (lL (fun k => (hi1 x).run i3 (en2.ge i2 g3) k) k3).bind fun i4 g4 r4 k4 => ?_
   split at k4
   ·rename_i hl2
    obtain ⟨ws1,rs1,hs1⟩ := r4
    exact xB tg1 (fun g r => r.mono g.toGw) (fun iv en ra k => aHw hk (ht1 x) (hmk x) (hmv x) iv en ra k) dP 0 i4 ((en2.ge i2 g3).ge i3 g4).wipe (fun g j => by rw [Nat.zero_add]; exact hs1 _ g.old j) rs1 (by rw [rs1.len]; exact Nat.lt_of_le_of_lt hl2 (by decide)) ((ra.mono g3.toGw).mono g4.toGw) k4
   ·exact k4.elim
  ·rename_i hx
   rw [if_neg hx] at k3
   exact .ret i3 k3 (ra.mono g3.toGw)
 ·exact k1.elim⟩
end
end PV
end
section
namespace PV
open PySem PySem.Spec PyProof.Rows L2
inductive Fl (L β : Type) where
 | nx (b : β) | brk (l : L) | cont (l : L) | ret (q : Q)
/-- the second environment tells no more than the first -/
inductive LeL : List Sl -> List Sl -> Prop
 | nil : LeL [] []
 | no {s : Sl} {Γ Γ' : List Sl} (r : LeL Γ Γ') : LeL (s :: Γ) (.no :: Γ')
 | eq {s : Sl} {Γ Γ' : List Sl} (r : LeL Γ Γ') : LeL (s :: Γ) (s :: Γ')
theorem LeL.refl : ∀ {Γ : List Sl},LeL Γ Γ
 | [] => .nil
 | _ :: _ => .eq LeL.refl
def LeX (Γ : List Sl) : Option (List Sl) -> Prop
 | none => True
 | some Γ' => LeL Γ Γ'
theorem LeL.len : ∀ {Γ Γ' : List Sl},LeL Γ Γ' -> Γ'.length = Γ.length
 | _,_, .nil => rfl
 | _,_, .no r => by simp [r.len]
 | _,_, .eq r => by simp [r.len]
theorem LeL.get : ∀ {Γ Γ' : List Sl} {i : Nat} {s : Sl},LeL Γ Γ' -> Γ'[i]? = some s -> s ≠ .no -> Γ[i]? = some s
 | _,_,i,s, .nil,e,_ => by simp at e
 | _,_,0,s, .no r,e,hn => by simp at e; exact absurd e.symm hn
 | _,_,0,s, .eq r,e,hn => by simpa using e
 | _,_,i + 1,s, .no r,e,hn => by simpa using r.get (by simpa using e) hn
 | _,_,i + 1,s, .eq r,e,hn => by simpa using r.get (by simpa using e) hn
section
variable {Γ Γ' : List Sl} {a b : M D} {p pa pb : Pm Q} {q : Q} {w : D} {F F' : Nat -> Prop} {sa : Nat} {h h' : Hh} {qs : List Q} {ws : List D} {B : Bs} {c : Nat} {O : Nat -> Option Nat} {σ : Sg}
theorem En.le (en : En B F O h Γ σ) (l : LeL Γ Γ') : En B F O h Γ' σ :=
 ⟨en.len.trans l.len.symm,fun i q e => en.fz i q (l.get e (by simp)),fun i q e => en.ow i q (l.get e (by simp)),en.oh,en.inj,fun i w e => en.eqd i w (l.get e (by simp))⟩
def EnX (B : Bs) (F : Nat -> Prop) (h : Hh) (ΓX : Option (List Sl)) (σ : Sg) : Prop := match ΓX with
 | none => True
 | some Γ => ∃ O,En B F O h Γ σ
theorem En.lex {ΓX : Option (List Sl)} (en : En B F O h Γ σ) (l : LeX Γ ΓX) : EnX B F h ΓX σ := by
 cases ΓX with
 | none => trivial
 | some Γ' => exact ⟨O,en.le l⟩
end
/-- a simple statement's outcome -/
inductive Out1 (B : Bs) (F : Nat -> Prop) (h : Hh) {β : Type} (Γ' : β -> List Sl) (ΓX : Option (List Sl)) (K : Rs β -> Nat -> Prop) : RT -> Prop
 | nx {b : β} {c' : Nat} {σ' : Sg} {h' : Hh} {F' : Nat -> Prop} {O' : Nat -> Option Nat} (k : K (.ok b) c') (iv : Iv B F' h' c') (g : Gw F h F' h') (en : En B F' O' h' (Γ' b) σ') : Out1 B F h Γ' ΓX K (.nx σ' h')
 | exc {n c' : Nat} {fs : List (Str × Q)} {fs' : List (Str × D)} {σ' : Sg} {h' : Hh} {F' : Nat -> Prop} (k : K (.exc n fs) c') (iv : Iv B F' h' c') (g : Gw F h F' h') (r : aY F' B.sa h' fs fs') (ex : EnX B F' h' ΓX σ') : Out1 B F h Γ' ΓX K (.exc n fs' σ' h')
inductive OutS (B : Bs) (F : Nat -> Prop) (h : Hh) (fr : Bool) {L β : Type} (ΓL : L -> List Sl) (ΓN : β -> List Sl) (ΓX : Option (List Sl)) (K : Rs (Fl L β) -> Nat -> Prop) : RT -> Prop
 | nx {b : β} {c' : Nat} {σ' : Sg} {h' : Hh} {F' : Nat -> Prop} {O' : Nat -> Option Nat} (k : K (.ok (.nx b)) c') (iv : Iv B F' h' c') (g : Gw F h F' h') (en : En B F' O' h' (ΓN b) σ') : OutS B F h fr ΓL ΓN ΓX K (.nx σ' h')
 | brk {b : L} {c' : Nat} {σ' : Sg} {h' : Hh} {F' : Nat -> Prop} {O' : Nat -> Option Nat} (k : K (.ok (.brk b)) c') (iv : Iv B F' h' c') (g : Gw F h F' h') (en : En B F' O' h' (ΓL b) σ') : OutS B F h fr ΓL ΓN ΓX K (.brk σ' h')
 | cont {b : L} {c' : Nat} {σ' : Sg} {h' : Hh} {F' : Nat -> Prop} {O' : Nat -> Option Nat} (k : K (.ok (.cont b)) c') (iv : Iv B F' h' c') (g : Gw F h F' h') (en : En B F' O' h' (ΓL b) σ') : OutS B F h fr ΓL ΓN ΓX K (.cont σ' h')
 | ret {q : Q} {c' : Nat} {w : D} {h' : Hh} {F' : Nat -> Prop} (k : K (.ok (.ret q)) c') (iv : Iv B F' h' c') (g : Gw F h F' h') (r : if fr = true then qR B.h0.length F' B.sa h' q w else Rep F' B.sa h' q w) : OutS B F h fr ΓL ΓN ΓX K (.ret w h')
 | exc {n c' : Nat} {fs : List (Str × Q)} {fs' : List (Str × D)} {σ' : Sg} {h' : Hh} {F' : Nat -> Prop} (k : K (.exc n fs) c') (iv : Iv B F' h' c') (g : Gw F h F' h') (r : aY F' B.sa h' fs fs') (ex : EnX B F' h' ΓX σ') : OutS B F h fr ΓL ΓN ΓX K (.exc n fs' σ' h')
structure S1 {β : Type} (ΓX : Option (List Sl)) (Γ : List Sl) (m : MS) (p : Pm β) (Γ' : β -> List Sl) : Prop where
 run : ∀ {B : Bs} {F : Nat -> Prop} {O : Nat -> Option Nat} {σ : Sg} {h : Hh} {c : Nat} {K : Rs β -> Nat -> Prop},Iv B F h c -> En B F O h Γ σ -> p K c -> Out1 B F h Γ' ΓX K (m σ h)
structure SS' {L β : Type} (fr : Bool) (ΓL : L -> List Sl) (ΓX : Option (List Sl)) (Γ : List Sl) (m : MS) (p : Pm (Fl L β)) (ΓN : β -> List Sl) : Prop where
 run : ∀ {B : Bs} {F : Nat -> Prop} {O : Nat -> Option Nat} {σ : Sg} {h : Hh} {c : Nat} {K : Rs (Fl L β) -> Nat -> Prop},Iv B F h c -> En B F O h Γ σ -> p K c -> OutS B F h fr ΓL ΓN ΓX K (m σ h)
section
variable {L β γ : Type} {fr : Bool} {ΓL : L -> List Sl} {ΓX : Option (List Sl)} {Γ Γ' : List Sl} {ΓN : β -> List Sl} {ΓM : γ -> List Sl} {m a b : M D} {p pa pb : Pm Q} {q : Q} {w : D} {F F' : Nat -> Prop} {sa : Nat} {h h' : Hh} {qs : List Q} {ws : List D} {B : Bs} {c : Nat} {O : Nat -> Option Nat} {σ : Sg}
theorem OutS.gw {r : RT} {K : Rs (Fl L β) -> Nat -> Prop} (g : Gw F h F' h') (o : OutS B F' h' fr ΓL ΓN ΓX K r) : OutS B F h fr ΓL ΓN ΓX K r := by
 cases o with
 | nx k iv g' en => exact .nx k iv (g.trans g') en
 | brk k iv g' en => exact .brk k iv (g.trans g') en
 | cont k iv g' en => exact .cont k iv (g.trans g') en
 | ret k iv g' r => exact .ret k iv (g.trans g') r
 | exc k iv g' r ex => exact .exc k iv (g.trans g') r ex
theorem Out1.gw {r : RT} {K : Rs β -> Nat -> Prop} (g : Gw F h F' h') (o : Out1 B F' h' ΓN ΓX K r) : Out1 B F h ΓN ΓX K r := by
 cases o with
 | nx k iv g' en => exact .nx k iv (g.trans g') en
 | exc k iv g' r ex => exact .exc k iv (g.trans g') r ex
theorem Out.then1 {α β' : Type} {Rl : (Nat -> Prop) -> Hh -> β' -> α -> Prop} {r : R α} {f : α -> Hh -> RT} {g : β' -> Pm β} {K : Rs β -> Nat -> Prop} (iv : Iv B F h c) (en : En B F O h Γ σ) (lx : LeX Γ ΓX) (o : Out B F h Rl (bK g K) r)
  (hf : ∀ {F1 : Nat -> Prop} {h1 : Hh} {q : β'} {w : α} {c1 : Nat},Iv B F1 h1 c1 -> Ge B.sa F h F1 h1 -> En B F1 O h1 Γ σ -> Rl F1 h1 q w -> g q K c1 -> Out1 B F1 h1 ΓN ΓX K (f w h1)) : Out1 B F h ΓN ΓX K (r.then σ f) := by
 cases o with
 | ok k i1 g1 r1 => exact (hf i1 g1 (en.ge iv g1) r1 k).gw g1.toGw
 | exc k i1 g1 r1 => exact .exc k i1 g1.toGw r1 ((en.ge iv g1).lex lx)
theorem Out.thenS {α β' : Type} {Rl : (Nat -> Prop) -> Hh -> β' -> α -> Prop} {r : R α} {f : α -> Hh -> RT} {g : β' -> Pm (Fl L β)} {K : Rs (Fl L β) -> Nat -> Prop} (iv : Iv B F h c) (en : En B F O h Γ σ) (lx : LeX Γ ΓX) (o : Out B F h Rl (bK g K) r)
  (hf : ∀ {F1 : Nat -> Prop} {h1 : Hh} {q : β'} {w : α} {c1 : Nat},Iv B F1 h1 c1 -> Ge B.sa F h F1 h1 -> En B F1 O h1 Γ σ -> Rl F1 h1 q w -> g q K c1 -> OutS B F1 h1 fr ΓL ΓN ΓX K (f w h1)) : OutS B F h fr ΓL ΓN ΓX K (r.then σ f) := by
 cases o with
 | ok k i1 g1 r1 => exact (hf i1 g1 (en.ge iv g1) r1 k).gw g1.toGw
 | exc k i1 g1 r1 => exact .exc k i1 g1.toGw r1 ((en.ge iv g1).lex lx)
theorem aEo {α : Type} {K : Rs α -> Nat -> Prop} : bK (fun q => Pm.ret q) K = K := by
 funext r c; cases r <;> rfl
theorem sN (i : Nat) (lx : LeX Γ ΓX) (x : SEs Γ a pa) : S1 ΓX Γ (bI (.nm i) a) pa (fun q => Γ.set i (.fz q)) := ⟨fun iv en k =>
 Out.then1 (g := fun q => .ret q) iv en lx (x.run iv en (by rw [aEo]; exact k)) fun i1 g1 e1 r1 k1 => by
  obtain ⟨F2,i2,g2,r2,t2⟩ := tW i1 r1
  simp only [Tg.set]
  exact .nx k1 i2 g2.toGw ((e1.ge i1 g2).set r2 t2)⟩
theorem En.setOw {i a : Nat} (en : En B F O h Γ σ) (hb : B.h0.length <= a) (hf : ¬ F a) (ho : ∀ j,O j ≠ some a) (t : Top F B.sa h a q) : En B F (fun j => if j = i then some a else O j) h (Γ.set i (.ow q)) (σ.set i (some (.ref a))) := by
 refine ⟨by simp [en.len],fun j q' e => ?_,fun j q' e => ?_,fun j b e => ?_,fun j j' b e1 e2 => ?_,fun j w' e => by
  by_cases hj : i = j
  ·subst hj
   have hl : i < Γ.length := by simpa using aF e
   rw [List.getElem?_set_self hl] at e; cases e
  ·rw [List.getElem?_set_ne hj] at e ⊢
   exact en.eqd j w' e⟩
 ·by_cases hj : i = j
  ·subst hj
   have hl : i < Γ.length := by simpa using aF e
   rw [List.getElem?_set_self hl] at e; cases e
  ·rw [List.getElem?_set_ne hj] at e ⊢
   exact en.fz j q' e
 ·by_cases hj : i = j
  ·subst hj
   have hl : i < Γ.length := by simpa using aF e
   rw [List.getElem?_set_self hl] at e; cases e
   exact ⟨a,by simp,List.getElem?_set_self (by rw [en.len]; exact hl),t⟩
  ·rw [List.getElem?_set_ne hj] at e ⊢
   have : j ≠ i := fun z => hj z.symm
   simp only [this,if_false]
   exact en.ow j q' e
 ·split at e
  ·cases e; exact ⟨hb,hf,t.lt⟩
  ·exact en.oh j b e
 ·split at e1
  ·rename_i h1
   cases e1
   split at e2
   ·rename_i h2; rw [h1,h2]
   ·exact absurd e2 (ho j')
  ·split at e2
   ·cases e2; exact absurd e1 (ho j)
   ·exact en.inj j j' b e1 e2
theorem aFf (i : Nat) (lx : LeX Γ ΓX) (x : SEf Γ a pa) : S1 ΓX Γ (bI (.nm i) a) pa (fun q => Γ.set i (.ow q)) := ⟨fun {B F O σ h c K} iv en k =>
 Out.then1 (g := fun q => .ret q) iv en lx (x.run iv en (by rw [aEo]; exact k)) fun {F1 h1 q w c1} i1 g1 e1 r1 k1 => by
  obtain ⟨a,ea,ha,hf,i2,g2,t⟩ := aKu i1 g1.len r1
  simp only [Tg.set,ea]
  have e2 := e1.ge i1 g2
  refine .nx k1 i2 g2.toGw (e2.setOw (Nat.le_trans iv.len ha) hf (fun j z => ?_) t)
  have := (en.oh j a z).2.2
  omega⟩
theorem aFg {α : Type} {t : Tg} {un : Q -> Option α} {ΓT : List Sl -> α -> List Sl} (tg : TgS t un ΓT) (lx : LeX Γ ΓX) (x : SEs Γ a pa) : S1 ΓX Γ (bI t a) (pa.bind fun q => .of (un q)) (fun y => ΓT Γ y) := ⟨fun iv en k =>
 Out.then1 iv en lx (x.run iv en k) fun i1 g1 e1 r1 k1 => by
  obtain ⟨y,e,k2⟩ := eU k1
  obtain ⟨F2,i2,g2,r2,t2⟩ := tW i1 r1
  obtain ⟨σ',e3,en3⟩ := tg.run (e1.ge i1 g2) r2 t2 e
  simp only [e3]
  exact .nx k2 i2 g2.toGw en3⟩
theorem Iv.setO {x : Cl} {a : Nat} (iv : Iv B F h c) (ha : B.h0.length <= a) (hf : ¬ F a) : Iv B F (h.set a x) c := by
 have hs := iv.sl
 refine ⟨iv.sr.up (Up.set (is := [a]) (by simp)) (by simp; omega),iv.ns,fun b f => ?_,by simp; exact iv.len,iv.sl,iv.up0,iv.dn0,fun b l z => ?_⟩
 ·obtain ⟨y,e,l⟩ := iv.fl b f
  have : a ≠ b := fun z => hf (z ▸ f)
  exact ⟨y,by rw [List.getElem?_set_ne this]; exact e,by simpa using l⟩
 ·rw [List.getElem?_set_ne (by omega)]; exact iv.same0 b l z
theorem aDA {x : Cl} {a : Nat} (hf : ¬ F a) : Gw F h F (h.set a x) := ⟨by simp,fun _ z => z,fun b f => List.getElem?_set_ne fun z : a = b => hf (by rw [z]; exact f)⟩
theorem En.chg {i a : Nat} {x : Cl} {q' : Q} (en : En B F O h Γ σ) (e : Γ[i]? = some (.ow q)) (ho : O i = some a) (t : Top F B.sa (h.set a x) a q') : En B F O (h.set a x) (Γ.set i (.ow q')) σ := by
 have hf := (en.oh i a ho).2.1
 have g : Gw F h F (h.set a x) := aDA hf
 have hl : i < Γ.length := aF e
 refine ⟨by simp [en.len],fun j q0 ej => ?_,fun j q0 ej => ?_,fun j b eb => ?_,en.inj,fun j w' ej => by
  by_cases hj : i = j
  ·subst hj; rw [List.getElem?_set_self hl] at ej; cases ej
  ·rw [List.getElem?_set_ne hj] at ej; exact en.eqd j w' ej⟩
 ·by_cases hj : i = j
  ·subst hj; rw [List.getElem?_set_self hl] at ej; cases ej
  ·rw [List.getElem?_set_ne hj] at ej
   obtain ⟨w,e1,e2,r⟩ := en.fz j q0 ej
   exact ⟨w,e1,e2,r.mono g⟩
 ·by_cases hj : i = j
  ·subst hj
   rw [List.getElem?_set_self hl] at ej; cases ej
   obtain ⟨a',e1,e2,_⟩ := en.ow i q e
   rw [ho] at e1; cases e1
   exact ⟨a,ho,e2,t⟩
  ·rw [List.getElem?_set_ne hj] at ej
   obtain ⟨b,e1,e2,r⟩ := en.ow j q0 ej
   have : a ≠ b := fun z => hj (en.inj i j a ho (z ▸ e1))
   exact ⟨b,e1,e2,r.mono g (List.getElem?_set_ne this)⟩
 ·obtain ⟨o1,o2,o3⟩ := en.oh j b eb
  exact ⟨o1,o2,by simpa using o3⟩
def nX {β : Type} (T : String) (x : Q) (p : Pm β) : Pm β := if oE x = some T then p else .bad
@[simp] theorem aBo {p : Pm β} {x : List Q} : nX "list" (.lst x) p = p := by simp [nX,oE]
@[simp] theorem aNE {p : Pm β} {x : List (Key × Q)} : nX "dict" (.dK x) p = p := by simp [nX,oE]
@[simp] theorem aNF {p : Pm β} {x : List (List Key × Q)} : nX "dict" (.dT x) p = p := by simp [nX,oE]
/-- a method of one argument that changes a list or dict of one's own and returns None -/
theorem aM5 {T : String} {op : Op1} {g : Q -> Q -> Option Q} (i : Nat) (e : Γ[i]? = some (.ow q)) (lx : LeX Γ ΓX) (x : SEs Γ a pa)
  (hop : ∀ {F : Nat -> Prop} {sa : Nat} {h : Hh} {a : Nat} {y : Q} {w : D} {q' : Q},¬ F a -> Top F sa h a q -> Rep F sa h y w -> g q y = some q' -> ∃ x,op (.ref a) w h = .ok .non (h.set a x) /\ Top F sa (h.set a x) a q') :
  S1 ΓX Γ (iP (mM1 (on1 T op) (mV i) a)) (nX T q (pa.bind fun y => .of (g q y))) (fun q' => Γ.set i (.ow q')) := ⟨fun {B F O σ h c K} iv en k => by
 obtain ⟨ad,o1,o2,t⟩ := en.ow i q e
 unfold nX at k
 split at k
 ·rename_i ht
  have hm : (mM1 (on1 T op) (mV i) a) σ h = (a σ h).bind fun y h2 => op (.ref ad) y h2 := by
   simp only [mM1,xD,o2,R.bind_ok,aIB t.vw ht,aGl]
  show Out1 B F h _ ΓX K (((mM1 (on1 T op) (mV i) a) σ h).then σ fun _ h1 => .nx σ h1)
  rw [hm]
  have o := x.run iv en k
  revert o
  generalize a σ h = r0
  intro o
  cases o with
  | @ok y c' w h' F' k1 i1 g1 r1 =>
   obtain ⟨q',e1,k2⟩ := eU k1
   have e2 := en.ge iv g1
   obtain ⟨oh1,oh2,oh3⟩ := e2.oh i ad o1
   have t2 : Top F' B.sa h' ad q := by
    obtain ⟨ad',z1,z2,z3⟩ := e2.ow i q e
    rw [o1] at z1; cases z1; exact z3
   obtain ⟨xc,e3,t3⟩ := hop oh2 t2 r1 e1
   simp only [R.bind_ok,e3,R.then]
   exact .nx k2 (i1.setO oh1 oh2) (g1.toGw.trans (aDA oh2)) (e2.chg e o1 t3)
  | exc k1 i1 g1 r1 => exact .exc k1 i1 g1.toGw r1 ((en.ge iv g1).lex lx)
 ·exact k.elim⟩
def nK (q x : Q) : Option Q := match q,x with
 | .lst qs, .lst rs => if qs.length + rs.length <= sizeLine then some (.lst (qs ++ rs)) else none
 | _,_ => none
theorem aBJ (i : Nat) (e : Γ[i]? = some (.ow q)) (lx : LeX Γ ΓX) (x : SEs Γ a pa) : S1 ΓX Γ (iP (mM1 (on1 "list" lG) (mV i) a)) (nX "list" q (pa.bind fun y => .of (nK q y))) (fun q' => Γ.set i (.ow q')) :=
 aM5 i e lx x fun {F sa h a y w q'} hf t r e => by
  unfold nK at e
  split at e
  ·split at e
   ·rename_i hl
    cases e
    obtain ⟨ws,ea,rs⟩ := t
    obtain ⟨us,a1,a2,a3,a4,rs2⟩ := iT r.vw
    refine ⟨.lst (ws ++ us), ?_,_,List.getElem?_set_self (aF ea),((rs.app rs2).mono (aDA hf))⟩
    have : ws.length + us.length <= sizeLine := by rw [rs.len,rs2.len]; exact hl
    simp only [lG,fD,ea,a2,this,if_true]
   ·cases e
  ·cases e
end
end PV
end
section
namespace PV
open PySem PySem.Spec PyProof.Rows L2
section
variable {L β γ : Type} {fr : Bool} {ΓL : L -> List Sl} {ΓX : Option (List Sl)} {Γ Γ' : List Sl} {ΓN : β -> List Sl} {ΓM : γ -> List Sl} {m a b d : M D} {p pa pb pd : Pm Q} {q : Q} {w : D} {F F' : Nat -> Prop} {sa : Nat} {h h' : Hh} {qs : List Q} {ws : List D} {B : Bs} {c : Nat} {O : Nat -> Option Nat} {σ : Sg}
def PVs (B : Bs) (F : Nat -> Prop) (h : Hh) : Nat -> List Bool -> List Q -> List D -> Prop
 | _,[],[],[] => True
 | n,md :: mds,q :: qs,w :: ws => if md = true then ∃ a,w = .ref a /\ n <= a /\ ¬ F a /\ Top F B.sa h a q /\ PVs B F h (a + 1) mds qs ws else w.isTl = false /\ Rep F B.sa h q w /\ PVs B F h n mds qs ws
 | _,_,_,_ => False
theorem PVs.len : ∀ {n : Nat} {mds : List Bool} {qs : List Q} {ws : List D},PVs B F h n mds qs ws -> ws.length = mds.length
 | n,[],[],[],_ => rfl
 | n,md :: mds,q :: qs,w :: ws,r => by
  simp only [PVs] at r
  split at r
  ·obtain ⟨a,_,_,_,_,r⟩ := r; simp [r.len]
  ·simp [r.2.2.len]
 | n,[],q :: qs,ws,r => r.elim
 | n,[],[],w :: ws,r => r.elim
 | n,md :: mds,[],ws,r => r.elim
 | n,md :: mds,q :: qs,[],r => r.elim
def l2 : List Q -> Option (Q × Q)
 | [a,b] => some (a,b)
 | _ => none
def l3 : List Q -> Option (Q × Q × Q)
 | [a,b,c] => some (a,b,c)
 | _ => none
def l4 : List Q -> Option (Q × Q × Q × Q)
 | [a,b,c,d] => some (a,b,c,d)
 | _ => none
@[simp] theorem aOy {a b : Q} : l2 [a,b] = some (a,b) := id rfl
@[simp] theorem aOz {a b c : Q} : l3 [a,b,c] = some (a,b,c) := id rfl
@[simp] theorem aOA {a b c d : Q} : l4 [a,b,c,d] = some (a,b,c,d) := id rfl
end
end PV
end
section
namespace PV
open PySem PySem.Spec PyProof.Rows L2
def yZ {L β γ : Type} (f : γ -> Pm (Fl L β)) : Fl L γ -> Pm (Fl L β) := fun r => match r with
 | .nx b => f b
 | .brk l => .ret (.brk l)
 | .cont l => .ret (.cont l)
 | .ret q => .ret (.ret q)
def Pm.seq {L β γ : Type} (p : Pm (Fl L γ)) (f : γ -> Pm (Fl L β)) : Pm (Fl L β) := p.bind (yZ f)
theorem aFl {L β γ : Type} {p : Pm (Fl L γ)} {f : γ -> Pm (Fl L β)} {K : Rs (Fl L β) -> Nat -> Prop} {c : Nat} : p.seq f K c = p (bK (yZ f) K) c := rfl
@[simp] theorem uU {L β γ : Type} {f : γ -> Pm (Fl L β)} {b : γ} : yZ f (.nx b) = f b := id rfl
@[simp] theorem aM8 {L β γ : Type} {f : γ -> Pm (Fl L β)} {b : L} : yZ f (.brk b) = .ret (.brk b) := id rfl
@[simp] theorem aL9 {L β γ : Type} {f : γ -> Pm (Fl L β)} {b : L} : yZ f (.cont b) = .ret (.cont b) := id rfl
@[simp] theorem sO {L β γ : Type} {f : γ -> Pm (Fl L β)} {q : Q} : yZ f (.ret q) = .ret (.ret q) := id rfl
section
variable {L β γ : Type} {fr : Bool} {ΓL : L -> List Sl} {ΓX : Option (List Sl)} {Γ Γ' : List Sl} {ΓN : β -> List Sl} {ΓM : γ -> List Sl} {m a b d : M D} {p pa pb pd : Pm Q} {q : Q} {w : D} {F F' : Nat -> Prop} {sa : Nat} {h h' : Hh} {qs : List Q} {ws : List D} {B : Bs} {c : Nat} {O : Nat -> Option Nat} {σ : Sg} {s t : MS}
@[simp] theorem seq_nx {x : γ} {f : γ -> Pm (Fl L β)} : Pm.seq (.ret (.nx x)) f = f x := id rfl
@[simp] theorem seq_ret {f : γ -> Pm (Fl L β)} : Pm.seq (.ret (.ret q)) f = .ret (.ret q) := id rfl
@[simp] theorem seq_brk {l : L} {f : γ -> Pm (Fl L β)} : Pm.seq (.ret (.brk l)) f = .ret (.brk l) := id rfl
@[simp] theorem seq_cont {l : L} {f : γ -> Pm (Fl L β)} : Pm.seq (.ret (.cont l)) f = .ret (.cont l) := id rfl
@[simp] theorem seq_bad {f : γ -> Pm (Fl L β)} : Pm.seq .bad f = .bad := id rfl
@[simp] theorem seq_exc {n : Nat} {fs : List (Str × Q)} {f : γ -> Pm (Fl L β)} : Pm.seq (.exc n fs) f = .exc n fs := id rfl
@[simp] theorem aM9 {α : Type} {p : Pm α} {g : α -> Pm (Fl L γ)} {f : γ -> Pm (Fl L β)} : Pm.seq (p.bind g) f = p.bind fun x => (g x).seq f := by simp only [Pm.seq,bL]
theorem gZ {p : Pm γ} {pr : γ -> Pm (Fl L β)} (x : S1 ΓX Γ s p ΓM) (y : ∀ z,SS' fr ΓL ΓX (ΓM z) t (pr z) ΓN) : SS' fr ΓL ΓX Γ (aN s t) (p.bind pr) ΓN := ⟨fun iv en k => by
 have o := x.run iv en k
 revert o
 simp only [aN]
 generalize s _ _ = r0
 intro o
 cases o with
 | nx k i1 g1 e1 => exact ((y _).run i1 e1 k).gw g1
 | exc k i1 g1 r1 ex => exact .exc k i1 g1 r1 ex⟩
theorem aKX {p : Pm γ} {f : γ -> β} (x : S1 ΓX Γ s p ΓM) (y : ∀ z,LeL (ΓM z) (ΓN (f z))) : SS' fr ΓL ΓX Γ s (p.bind fun z => .ret (.nx (f z))) ΓN := ⟨fun iv en k => by
 have o := x.run iv en k
 revert o
 generalize s _ _ = r0
 intro o
 cases o with
 | nx k i1 g1 e1 => exact .nx k i1 g1 (e1.le (y _))
 | exc k i1 g1 r1 ex => exact .exc k i1 g1 r1 ex⟩
theorem eZ {p : Pm (Fl L γ)} {pr : γ -> Pm (Fl L β)} (x : SS' fr ΓL ΓX Γ s p ΓM) (y : ∀ z,SS' fr ΓL ΓX (ΓM z) t (pr z) ΓN) : SS' fr ΓL ΓX Γ (aN s t) (p.seq pr) ΓN := ⟨fun iv en k => by
 have o := x.run iv en k
 revert o
 simp only [aN]
 generalize s _ _ = r0
 intro o
 cases o with
 | nx k i1 g1 e1 => exact ((y _).run i1 e1 k).gw g1
 | brk k i1 g1 e1 => exact .brk k i1 g1 e1
 | cont k i1 g1 e1 => exact .cont k i1 g1 e1
 | ret k i1 g1 r1 => exact .ret k i1 g1 r1
 | exc k i1 g1 r1 ex => exact .exc k i1 g1 r1 ex⟩
/-- what is one's own becomes frozen -/
theorem aGX {p : Pm (Fl L β)} (i : Nat) (e : Γ[i]? = some (.ow q)) (x : SS' fr ΓL ΓX (Γ.set i (.fz q)) s p ΓN) : SS' fr ΓL ΓX Γ s p ΓN := ⟨fun {B F O σ h c K} iv en k => by
 obtain ⟨a,o1,o2,t⟩ := en.ow i q e
 obtain ⟨oh1,oh2,oh3⟩ := en.oh i a o1
 have iv2 := iv.freeze oh1 t
 have en2 : En B (Fx F a) (fun j => if j = i then none else O j) h (Γ.set i (.fz q)) σ := by
  refine ⟨by simp [en.len],fun j q' ej => ?_,fun j q' ej => ?_,fun j b ej => ?_,fun j j' b e1 e2 => ?_,fun j w' ej => by
   by_cases hj : i = j
   ·subst hj; rw [List.getElem?_set_self (aF e)] at ej; cases ej
   ·rw [List.getElem?_set_ne hj] at ej; exact en.eqd j w' ej⟩
  ·by_cases hj : i = j
   ·subst hj
    rw [List.getElem?_set_self (aF e)] at ej; cases ej
    exact ⟨_,o2,rfl,(t.mono nR rfl).rep (.inr rfl)⟩
   ·rw [List.getElem?_set_ne hj] at ej
    obtain ⟨w,e1,e2,r⟩ := en.fz j q' ej
    exact ⟨w,e1,e2,r.mono nR⟩
  ·by_cases hj : i = j
   ·subst hj
    rw [List.getElem?_set_self (aF e)] at ej; cases ej
   ·rw [List.getElem?_set_ne hj] at ej
    obtain ⟨b,e1,e2,r⟩ := en.ow j q' ej
    have : j ≠ i := fun z => hj z.symm
    exact ⟨b,by simp only [this,if_false]; exact e1,e2,r.mono nR rfl⟩
  ·split at ej
   ·cases ej
   ·rename_i hj
    obtain ⟨z1,z2,z3⟩ := en.oh j b ej
    refine ⟨z1,fun z => ?_,z3⟩
    rcases z with z | rfl
    ·exact z2 z
    ·exact hj (en.inj j i b ej o1)
  ·split at e1
   ·cases e1
   ·split at e2
    ·cases e2
    ·exact en.inj j j' b e1 e2
 exact (x.run iv2 en2 k).gw nR⟩
theorem fH {z : β} (l : LeL Γ (ΓN z)) : SS' fr ΓL ΓX Γ cJ (.ret (.nx z)) ΓN := ⟨fun iv en k => .nx k iv .rfl' (en.le l)⟩
theorem cE (lx : LeX Γ ΓX) (x : SEs Γ a pa) : SS' false ΓL ΓX Γ (bA a) (pa.bind fun q => .ret (.ret q)) ΓN := ⟨fun iv en k =>
 Out.thenS iv en lx (x.run iv en k) fun i1 g1 e1 r1 k1 => .ret k1 i1 .rfl' (by simpa using r1)⟩
theorem aIN (lx : LeX Γ ΓX) (x : SEf Γ a pa) : SS' true ΓL ΓX Γ (bA a) (pa.bind fun q => .ret (.ret q)) ΓN := ⟨fun iv en k =>
 Out.thenS iv en lx (x.run iv en k) fun i1 g1 e1 r1 k1 => .ret k1 i1 .rfl' (by
  simp only [if_true]
  rcases r1 with r | ⟨a,e,l,r⟩
  ·exact .inl r
  ·exact .inr ⟨a,e,Nat.le_trans iv.len l,r⟩)⟩
theorem iK {tm : M Bool} {pt : Pm Bool} {p1 p2 : Pm (Fl L β)} (lx : LeX Γ ΓX) (x : STb Γ tm pt) (y : SS' fr ΓL ΓX Γ s p1 ΓN) (z : SS' fr ΓL ΓX Γ t p2 ΓN) : SS' fr ΓL ΓX Γ (dD tm s t) (pt.bind fun x => if x = true then p1 else p2) ΓN := ⟨fun iv en k =>
 Out.thenS iv en lx (x.run iv en k) fun i1 g1 e1 r1 k1 => by
  subst r1
  split
  ·rename_i hx; rw [if_pos hx] at k1; exact y.run i1 e1 k1
  ·rename_i hx; rw [if_neg hx] at k1; exact z.run i1 e1 k1⟩
def tX {S β : Type} (r : Fl S S) (k : S -> Pm (Fl L S)) : Pm (Fl L S) := match r with
 | .nx s => k s
 | .cont s => k s
 | .brk s => .ret (.nx s)
 | .ret q => .ret (.ret q)
def gO {α S : Type} (un : Q -> Option α) (pb : α -> S -> Pm (Fl S S)) : List Q -> S -> Pm (Fl L S)
 | [],s => .ret (.nx s)
 | q :: qs,s => (Pm.of (un q)).bind fun a => (pb a s).bind fun r => tX (β := β) r fun s' => gO un pb qs s'
def mL {α S : Type} (un : Q -> Option α) (pb : α -> S -> Pm (Fl S S)) (l : List Q) (s : S) : Pm (Fl L S) := if l.length <= sizeLine then gO (β := Unit) un pb l s else .bad
theorem aCT {α S : Type} {un : Q -> Option α} {pb : α -> S -> Pm (Fl S S)} {t : Tg} {ΓT : List Sl -> α -> List Sl} {b : MS} {src : Src} {Γ0 : S -> List Sl} {K : Rs (Fl L S) -> Nat -> Prop} (tg : TgS t un ΓT) (hb : ∀ a z,SS' fr Γ0 ΓX (ΓT (Γ0 z) a) b (pb a z) Γ0) :
  ∀ (n i : Nat) {qs : List Q} {ws : List D} {z : S} {F : Nat -> Prop} {h : Hh} {c : Nat} {O : Nat -> Option Nat} {σ : Sg},Iv B F h c -> En B F O h (Γ0 z) σ -> (∀ {F' h'},Gw F h F' h' -> ∀ j,src (i + j) h' = some ws[j]?) -> Reps F B.sa h qs ws -> ws.length < n -> gO (β := Unit) un pb qs z K c ->
   OutS B F h fr ΓL Γ0 ΓX K (kT src t b n i σ h)
 | 0,i,qs,ws,z,F,h,c,O,σ,iv,en,hs,r,hl,k => by omega
 | n + 1,i,qs,ws,z,F,h,c,O,σ,iv,en,hs,r,hl,k => by
  have s0 := hs .rfl' 0
  simp only [Nat.add_zero] at s0
  cases qs with
  | nil =>
   simp only [Reps] at r; subst r
   simp only [kT,s0]
   exact .nx k iv .rfl' en
  | cons q qs =>
   simp only [Reps] at r
   obtain ⟨w,ws,rfl,ht,r1,rs⟩ := r
   simp only [gO] at k
   obtain ⟨a,e,k1⟩ := nJ k
   obtain ⟨σ',e2,en2⟩ := tg.run en r1 ht e
   simp only [kT,s0,List.getElem?_cons_zero,e2]
   have o := (hb a z).run iv en2 k1
   revert o
   generalize b σ' h = r0
   intro o
   have nxt : ∀ {z' : S} {c' : Nat} {σ2 : Sg} {h2 : Hh} {F2 : Nat -> Prop} {O2 : Nat -> Option Nat},gO (β := Unit) un pb qs z' K c' -> Iv B F2 h2 c' -> Gw F h F2 h2 -> En B F2 O2 h2 (Γ0 z') σ2 -> OutS B F h fr ΓL Γ0 ΓX K (kT src t b n (i + 1) σ2 h2) := fun k i2 g2 e3 => by
    refine (aCT tg hb n (i + 1) i2 e3 (fun {F' h'} g j => ?_) (rs.mono g2) (by simp at hl; omega) k).gw g2
    have := hs (g2.trans g) (j + 1)
    rw [Nat.add_assoc,Nat.add_comm 1 j]
    simpa using this
   cases o with
   | nx k i2 g2 e3 => exact nxt k i2 g2 e3
   | cont k i2 g2 e3 => exact nxt k i2 g2 e3
   | brk k i2 g2 e3 => exact .nx k i2 g2 e3
   | ret k i2 g2 r2 => exact .ret k i2 g2 r2
   | exc k i2 g2 r2 ex => exact .exc k i2 g2 r2 ex
theorem aDj {α S : Type} {un : Q -> Option α} {pb : α -> S -> Pm (Fl S S)} {tt : Tg} {ΓT : List Sl -> α -> List Sl} {b : MS} {mi : M Src} {pi : Pm (List Q)} {Γ0 : S -> List Sl} {z : S} (lx : LeX Γ ΓX) (hi : SIs Γ mi pi) (l : LeL Γ (Γ0 z)) (tg : TgS tt un ΓT) (hb : ∀ a z,SS' fr Γ0 ΓX (ΓT (Γ0 z) a) b (pb a z) Γ0) :
  SS' fr ΓL ΓX Γ (kY mi tt b) (pi.bind fun l => mL un pb l z) Γ0 := ⟨fun iv en k =>
 Out.thenS iv en lx (hi.run iv en k) fun {F1 h1 ll src c1} i1 g1 e1 r1 k1 => by
  unfold mL at k1
  split at k1
  ·rename_i hl
   obtain ⟨ws,rs,hs⟩ := r1
   exact aCT tg hb dP 0 i1 (e1.le l) (fun {F' h'} g j => by rw [Nat.zero_add]; exact hs _ g.same j) rs (by rw [rs.len]; exact Nat.lt_of_le_of_lt hl (by decide)) k1
  ·exact k1.elim⟩
abbrev HdP (L β : Type) := List Nat × (Q -> Pm (Fl L β))
def aI3 {L β : Type} : List (HdP L β) -> Nat -> List (Str × Q) -> Pm (Fl L β)
 | [],n,fs => .exc n fs
 | (l,ph) :: r,n,fs => if l.contains n = true then (ph (.xc n (fs.map (·.1)) (fs.map (·.2)))).noX else aI3 r n fs
def aKB {L β : Type} (p : Pm (Fl L β)) (hs : List (HdP L β)) : Pm (Fl L β) := fun K c => p (fun r c' => match r with
 | .ok f => K (.ok f) c'
 | .exc n fs => 100 <= n /\ aI3 hs n fs K c') c
@[simp] theorem aNm {f : Fl L β} {hs : List (HdP L β)} : aKB (.ret f) hs = .ret f := id rfl
@[simp] theorem aNl {hs : List (HdP L β)} : aKB .bad hs = (.bad : Pm (Fl L β)) := id rfl
def bV {L β : Type} (r : Fl L β) : Pm Q := match r with
 | .nx _ => .ret .non
 | .ret q => .ret q
 | _ => .bad
@[simp] theorem aNp {z : β} : bV (L := L) (.nx z) = .ret .non := id rfl
@[simp] theorem eO : bV (L := L) (β := β) (.ret q) = .ret q := id rfl
theorem aAY {n : Nat} (iv : Iv B F h c) (r : Reps F B.sa h qs ws) : En B F (fun _ => none) h (qs.map Sl.fz ++ List.replicate (n - ws.length) Sl.no) (aT n ws) := by
 unfold aT
 refine ⟨by simp [r.len],fun i q e => ?_,fun i q e => ?_,fun i a e => (nomatch e),fun i j a e => (nomatch e),fun i w e => by
  rcases Nat.lt_or_ge i qs.length with hi | hi
  ·rw [List.getElem?_append_left (by simpa using hi),List.getElem?_map] at e
   obtain ⟨q',e1,e2⟩ := Option.map_eq_some_iff.mp e
   cases e2
  ·rw [List.getElem?_append_right (by simpa using hi),List.getElem?_replicate] at e
   split at e <;> cases e⟩
 ·rcases Nat.lt_or_ge i qs.length with hi | hi
  ·rw [List.getElem?_append_left (by simpa using hi),List.getElem?_map] at e
   obtain ⟨q',e1,e2⟩ := Option.map_eq_some_iff.mp e
   cases e2
   obtain ⟨w,e3,nt,rw'⟩ := r.get e1
   refine ⟨w, ?_,nt,rw'⟩
   rw [List.getElem?_append_left (by simpa [r.len] using hi),List.getElem?_map,e3]; rfl
  ·rw [List.getElem?_append_right (by simpa using hi),List.getElem?_replicate] at e
   split at e <;> cases e
 ·rcases Nat.lt_or_ge i qs.length with hi | hi
  ·rw [List.getElem?_append_left (by simpa using hi),List.getElem?_map] at e
   obtain ⟨q',e1,e2⟩ := Option.map_eq_some_iff.mp e
   cases e2
  ·rw [List.getElem?_append_right (by simpa using hi),List.getElem?_replicate] at e
   split at e <;> cases e
/-- a def whose result is whole -/
theorem hA {n np : Nat} {body : MS} {P : List Q -> Pm (Fl L β)} (hb : ∀ qs : List Q,qs.length = np -> SS' false ΓL none (qs.map Sl.fz ++ List.replicate (n - np) Sl.no) body (P qs) ΓN) :
  FnS false (fun ws h => if ws.length = np then eV (body (aT n ws) h) else .bad) (fun qs => if qs.length = np then (P qs).bind bV else .bad) := ⟨fun {F sa h c K qs ws} iv r k => by
 split at k
 ·rename_i hq
  rw [if_pos (by rw [r.len]; exact hq)]
  have e0 := aAY (n := n) iv r
  rw [r.len,hq] at e0
  have o := (hb qs hq).run iv e0 k
  revert o
  generalize body _ _ = r0
  intro o
  have ge : ∀ {F' : Nat -> Prop} {h' : Hh} {c' : Nat},Iv ⟨h,F,sa⟩ F' h' c' -> Gw F h F' h' -> Ge sa F h F' h' := fun i2 g2 => ⟨g2,fun a l z => i2.dn0 a l z,fun a l z => i2.same0 a l z⟩
  cases o with
  | nx k i1 g1 e1 => exact .ok k i1 (ge i1 g1) (by simpa using aC6)
  | brk k i1 g1 e1 => exact k.elim
  | cont k i1 g1 e1 => exact k.elim
  | ret k i1 g1 r1 => exact .ok k i1 (ge i1 g1) r1
  | exc k i1 g1 r1 ex => exact .exc k i1 (ge i1 g1) r1
 ·exact k.elim⟩
def aDt {L β : Type} (r : Fl L β) : Pm Q := match r with
 | .ret q => .ret q
 | _ => .bad
@[simp] theorem aMp : aDt (L := L) (β := β) (.ret q) = .ret q := id rfl
/-- a def whose result is fresh -/
theorem aHz {n np : Nat} {body : MS} {P : List Q -> Pm (Fl L β)} (hb : ∀ qs : List Q,qs.length = np -> SS' true ΓL none (qs.map Sl.fz ++ List.replicate (n - np) Sl.no) body (P qs) ΓN) :
  FnS true (fun ws h => if ws.length = np then eV (body (aT n ws) h) else .bad) (fun qs => if qs.length = np then (P qs).bind aDt else .bad) := ⟨fun {F sa h c K qs ws} iv r k => by
 split at k
 ·rename_i hq
  rw [if_pos (by rw [r.len]; exact hq)]
  have e0 := aAY (n := n) iv r
  rw [r.len,hq] at e0
  have o := (hb qs hq).run iv e0 k
  revert o
  generalize body _ _ = r0
  intro o
  have ge : ∀ {F' : Nat -> Prop} {h' : Hh} {c' : Nat},Iv ⟨h,F,sa⟩ F' h' c' -> Gw F h F' h' -> Ge sa F h F' h' := fun i2 g2 => ⟨g2,fun a l z => i2.dn0 a l z,fun a l z => i2.same0 a l z⟩
  cases o with
  | nx k i1 g1 e1 => exact k.elim
  | brk k i1 g1 e1 => exact k.elim
  | cont k i1 g1 e1 => exact k.elim
  | ret k i1 g1 r1 => exact .ok k i1 (ge i1 g1) r1
  | exc k i1 g1 r1 ex => exact .exc k i1 (ge i1 g1) r1
 ·exact k.elim⟩
end
abbrev vB := Nat -> Option ((Nat -> List Q -> Pm Q) -> Nat -> List Q -> Pm Q)
def aO (PT : vB) : Nat -> Nat -> List Q -> Pm Q
 | 0 => fun _ _ => .bad
 | k + 1 => fun f qs => match PT f with
  | some d => d (aO PT k) k qs
  | none => .bad
theorem aFW {fr : Bool} {PT : vB} {f : Nat} {cl : List D -> Hh -> R D} : FnS fr cl (aO PT 0 f) := ⟨fun _ _ k => k.elim⟩
theorem lH {fr : Bool} {PT : vB} {k f : Nat} {cl : List D -> Hh -> R D} (e : PT f = none) : FnS fr cl (aO PT (k + 1) f) := ⟨fun _ _ k => by simp only [aO,e] at k; exact k.elim⟩
theorem aA2 {fr : Bool} {T : Tab} {PT : vB} {k f : Nat} {d : Fd} {pd : (Nat -> List Q -> Pm Q) -> Nat -> List Q -> Pm Q} (e : T f = some d) (ep : PT f = some pd) (s : FnS fr (fun ws h => if ws.length = d.np then eV (d.body (aM T k) (aT d.nN ws) h) else .bad) (pd (aO PT k) k)) : FnS fr (aM T (k + 1) f) (aO PT (k + 1) f) := ⟨fun iv r k => by
 simp only [aO,ep] at k
 simp only [aM,e,aBI]
 exact s.run iv r k⟩
end PV
end
section
namespace PV
open PySem PySem.Spec PyProof.Rows L2
section
variable {L β γ : Type} {fr : Bool} {ΓL : L -> List Sl} {ΓX : Option (List Sl)} {Γ Γ' : List Sl} {ΓN : β -> List Sl} {ΓM : γ -> List Sl} {m a b d : M D} {p pa pb pd : Pm Q} {q : Q} {w : D} {F F' : Nat -> Prop} {sa : Nat} {h h' : Hh} {qs : List Q} {ws : List D} {B : Bs} {c : Nat} {O : Nat -> Option Nat} {σ : Sg} {s t : MS}
/-- a def treated by hand -/
theorem rG {fr : Bool} {T : Tab} {PT : vB} {k f : Nat} {g : Nat -> List Q -> Pm Q} (ep : PT f = some (fun _ => g)) (s : FnS fr (aM T (k + 1) f) (g k)) : FnS fr (aM T (k + 1) f) (aO PT (k + 1) f) := ⟨fun iv r k => by
 simp only [aO,ep] at k
 exact s.run iv r k⟩
theorem aIU {α β : Type} {mi mi1 : M Src} {t t1 : Tg} {mt mt1 : M Bool} {mk mv : M D} {vs vs1 : List Nat} {pi : Pm (List Q)} {un : Q -> Option α} {ΓT : List Sl -> α -> List Sl} {pt : α -> Pm Bool} {pi1 : α -> Pm (List Q)} {un1 : Q -> Option β} {ΓT1 : List Sl -> β -> List Sl} {pt1 : α -> β -> Pm Bool} {pk pv : α -> β -> Pm Q}
  (hi : SIw Γ mi pi) (tg : TgS t un ΓT) (ht : ∀ a,STb (ΓT (dR Γ vs) a) mt (pt a)) (hi1 : ∀ a,SIw (ΓT (dR Γ vs) a) mi1 (pi1 a)) (tg1 : TgS t1 un1 ΓT1) (ht1 : ∀ a b,STb (ΓT1 (dR (ΓT (dR Γ vs) a) vs1) b) mt1 (pt1 a b)) (hmk : ∀ a b,SEs (ΓT1 (dR (ΓT (dR Γ vs) a) vs1) b) mk (pk a b)) (hmv : ∀ a b,SEs (ΓT1 (dR (ΓT (dR Γ vs) a) vs1) b) mv (pv a b)) :
  SEf Γ (rP kK mi t mt mi1 t1 mt1 mk mv vs vs1) (pi.bind fun l => aDr zJ Q.dK un pt pi1 un1 pt1 pk pv l) := aIT (K0 := kK) (mkq := Q.dK) (fun v e => zK v e) (fun r e => ⟨_,e,r⟩) hi tg ht hi1 tg1 ht1 hmk hmv
end
end PV
end
section
namespace PV
open PySem PySem.Spec PyProof.Rows L2
section
variable {i j : Int} {a b : Str} {q x y z : Q} {qs : List Q}
@[simp] theorem aOh : cR (.int i) (.int j) = some (.int (i + j)) := id rfl
@[simp] theorem aJE : tT (.int i) (.int j) = some (.int (i - j)) := id rfl
@[simp] theorem aHl : qLt (.int i) (.int j) = some (.bl (decide (i < j))) := id rfl
@[simp] theorem aLo : qLe (.int i) (.int j) = some (.bl (decide (i <= j))) := id rfl
@[simp] theorem aHk : qGt (.int i) (.int j) = some (.bl (decide (j < i))) := id rfl
@[simp] theorem aOH : qGe (.int i) (.int j) = some (.bl (decide (j <= i))) := id rfl
@[simp] theorem aOp : aMV (.int i) (.int j) = some (.int (if j > i then j else i)) := id rfl
@[simp] theorem aOq : aMW (.int i) (.int j) = some (.int (if j < i then j else i)) := id rfl
@[simp] theorem aJC : aDV (.int i) = some (.int (-i)) := id rfl
@[simp] theorem aOk {k : Bool} : rZ (.bl k) = some (.int (if k then 1 else 0)) := id rfl
@[simp] theorem aOl : rZ (.int i) = some (.int i) := id rfl
@[simp] theorem aGt : dN (.lst qs) = some (.int qs.length) := id rfl
@[simp] theorem vZ : dN (.tup qs) = some (.int qs.length) := id rfl
@[simp] theorem aNI : dN (.kt qs) = some (.int qs.length) := id rfl
@[simp] theorem aLp : aE6 (.lst qs) = some (.tup qs) := id rfl
@[simp] theorem aLq : aE6 (.tup qs) = some (.tup qs) := id rfl
@[simp] theorem aE4 : sL (.tup qs) = some (.lst qs) := id rfl
@[simp] theorem aL8 : sL (.lst qs) = some (.lst qs) := id rfl
@[simp] theorem eM {k : Bool} : cH (.bl k) = some k := id rfl
@[simp] theorem aFv : iG (.int i) = some i := id rfl
@[simp] theorem aNJ {k : Bool} : aDW (.bl k) = some (.bl (!k)) := id rfl
@[simp] theorem aGw : iF (.lst qs) = some qs := id rfl
@[simp] theorem aGy : iF (.tup qs) = some qs := id rfl
@[simp] theorem aNK : iF (.kt qs) = some qs := id rfl
@[simp] theorem aGx {s : Str} : iF (.str s) = some (s.cps.toList.map fun c => .str ⟨#[c]⟩) := id rfl
@[simp] theorem aL6 : aHj (.lst qs) = some (wW qs) := id rfl
@[simp] theorem aL7 : aHj (.tup qs) = some (wW qs) := id rfl
@[simp] theorem aMY {us : List Q} : aJF (.lst qs) (.lst us) = some (aEk qs us) := id rfl
@[simp] theorem aMZ {us : List Q} : aJF (.tup qs) (.tup us) = some (aEk qs us) := id rfl
@[simp] theorem aH4 : qEq (.str a) (.str b) = some (.bl (decide (a = b))) := id rfl
@[simp] theorem aH6 : qNe (.str a) (.str b) = some (.bl (!decide (a = b))) := id rfl
theorem aBy : rX (.int i) (.int j) = some (decide (i = j)) := by
 have e1 : bD bG (.int i) = some (.int i) := rfl
 have e2 : bD bG (.int j) = some (.int j) := rfl
 have e3 : PyData.eqv (.int i) (.int j) = decide (i = j) := by
  rw [Bool.eq_iff_iff]; simp [PyData.eqv]
 simp only [rX,e1,e2,xU,Bool.and_self,if_true,e3]
@[simp] theorem aC2 : qEq (.int i) (.int j) = some (.bl (decide (i = j))) := by simp [qEq,aBy]
@[simp] theorem aH5 : qNe (.int i) (.int j) = some (.bl (!decide (i = j))) := by simp [qNe,aBy]
@[simp] theorem aOJ : qIs .non .non = some (.bl true) := id rfl
@[simp] theorem aOI {k l : Bool} : qIs (.bl k) (.bl l) = some (.bl (decide (k = l))) := id rfl
@[simp] theorem aJA {k l : Bool} : aBA (.bl k) (.bl l) = some (.bl (!decide (k = l))) := id rfl
@[simp] theorem aOm : aBA .non .non = some (.bl false) := id rfl
@[simp] theorem aMU {c : Nat} {fs : List (Str × Q)} {f : Str} : aMT f (.ins c fs) = if c < 100 then fs.lookup f else none := id rfl
@[simp] theorem xO : qIx (.tup (x :: qs)) (.int 0) = some x := by simp [qIx,atI,ixN]
@[simp] theorem xP : qIx (.tup (x :: y :: qs)) (.int 1) = some y := by
 have : (1 : Int) < (qs.length : Int) + 1 + 1 := by omega
 simp [qIx,atI,ixN,this]
@[simp] theorem aOo : qIx (.tup (x :: y :: z :: qs)) (.int 2) = some z := by
 have : (2 : Int) < (qs.length : Int) + 1 + 1 + 1 := by omega
 simp [qIx,atI,ixN,this]
@[simp] theorem aOn : qIx (.lst (x :: qs)) (.int 0) = some x := by simp [qIx,atI,ixN]
theorem aBB {n : Nat} (e : qs[n]? = some x) : qIx (.tup qs) (.int (n : Int)) = some x := by simp [qIx,pV,e]
theorem aJB {n : Nat} (e : qs[n]? = some x) : qIx (.lst qs) (.int (n : Int)) = some x := by simp [qIx,pV,e]
@[simp] theorem aCo : aV (.int i) (.ty "int") = some (.bl true) := id rfl
@[simp] theorem aBe : aV (.int i) (.ty "bool") = some (.bl false) := id rfl
@[simp] theorem aKK : aV (.int i) (.ty "str") = some (.bl false) := id rfl
@[simp] theorem aKL : aV (.int i) (.ty "tuple") = some (.bl false) := id rfl
@[simp] theorem uW : aV (.str a) (.ty "str") = some (.bl true) := id rfl
@[simp] theorem aKP : aV (.str a) (.ty "tuple") = some (.bl false) := id rfl
@[simp] theorem aKO : aV (.str a) (.ty "int") = some (.bl false) := id rfl
@[simp] theorem uX : aV (.tup qs) (.ty "tuple") = some (.bl true) := id rfl
@[simp] theorem aKR : aV (.tup qs) (.ty "str") = some (.bl false) := id rfl
@[simp] theorem aKQ : aV (.tup qs) (.ty "int") = some (.bl false) := id rfl
@[simp] theorem aKN : aV (.lst qs) (.ty "tuple") = some (.bl false) := id rfl
@[simp] theorem aKM : aV (.lst qs) (.ty "str") = some (.bl false) := id rfl
theorem aE5 : qSl (.tup (x :: qs)) (some 1) none = some (.tup qs) := by
 have e1 : HT.sIx (x :: qs).length 0 (some 1) = 1 := by simp [HT.sIx]
 have e2 : HT.sIx (x :: qs).length (x :: qs).length none = (x :: qs).length := rfl
 simp only [qSl,pC,e1,e2]
 simp
theorem aJD {n : Nat} (h : n <= qs.length) : qSl (.tup qs) none (some (n : Int)) = some (.tup (qs.take n)) := by
 have e1 : HT.sIx qs.length 0 none = 0 := rfl
 have e2 : HT.sIx qs.length qs.length (some (n : Int)) = n := by
  have : ¬ ((n : Int) < 0) := by omega
  simp [HT.sIx,this]; omega
 simp only [qSl,pC,e1,e2]
 simp
theorem aJy {us : List Q} (h : qs.length + us.length <= 16777216) : cR (.tup qs) (.tup us) = some (.tup (qs ++ us)) := by
 have h' : qs.length + us.length <= sizeLine := h
 simp [cR,h']
theorem aE2 {us : List Q} (h : qs.length + us.length <= 16777216) : cR (.lst qs) (.lst us) = some (.lst (qs ++ us)) := by
 have h' : qs.length + us.length <= sizeLine := h
 simp [cR,h']
theorem aAc {us : List Q} (h : qs.length + us.length <= 16777216) : nK (.lst qs) (.lst us) = some (.lst (qs ++ us)) := by
 have h' : qs.length + us.length <= sizeLine := h
 simp [nK,h']
theorem vR {α : Type} {f : α -> Bool} : ∀ {l : List α},aK cH (l.map fun x => Q.bl (f x)) = some (l.map f)
 | [] => rfl
 | x :: l => by simp only [List.map_cons,aK,cH,vR (l := l)]
@[simp] theorem vY {α : Type} {f : α -> Bool} {l : List α} : tR (.lst (l.map fun x => Q.bl (f x))) = some (.bl (l.all f)) := by
 simp only [tR,vR,Option.map_some,List.all_map]; rfl
@[simp] theorem aMR {α : Type} {f : α -> Bool} {l : List α} : aJz (.lst (l.map fun x => Q.bl (f x))) = some (.bl (l.any f)) := by
 simp only [aJz,vR,Option.map_some,List.any_map]; rfl
end
section
variable {α β : Type} {un : Q -> Option α} {pt : α -> Pm Bool} {pe : α -> Pm Q}
theorem aDH (f : β -> Q) (t : β -> Bool) (g : β -> Q) : ∀ {xs : List β} {acc : List Q},acc.length + xs.length <= 16777216 -> (∀ x ∈ xs,∃ a,un (f x) = some a /\ pt a = .ret (t x) /\ (t x = true -> pe a = .ret (g x))) -> mM un (lcB pt pe) (xs.map f) acc = .ret (acc ++ (xs.filter t).map g)
 | [],acc,_,_ => by simp [mM]
 | x :: xs,acc,hl,h => by
  obtain ⟨a,e1,e2,e3⟩ := h x (by simp)
  simp only [List.length_cons] at hl
  have hz : acc.length < sizeLine := szl (by omega)
  simp only [List.map_cons,mM,e1,aI,aG,lcB,e2,uQ]
  cases ht : t x with
  | true =>
   simp only [if_true,e3 ht,uQ,aG,hz]
   rw [aDH f t g (by simp; omega) fun y hy => h y (by simp [hy])]
   simp [ht]
  | false =>
   simp only [Bool.false_eq_true,if_false,aG]
   rw [aDH f t g (by omega) fun y hy => h y (by simp [hy])]
   simp [ht]
/-- [g x for x in xs if t x] -/
theorem aDG {xs : List β} (f : β -> Q) (t : β -> Bool) (g : β -> Q) (hl : xs.length <= 16777216) (h : ∀ x ∈ xs,∃ a,un (f x) = some a /\ pt a = .ret (t x) /\ (t x = true -> pe a = .ret (g x))) : lcP un pt pe (xs.map f) = .ret (.lst ((xs.filter t).map g)) := by
 have hz : (xs.map f).length <= sizeLine := by rw [List.length_map]; exact sz hl
 simp only [lcP,hz,if_true]
 rw [aDH f t g (by simpa using hl) h]
 simp
theorem qC {xs : List β} (f : β -> Q) (g : β -> Q) (hl : xs.length <= 16777216) (h : ∀ x ∈ xs,∃ a,un (f x) = some a /\ pt a = .ret true /\ pe a = .ret (g x)) : lcP un pt pe (xs.map f) = .ret (.lst (xs.map g)) := by
 have := aDG (un := un) (pt := pt) (pe := pe) f (fun _ => true) g hl fun x hx => by
  obtain ⟨a,e1,e2,e3⟩ := h x hx
  exact ⟨a,e1,e2,fun _ => e3⟩
 rw [List.filter_eq_self.mpr (by simp)] at this
 exact this
end
section
variable {α β S L : Type} {un : Q -> Option α} {pb : α -> S -> Pm (Fl S S)}
@[simp] theorem aC9 {β : Type} {s : S} {k : S -> Pm (Fl L S)} : tX (β := β) (.nx s) k = k s := id rfl
@[simp] theorem aMg {β : Type} {s : S} {k : S -> Pm (Fl L S)} : tX (β := β) (.cont s) k = k s := id rfl
@[simp] theorem aNi {β : Type} {s : S} {k : S -> Pm (Fl L S)} : tX (β := β) (.brk s) k = .ret (.nx s) := id rfl
@[simp] theorem aNj {β : Type} {q : Q} {k : S -> Pm (Fl L S)} : tX (β := β) (.ret q) k = .ret (.ret q) := id rfl
theorem yI {l : List Q} {s : S} (h : l.length <= 16777216) : mL (L := L) un pb l s = gO (β := Unit) un pb l s := by
 have : l.length <= sizeLine := sz h
 simp [mL,this]
theorem wY (P : S -> Nat -> Prop) (f : β -> Q) (g : S -> β -> S) : ∀ {xs : List β} {s : S} {n : Nat},P s n -> (∀ (i : Nat) (x : β) (s : S),xs[i]? = some x -> P s (n + i) -> P (g s x) (n + i + 1) /\ ∃ a,un (f x) = some a /\ pb a s = .ret (.nx (g s x))) -> gO (L := L) (β := Unit) un pb (xs.map f) s = .ret (.nx (xs.foldl g s))
 | [],s,n,p,_ => by simp [gO]
 | x :: xs,s,n,p,h => by
  obtain ⟨p1,a,e1,e2⟩ := h 0 x s rfl p
  simp only [List.map_cons,gO,e1,aI,aG,e2,aC9,List.foldl_cons]
  exact wY P f g (n := n + 1) (by simpa using p1) fun i y s' ey p' => by
   have := h (i + 1) y s' (by simpa using ey) (by rw [show n + (i + 1) = n + 1 + i by omega]; exact p')
   rwa [show n + (i + 1) + 1 = n + 1 + i + 1 by omega] at this
/-- for x in xs: s = g s x -/
theorem aEB (P : S -> Nat -> Prop) {xs : List β} {s : S} (f : β -> Q) (g : S -> β -> S) (hl : xs.length <= 16777216) (p : P s 0) (h : ∀ (i : Nat) (x : β) (s : S),xs[i]? = some x -> P s i -> P (g s x) (i + 1) /\ ∃ a,un (f x) = some a /\ pb a s = .ret (.nx (g s x))) : mL (L := L) un pb (xs.map f) s = .ret (.nx (xs.foldl g s)) := by
 rw [yI (by simpa using hl)]
 exact wY P f g p fun i x s ex p => by
  have := h i x s ex (by simpa using p)
  simpa using this
theorem zQ (f : β -> Q) (t : β -> Bool) (v : Q) {s : S} : ∀ {xs : List β},(∀ x ∈ xs,∃ a,un (f x) = some a /\ pb a s = if t x = true then .ret (.nx s) else .ret (.ret v)) -> gO (L := L) (β := Unit) un pb (xs.map f) s = if xs.all t = true then .ret (.nx s) else .ret (.ret v)
 | [],_ => by simp [gO]
 | x :: xs,h => by
  obtain ⟨a,e1,e2⟩ := h x (by simp)
  simp only [List.map_cons,gO,e1,aI,aG,e2]
  cases ht : t x with
  | true => simp only [if_true,aG,aC9,List.all_cons,ht,Bool.true_and]; exact zQ f t v fun y hy => h y (by simp [hy])
  | false => simp [ht]
/-- for x in xs: if not t x: return v -/
theorem aFY {xs : List β} {s : S} (f : β -> Q) (t : β -> Bool) (v : Q) (hl : xs.length <= 16777216) (h : ∀ x ∈ xs,∃ a,un (f x) = some a /\ pb a s = if t x = true then .ret (.nx s) else .ret (.ret v)) : mL (L := L) un pb (xs.map f) s = if xs.all t = true then .ret (.nx s) else .ret (.ret v) := by
 rw [yI (by simpa using hl)]
 exact zQ f t v h
/-- where a loop goes on behind one turn -/
def aG7 (K : Rs (Fl L S) -> Nat -> Prop) (I : S -> Nat -> Prop) : Rs (Fl S S) -> Nat -> Prop := fun r c => match r with
 | .ok (.nx s) => I s c
 | .ok (.cont s) => I s c
 | .ok (.brk s) => K (.ok (.nx s)) c
 | .ok (.ret q) => K (.ok (.ret q)) c
 | .exc n fs => K (.exc n fs) c
theorem aA3 {K : Rs (Fl L S) -> Nat -> Prop} (f : β -> Q) (I : Nat -> S -> Nat -> Prop) : ∀ {xs : List β} {n : Nat} {s : S} {c : Nat},I n s c -> (∀ (i : Nat) (x : β) (s : S) (c : Nat),xs[i]? = some x -> I (n + i) s c -> ∃ a,un (f x) = some a /\ (∀ K',(∀ r c',aG7 K (I (n + i + 1)) r c' -> K' r c') -> pb a s K' c)) -> (∀ s c,I (n + xs.length) s c -> K (.ok (.nx s)) c) -> gO (L := L) (β := Unit) un pb (xs.map f) s K c
 | [],n,s,c,p,_,hk => hk s c p
 | x :: xs,n,s,c,p,h,hk => by
  obtain ⟨a,e1,e2⟩ := h 0 x s c rfl p
  simp only [List.map_cons,gO,e1,aI,aG]
  refine e2 _ fun r c' kr => ?_
  have nxt : ∀ {s' : S},I (n + 0 + 1) s' c' -> gO (L := L) (β := Unit) un pb (xs.map f) s' K c' := fun {s'} p' => aA3 f I (n := n + 1) (by simpa using p') (fun i x s c ex p => by
   have := h (i + 1) x s c (by simpa using ex) (by rw [show n + (i + 1) = n + 1 + i by omega]; exact p)
   rwa [show n + (i + 1) + 1 = n + 1 + i + 1 by omega] at this) (fun s c p => hk s c (by simp only [List.length_cons]; rw [show n + (xs.length + 1) = n + 1 + xs.length by omega]; exact p))
  match r,kr with
  | .ok (.nx s'),kr => exact nxt kr
  | .ok (.cont s'),kr => exact nxt kr
  | .ok (.brk s'),kr => exact kr
  | .ok (.ret q),kr => exact kr
  | .exc n fs,kr => exact kr
theorem aHA {K : Rs (Fl L S) -> Nat -> Prop} {xs : List β} {s : S} {c : Nat} (f : β -> Q) (I : Nat -> S -> Nat -> Prop) (hl : xs.length <= 16777216) (p : I 0 s c) (h : ∀ (i : Nat) (x : β) (s : S) (c : Nat),xs[i]? = some x -> I i s c -> ∃ a,un (f x) = some a /\ (∀ K',(∀ r c',aG7 K (I (i + 1)) r c' -> K' r c') -> pb a s K' c)) (hk : ∀ s c,I xs.length s c -> K (.ok (.nx s)) c) : mL (L := L) un pb (xs.map f) s K c := by
 rw [yI (by simpa using hl)]
 exact aA3 f I p (fun i x s c ex p => by simpa using h i x s c ex (by simpa using p)) (fun s c p => hk s c (by simpa using p))
end
def Opr.q (o : Opr) : Q := .tup [.str o.kind, .tup (o.words.map .str)]
def bN (ops : List Opr) : Q := .tup (ops.map Opr.q)
mutual
def Tr.q : Tr -> Q
 | .leaf s => .str s
 | .grp t => .tup [.str "(",t.q]
 | .nd n ts => .tup (.int n :: Tr.qs ts)
def Tr.qs : List Tr -> List Q
 | [] => []
 | t :: ts => t.q :: Tr.qs ts
end
theorem aFd : ∀ ts : List Tr,Tr.qs ts = ts.map Tr.q
 | [] => rfl
 | t :: ts => by simp only [Tr.qs,List.map_cons,aFd ts]
def Ent.q (x : Ent) : Q := .tup [.int x.s, .int x.o, .str x.e]
section
variable {F : Nat -> Prop} {sa : Nat} {h : Hh}
theorem aGA {l : List Str} : Reps F sa h (l.map Q.str) (l.map D.str) := oB fun _ _ => ⟨rfl,fF⟩
theorem aH8 {o : Opr} : Rep F sa h o.q o.enc := kI (by simp only [Reps]; exact ⟨_,_,rfl,rfl,fF,_,_,rfl,rfl,kI aGA,rfl⟩)
theorem aH9 {ops : List Opr} : Rep F sa h (bN ops) (.tup (ops.map Opr.enc)) := kI (oB fun _ _ => ⟨rfl,aH8⟩)
mutual
theorem aBH : ∀ t : Tr,Rep F sa h t.q t.enc
 | .leaf s => by simp only [Tr.q,Tr.enc]; exact fF
 | .grp t => by
  simp only [Tr.q,Tr.enc]
  exact kI (by simp only [Reps]; exact ⟨_,_,rfl,rfl,fF,_,_,rfl,rD,aBH t,rfl⟩)
 | .nd n ts => by
  simp only [Tr.q,Tr.enc]
  exact kI (by simp only [Reps]; exact ⟨_,_,rfl,rfl,cZ,rep_trs ts⟩)
theorem rep_trs : ∀ ts : List Tr,Reps F sa h (Tr.qs ts) (Tr.encs ts)
 | [] => by simp only [Tr.qs,Tr.encs,Reps]
 | t :: ts => by simp only [Tr.qs,Tr.encs,Reps]; exact ⟨_,_,rfl,rD,aBH t,rep_trs ts⟩
end
theorem pN {x : Str} {w : D} (r : Rep F sa h (.str x) w) : w = .str x := bX r.vw
theorem wA {α : Type} {f : α -> Q} {g : α -> D} (hf : ∀ a w,Rep F sa h (f a) w -> w = g a) : ∀ {l : List α} {ws : List D},Reps F sa h (l.map f) ws -> ws = l.map g
 | [],ws,r => by simpa [Reps] using r
 | a :: l,ws,r => by
  simp only [List.map_cons,Reps] at r
  obtain ⟨w,r',rfl,_,h1,h2⟩ := r
  rw [hf a w h1,wA hf h2]; rfl
theorem aCs {o : Opr} {w : D} (r : Rep F sa h o.q w) : w = o.enc := by
 obtain ⟨ws,rfl,r'⟩ := cK r.vw
 simp only [Reps] at r'
 obtain ⟨w1,_,rfl,_,r1,w2,_,rfl,_,r2,rfl⟩ := r'
 obtain ⟨us,rfl,r3⟩ := cK r2.vw
 rw [pN r1,wA (fun _ _ r => pN r) r3]; rfl
theorem uZ {ops : List Opr} {w : D} (r : Rep F sa h (bN ops) w) : w = .tup (ops.map Opr.enc) := by
 obtain ⟨ws,rfl,r'⟩ := cK r.vw
 rw [wA (fun _ _ r => aCs r) r']
theorem Iv.ux {B : Bs} {F : Nat -> Prop} {h h' : Hh} {c c' : Nat} (iv : Iv B F h c) (u : Ux [B.sa] h h') (s : Sr h' B.sa c') : Iv B F h' c' /\ Ge B.sa F h F h' := by
 have hF : ∀ a,F a -> a < h.length /\ a ≠ B.sa := fun a f => ⟨iv.lt f,fun z => iv.ns (z ▸ f)⟩
 have hs : ∀ a,a < h.length -> a ≠ B.sa -> h'[a]? = h[a]? := fun a l z => u.same a l (by simpa using z)
 refine ⟨⟨s,iv.ns,fun a f => ?_,Nat.le_trans iv.len u.len,iv.sl,iv.up0,iv.dn0,fun a l z => ?_⟩,⟨⟨u.len,fun _ z => z,fun a f => hs a (hF a f).1 (hF a f).2⟩,fun _ _ z => z,hs⟩⟩
 ·obtain ⟨x,e,l⟩ := iv.fl a f
  exact ⟨x,by rw [hs a (hF a f).1 (hF a f).2]; exact e,aCP u.len l⟩
 ·rw [hs a (Nat.lt_of_lt_of_le l iv.len) z]; exact iv.same0 a l z
end
end PV
end
section
namespace PV
open PySem PySem.Spec PyProof.Rows L2
/-- right(source) -/
theorem aEZ {cl : List D -> Hh -> R D} {p : List Q -> Pm Q} (s : FnS false cl p) (hp : p [.src] (fun r _ => r = .ok (.bl true)) 0) {h : Hh} {i : Nat} (e : Sr h i 0) : ∃ h',Ux [i] h h' /\ cl [.ref i] h = .ok (.bl true) h' := by
 have iv : Iv ⟨h,fun _ => False,i⟩ (fun _ => False) h 0 := ⟨e,id,fun _ z => z.elim,Nat.le_refl _,e.lt,fun _ z => z,fun _ _ z => z,fun _ _ _ => rfl⟩
 have r : Reps (fun _ => False) i h [.src] [.ref i] := by simp only [Reps]; exact ⟨_,_,rfl,rfl,by simp only [Rep],rfl⟩
 have o := s.run iv r hp
 revert o
 generalize cl [.ref i] h = r0
 intro o
 cases o with
 | ok k i1 g r =>
  cases k
  have := cF (F := fun _ => False) (sa := i) (h := h) (i := true)
  simp only [Bool.false_eq_true,if_false,Rep] at r
  subst r
  exact ⟨_,⟨g.len,fun j hj hn => g.old j hj (by simpa using hn)⟩,rfl⟩
 | exc k i1 g r => cases k
end PV
end
section
namespace PV
open PySem PySem.Spec PyProof.Rows L2
theorem aAi {n : Nat} {l : List Str} : aK (bD (n + 1)) (l.map .str) = some (l.map .str) := lI (f := bD (n + 1)) (g := Q.str) (k := PyData.str) fun x _ => rfl
theorem aFw {n : Nat} {l : List Str} : bD (n + 2) (.tup (l.map .str)) = some (.tuple (l.map .str)) := by
 show (aK (bD (n + 1)) (l.map .str)).map PyData.tuple = _
 rw [aAi]; rfl
theorem vD {x : Str} : ∀ {l : List Str},(l.map PyData.str).any (fun z => PyData.eqv z (.str x)) = decide (x ∈ l)
 | [] => by simp
 | y :: l => by
  have e : PyData.eqv (.str y) (.str x) = decide (y = x) := by
   rw [Bool.eq_iff_iff]; simp [PyData.eqv]
  simp only [List.map_cons,List.any_cons,e,vD (l := l),List.mem_cons]
  rw [Bool.eq_iff_iff]
  simp only [Bool.or_eq_true,decide_eq_true_eq]
  constructor
  ·rintro (z | z)
   ·exact .inl z.symm
   ·exact .inr z
  ·rintro (z | z)
   ·exact .inl z.symm
   ·exact .inr z
theorem vA {l : List Str} (hs : ∀ s ∈ l,PyData.strOk s = true) : SeqAt.shaped (.tuple (l.map .str)) = true := by
 have h1 := iU (ds := l.map PyData.str) fun d hd => by
  obtain ⟨s,hs',rfl⟩ := List.mem_map.mp hd
  simp [PyData.canLay0,hs s hs']
 have h2 := kE (ds := l.map PyData.str) (n := 0) fun d hd => by
  obtain ⟨s,hs',rfl⟩ := List.mem_map.mp hd
  simp [PyData.depth]
 simp [SeqAt.shaped,PyData.canLay0,h1,PyData.depth]
 omega
theorem aE3 {x : Str} {ss : List Str} (hx : PyData.strOk x = true) (hs : ∀ s ∈ ss,PyData.strOk s = true) : lM (.str x) (.tup (ss.map .str)) = some (decide (x ∈ ss)) := by
 have e1 : bD bG (.str x) = some (.str x) := rfl
 have e2 : bD bG (.tup (ss.map .str)) = some (.tuple (ss.map .str)) := aFw
 simp only [lM,e1,e2,xV hx,vA hs,Bool.and_self,if_true,vD]
theorem rY {x : Str} {ss : List Str} (hx : PyData.strOk x = true) (hs : ∀ s ∈ ss,PyData.strOk s = true) : qIn (.str x) (.tup (ss.map .str)) = some (.bl (decide (x ∈ ss))) := by simp [qIn,aE3 hx hs]
@[simp] theorem aLi {α : Type} {a : α} {K : Rs α -> Nat -> Prop} {c : Nat} : Pm.ret a K c = K (.ok a) c := id rfl
theorem gB {α β : Type} {p : Pm α} {f : α -> Pm β} {K : Rs β -> Nat -> Prop} {c : Nat} : p.bind f K c = p (bK f K) c := rfl
@[simp] theorem eY {α β : Type} {f : α -> Pm β} {K : Rs β -> Nat -> Prop} {a : α} {c : Nat} : bK f K (.ok a) c = f a K c := id rfl
@[simp] theorem aNU {α β : Type} {f : α -> Pm β} {K : Rs β -> Nat -> Prop} {n : Nat} {fs : List (Str × Q)} {c : Nat} : bK f K (.exc n fs) c = K (.exc n fs) c := id rfl
section
variable {α β : Type} {un : Q -> Option α} {pt : α -> Pm Bool} {pe : α -> Pm Q}
theorem aBh (f : β -> Q) (I : List Q -> Nat -> Prop) {K : Rs (List Q) -> Nat -> Prop} {N : Nat} (hN : N <= 16777216) : ∀ {xs : List β} {acc : List Q} {c : Nat},acc.length + xs.length = N -> I acc c -> (∀ x ∈ xs,∀ acc c,acc.length < N -> I acc c -> ∃ a,un (f x) = some a /\ pt a = .ret true /\ ∀ K' : Rs Q -> Nat -> Prop,(∀ y c',I (acc ++ [y]) c' -> K' (.ok y) c') -> pe a K' c) -> (∀ acc' c',acc'.length = N -> I acc' c' -> K (.ok acc') c') -> mM un (lcB pt pe) (xs.map f) acc K c
 | [],acc,c,hl,p,_,hk => hk acc c (by simpa using hl) p
 | x :: xs,acc,c,hl,p,h,hk => by
  simp only [List.length_cons] at hl
  obtain ⟨a,e1,e2,e3⟩ := h x (by simp) acc c (by omega) p
  have hz : acc.length < sizeLine := szl (by omega)
  simp only [List.map_cons,mM,e1,aI,aG,lcB,e2,uQ,if_true,bL]
  show pe a (noK _) c
  refine e3 _ fun y c' p' => ?_
  show ((if acc.length < sizeLine then Pm.ret (acc ++ [y]) else Pm.bad).bind (mM un (lcB pt pe) (xs.map f))) K c'
  rw [if_pos hz]
  exact aBh (xs := xs) f I hN (by simp; omega) p' (fun z hz => h z (by simp [hz])) hk
theorem aJc {xs : List β} {K : Rs Q -> Nat -> Prop} {c : Nat} (f : β -> Q) (I : List Q -> Nat -> Prop) (hl : xs.length <= 16777216) (p : I [] c) (h : ∀ x ∈ xs,∀ acc c,acc.length < xs.length -> I acc c -> ∃ a,un (f x) = some a /\ pt a = .ret true /\ ∀ K' : Rs Q -> Nat -> Prop,(∀ y c',I (acc ++ [y]) c' -> K' (.ok y) c') -> pe a K' c) (hk : ∀ acc' c',acc'.length = xs.length -> I acc' c' -> K (.ok (.lst acc')) c') : lcP un pt pe (xs.map f) K c := by
 have hz : (xs.map f).length <= sizeLine := by rw [List.length_map]; exact sz hl
 simp only [lcP,hz,if_true]
 exact aBh f I hl (by simp) p h fun acc' c' l p' => hk acc' c' l p'
end
@[simp] theorem aK0 {t : Tr} : aV t.q (.ty "str") = some (.bl t.isLeaf) := by cases t <;> simp only [Tr.q] <;> rfl
@[simp] theorem aK1 {t : Tr} : aV t.q (.ty "tuple") = some (.bl (!t.isLeaf)) := by cases t <;> simp only [Tr.q] <;> rfl
@[simp] theorem Tr.q_isNon {t : Tr} : t.q.isNon = false := by cases t <;> simp only [Tr.q] <;> rfl
theorem aFc {ts : List Tr} : (Tr.qs ts).length = ts.length := by simp [aFd]
end PV
end
section
namespace PV
open PySem PySem.Spec PyProof.Rows L2
theorem aCN {a b : List Str} (h : a.map Q.str = b.map Q.str) : a = b := List.map_inj_right (f := Q.str) (fun a b h => by cases h; rfl) |>.mp h
theorem Opr.q_inj {a b : Opr} (h : a.q = b.q) : a = b := by
 obtain ⟨k,w⟩ := a
 obtain ⟨k',w'⟩ := b
 simp only [Opr.q,Q.tup.injEq,List.cons.injEq,Q.str.injEq,and_true] at h
 obtain ⟨rfl,h⟩ := h
 rw [aCN h]
theorem aGm {a b : List Opr} (h : bN a = bN b) : a = b := by
 simp only [bN,Q.tup.injEq] at h
 exact List.map_inj_right (f := Opr.q) (fun _ _ h => Opr.q_inj h) |>.mp h
theorem aG9 {n : Nat} {ts : List Tr} : (Tr.nd n ts).q = .tup (.int n :: Tr.qs ts) := by simp only [Tr.q]
theorem aED {t : Tr} : (Tr.grp t).q = .tup [.str "(",t.q] := by simp only [Tr.q]
theorem aGv {x : Q} {d : PyData} {n l : Nat} (e : bD bG x = some d) (p : PN n l d) (hn : n <= 64) (hl : l <= 16777216) : sM x = some (.str d.shown) := by
 have h1 : d.shown.length <= sizeLine := sz (Nat.le_trans p.ln hl)
 simp [sM,e,p.sh,h1,p.shaped hn]
end PV
end
section
namespace PV
open PySem PySem.Spec PyProof.Rows L2 PySem.Builtin PySem.Builtin.Str
def cs (d : PyData) : List Nat := d.shown.cps.toList
def Tm (s : List Nat) : Prop := s = [] \/ ∃ c r,s = c :: r /\ (c = 44 \/ c = 41 \/ c = 93)
def kd : PyData -> Nat
 | .none => 0
 | .bool true => 1
 | .bool false => 2
 | .str _ => 3
 | .tuple _ => 4
 | .list _ => 5
 | .int _ => 6
 | .dict _ => 7
theorem Tm.int {s : List Nat} (h : Tm s) : ∀ x r,s = x :: r -> ¬ (x = 45 \/ (48 <= x /\ x <= 57)) := fun x r e => by
 rcases h with rfl | ⟨c,r',rfl,hc⟩
 ·cases e
 ·cases e; omega
mutual
theorem Tr.py_inj : ∀ {a b : Tr},a.py = b.py -> a = b
 | .leaf s, .leaf s',h => by simp only [Tr.py,PyData.str.injEq] at h; rw [h]
 | .leaf s, .grp t,h => by simp [Tr.py] at h
 | .leaf s, .nd n ts,h => by simp [Tr.py] at h
 | .grp t, .leaf s,h => by simp [Tr.py] at h
 | .grp t, .grp t',h => by simp only [Tr.py,PyData.tuple.injEq,List.cons.injEq,and_true,true_and] at h; rw [Tr.py_inj h]
 | .grp t, .nd n ts,h => by simp [Tr.py] at h
 | .nd n ts, .leaf s,h => by simp [Tr.py] at h
 | .nd n ts, .grp t,h => by simp [Tr.py] at h
 | .nd n ts, .nd n' ts',h => by
  simp only [Tr.py,PyData.tuple.injEq,List.cons.injEq,PyData.int.injEq] at h
  rw [Tr.pys_inj h.2,Int.ofNat.inj h.1]
theorem Tr.pys_inj : ∀ {a b : List Tr},Tr.pys a = Tr.pys b -> a = b
 | [],[],_ => rfl
 | [],_ :: _,h => by simp [Tr.pys] at h
 | _ :: _,[],h => by simp [Tr.pys] at h
 | t :: ts,t' :: ts',h => by
  simp only [Tr.pys,List.cons.injEq] at h
  rw [Tr.py_inj h.1,Tr.pys_inj h.2]
end
end PV
end
section
namespace PV
open PySem PySem.Spec PyProof.Rows L2
end PV
end
section
namespace PV
open PySem PySem.Spec PyProof.Rows L2
section
variable {qs : List Q}
theorem aEs {n : Nat} : pC qs (some (n : Int)) none = qs.drop n := by
 simp only [pC,HT.sIx_none,HT.sIx_nat]
 rw [List.take_of_length_le (by rw [List.length_drop]; omega)]
 rcases Nat.lt_or_ge n qs.length with h | h
 ·rw [Nat.min_eq_left (by omega)]
 ·rw [Nat.min_eq_right h,List.drop_of_length_le (Nat.le_refl _),List.drop_of_length_le h]
theorem aFM {a b : Nat} (h : a <= b) : pC qs (some (a : Int)) (some (b : Int)) = (qs.drop a).take (b - a) := by
 simp only [pC,HT.sIx_nat]
 rcases Nat.lt_or_ge a qs.length with h1 | h1
 ·rw [Nat.min_eq_left (Nat.le_of_lt h1),List.take_eq_take_iff,List.length_drop]; omega
 ·rw [Nat.min_eq_right h1,List.drop_of_length_le (Nat.le_refl _),List.drop_of_length_le h1]
  simp
end
end PV
end
section
namespace PV
open PySem PySem.Spec PyProof.Rows L2
def RErr.le (N n : Nat) : RErr -> Prop
 | .missing p => p <= n
 | .unexp p => p <= n
 | .uncl p => p <= n
 | .entry p s o => p <= n /\ s <= N /\ o <= N
theorem RErr.le.mono {N n m : Nat} {e : RErr} (h : e.le N n) (hm : n <= m) : e.le N m := by
 cases e <;> simp only [RErr.le] at h ⊢ <;> omega
end PV
end
section
namespace PV
open PySem PySem.Spec PyProof.Rows L2
abbrev Pl := List Nat
mutual
/-- nodes,groups and identifiers -/
def Tr.size : Tr -> Nat
 | .leaf _ => 1
 | .grp t => t.size + 1
 | .nd _ ts => Tr.sizes ts + 1
def Tr.sizes : List Tr -> Nat
 | [] => 0
 | t :: ts => t.size + Tr.sizes ts
end
mutual
theorem zC {ops : List Opr} (O : OpsOk ops) {p : Str -> Prop} : ∀ {t : Tr},t.ok ops p -> t.size <= 1 + 5 * t.nds + t.grs
 | .leaf s,_ => by simp only [Tr.size]; omega
 | .grp t,h => by have := zC O (t := t) h; simp only [Tr.size,Tr.nds,Tr.grs]; omega
 | .nd n ts,h => by
  obtain ⟨⟨o,eo,hl⟩,hs⟩ := h
  have h4 := vM (O.ok o (List.mem_of_getElem? eo))
  have := sizes_le O hs
  simp only [Tr.size,Tr.nds,Tr.grs]; omega
theorem sizes_le {ops : List Opr} (O : OpsOk ops) {p : Str -> Prop} : ∀ {ts : List Tr},Tr.oks ops p ts -> Tr.sizes ts <= ts.length + 5 * Tr.ndss ts + Tr.grss ts
 | [],_ => by simp [Tr.sizes]
 | t :: ts,h => by have := zC O (t := t) h.1; have := sizes_le O h.2; simp only [Tr.sizes,Tr.ndss,Tr.grss,List.length_cons]; omega
end
def spP (ops : List Opr) (side : Bool) : Nat -> Tr -> List (Pl × Nat)
 | 0,_ => []
 | d + 1,t => match nxt ops side t with
  | some (c,t') => ([],t.num) :: (spP ops side d t').map fun q => (c :: q.1,q.2)
  | none => []
section
variable {ops : List Opr} {side : Bool} {f : Pl -> Bool}
theorem aGK {d : Nat} {t : Tr} (h : nxt ops side t = none) : spP ops side d t = [] := by
 cases d with
 | zero => rfl
 | succ d => simp only [spP,h]
/-- no group on the way to a place,itself included -/
def free : (Pl -> Bool) -> Pl -> Bool
 | f,[] => !f []
 | f,c :: q => !f [] && free (fun p => f (c :: p)) q
end
section
variable (ops : List Opr) (bS bR : Nat -> Nat -> Bool)
/-- the conflicts of one node: bS,bR tell which entries are not as they must be -/
def aHa (n : Nat) (ts : List Tr) : List (Pl × Pl) :=
 (match nxt ops false (.nd n ts) with
  | some (c,r) => ((spP ops true r.depth r).filter fun q => bS n q.2).map fun q => ([c],c :: q.1)
  | none => []) ++
 (match nxt ops true (.nd n ts) with
  | some (c,l) => ((spP ops false l.depth l).filter fun q => bR q.2 n).map fun q => ([c],c :: q.1)
  | none => [])
mutual
def cfl : Tr -> List (Pl × Pl)
 | .leaf _ => []
 | .grp t => (cfl t).map fun q => (0 :: q.1,0 :: q.2)
 | .nd n ts => aHa ops bS bR n ts ++ cfls ts 0
def cfls : List Tr -> Nat -> List (Pl × Pl)
 | [],_ => []
 | t :: ts,i => (cfl t).map (fun q => (i :: q.1,i :: q.2)) ++ cfls ts (i + 1)
end
end
end PV
end
section
namespace PV
open PySem PySem.Spec PyProof.Rows L2
def plN (p : Pl) : Q := .tup (p.map fun n : Nat => .int (n : Int))
end PV
end
section
namespace PV
open PySem PySem.Spec PyProof.Rows L2
mutual
def nbD : PyData -> Bool
 | .none => true
 | .bool _ => false
 | .int _ => true
 | .str _ => true
 | .tuple xs => nbDs xs
 | .list xs => nbDs xs
 | .dict _ => false
def nbDs : List PyData -> Bool
 | [] => true
 | x :: xs => nbD x && nbDs xs
end
mutual
theorem pY : ∀ {d e : PyData},nbD d = true -> nbD e = true -> (PyData.eqv d e = true ↔ d = e)
 | .none,e,hd,he => by cases e <;> simp_all [PyData.eqv,nbD]
 | .int i,e,hd,he => by cases e <;> simp_all [PyData.eqv,nbD]
 | .str i,e,hd,he => by cases e <;> simp_all [PyData.eqv,nbD]
 | .tuple xs, .tuple ys,hd,he => by
  simp only [nbD] at hd he
  simp only [PyData.eqv,PyData.tuple.injEq]
  exact eqvs_iff hd he
 | .list xs, .list ys,hd,he => by
  simp only [nbD] at hd he
  simp only [PyData.eqv,PyData.list.injEq]
  exact eqvs_iff hd he
 | .tuple xs, .none,hd,he => by simp [PyData.eqv]
 | .tuple xs, .int _,hd,he => by simp [PyData.eqv]
 | .tuple xs, .str _,hd,he => by simp [PyData.eqv]
 | .tuple xs, .list _,hd,he => by simp [PyData.eqv]
 | .list xs, .none,hd,he => by simp [PyData.eqv]
 | .list xs, .int _,hd,he => by simp [PyData.eqv]
 | .list xs, .str _,hd,he => by simp [PyData.eqv]
 | .list xs, .tuple _,hd,he => by simp [PyData.eqv]
 | .bool _,_,hd,_ => by simp [nbD] at hd
 | .dict _,_,hd,_ => by simp [nbD] at hd
 | .tuple _, .bool _,_,he => by simp [nbD] at he
 | .tuple _, .dict _,_,he => by simp [nbD] at he
 | .list _, .bool _,_,he => by simp [nbD] at he
 | .list _, .dict _,_,he => by simp [nbD] at he
theorem eqvs_iff : ∀ {ds es : List PyData},nbDs ds = true -> nbDs es = true -> (PyData.eqvAll ds es = true ↔ ds = es)
 | [],[],_,_ => by simp [PyData.eqvAll]
 | [],_ :: _,_,_ => by simp [PyData.eqvAll]
 | _ :: _,[],_,_ => by simp [PyData.eqvAll]
 | d :: ds,e :: es,hd,he => by
  simp only [nbDs,Bool.and_eq_true] at hd he
  simp only [PyData.eqvAll,Bool.and_eq_true,List.cons.injEq,pY hd.1 he.1,eqvs_iff hd.2 he.2]
end
theorem aH3 {x y : Q} {d e : PyData} (hx : bD bG x = some d) (hy : bD bG y = some e) (sd : SeqAt.shaped d = true) (se : SeqAt.shaped e = true) (nd : nbD d = true) (ne : nbD e = true) (P : Prop) [Decidable P] (hP : d = e ↔ P) : rX x y = some (decide P) := by
 have h := pY nd ne
 have hb : PyData.eqv d e = decide P := by
  rw [Bool.eq_iff_iff,decide_eq_true_eq,h,hP]
 unfold rX
 split
 ·rename_i a b
  have e1 : some (PyData.str a) = some d := hx
  have e2 : some (PyData.str b) = some e := hy
  cases e1; cases e2
  have : decide (a = b) = decide P := by
   rw [Bool.eq_iff_iff,decide_eq_true_eq,decide_eq_true_eq,<- hP]
   exact ⟨fun z => by rw [z],fun z => by cases z; rfl⟩
  rw [this]
 ·rw [hx,hy]
  simp only [sd,se,Bool.and_self,if_true,hb]
def nY (p : Pl) : PyData := .tuple (p.map fun n : Nat => .int (n : Int))
theorem aGp {p q : Pl} : nY p = nY q ↔ p = q := by
 simp only [nY,PyData.tuple.injEq]
 exact List.map_inj_right (f := fun n : Nat => PyData.int (n : Int)) (fun a b h => by simp only [PyData.int.injEq] at h; omega)
theorem aDd {p : Pl} : bD (n + 2) (plN p) = some (nY p) := by
 show (aK (bD (n + 1)) (p.map fun n : Nat => Q.int (n : Int))).map PyData.tuple = _
 rw [lI (xs := p) (f := bD (n + 1)) (g := fun n : Nat => Q.int (n : Int)) (k := fun n : Nat => PyData.int (n : Int)) fun x _ => rfl]
 rfl
theorem aHd {p : Pl} : nbD (nY p) = true := by
 simp only [nY,nbD]
 induction p with
 | nil => rfl
 | cons c p ih => simp only [List.map_cons,nbDs,nbD,ih,Bool.and_self]
theorem aEY {p : Pl} : (nY p).canLay0 = true /\ (nY p).depth <= 1 := by
 have h1 := iU (ds := p.map fun n : Nat => PyData.int (n : Int)) fun d hd => by
  obtain ⟨s,hs',rfl⟩ := List.mem_map.mp hd
  simp [PyData.canLay0]
 have h2 := kE (ds := p.map fun n : Nat => PyData.int (n : Int)) (n := 0) fun d hd => by
  obtain ⟨s,hs',rfl⟩ := List.mem_map.mp hd
  simp [PyData.depth]
 refine ⟨by simp only [nY,PyData.canLay0,h1],by simp only [nY,PyData.depth]; omega⟩
theorem aAd {p : Pl} : SeqAt.shaped (nY p) = true := by
 have := aEY (p := p)
 simp [SeqAt.shaped,this.1]; omega
theorem aC1 {p q : Pl} : rX (plN p) (plN q) = some (decide (p = q)) := aH3 aDd aDd aAd aAd aHd aHd _ aGp
@[simp] theorem aOj {p q : Pl} : qEq (plN p) (plN q) = some (.bl (decide (p = q))) := by simp [qEq,aC1]
@[simp] theorem aOt {p q : Pl} : qNe (plN p) (plN q) = some (.bl (!decide (p = q))) := by simp [qNe,aC1]
mutual
theorem aAI : ∀ {t : Tr},nbD t.py = true
 | .leaf s => by simp only [Tr.py,nbD]
 | .grp t => by simp only [Tr.py,nbD,nbDs,aAI (t := t),Bool.and_self]
 | .nd n ts => by simp only [Tr.py,nbD,nbDs,trs_nb (ts := ts),Bool.and_self]
theorem trs_nb : ∀ {ts : List Tr},nbDs (Tr.pys ts) = true
 | [] => rfl
 | t :: ts => by simp only [Tr.pys,nbDs,aAI (t := t),trs_nb (ts := ts),Bool.and_self]
end
theorem Tr.py_iff {a b : Tr} : a.py = b.py ↔ a = b := ⟨Tr.py_inj,fun h => by rw [h]⟩
instance : DecidableEq Tr := fun a b => decidable_of_iff (PyData.eqv a.py b.py = true) ((pY aAI aAI).trans Tr.py_iff)
@[simp] theorem aOi {a b : Bool} : qEq (.bl a) (.bl b) = some (.bl (decide (a = b))) := by cases a <;> cases b <;> rfl
@[simp] theorem aOs {a b : Bool} : qNe (.bl a) (.bl b) = some (.bl (!decide (a = b))) := by cases a <;> cases b <;> rfl
end PV
end
section
namespace PV
open PySem PySem.Spec PyProof.Rows L2
end PV
end
section
namespace PV
open PySem PySem.Spec PyProof.Rows L2
end PV
end
section
namespace PV
open PySem PySem.Spec PyProof.Rows L2
mutual
/-- no list,dict,instance in it -/
def uS : Q -> Bool
 | .non => true
 | .bl _ => true
 | .int _ => true
 | .str _ => true
 | .tup qs => pureQs qs
 | _ => false
def pureQs : List Q -> Bool
 | [] => true
 | q :: qs => uS q && pureQs qs
end
/-- no exception,and a pure result -/
def xL (p : Pm Q) : Pm Q := p.noX.bind fun q => if uS q = true then .ret q else .bad
section
variable {B : Bs} {F : Nat -> Prop} {O : Nat -> Option Nat} {h : Hh} {Γ : List Sl} {σ : Sg} {q : Q} {i a : Nat} {c : Nat}
theorem En.frz (en : En B F O h Γ σ) (e : Γ[i]? = some (.ow q)) (o1 : O i = some a) (o2 : σ[i]? = some (some (.ref a))) (t : Top F B.sa h a q) : En B (Fx F a) (fun j => if j = i then none else O j) h (Γ.set i (.fz q)) σ := by
 refine ⟨by simp [en.len],fun j q' ej => ?_,fun j q' ej => ?_,fun j b ej => ?_,fun j j' b e1 e2 => ?_,fun j w' ej => by
  by_cases hj : i = j
  ·subst hj; rw [List.getElem?_set_self (aF e)] at ej; cases ej
  ·rw [List.getElem?_set_ne hj] at ej; exact en.eqd j w' ej⟩
 ·by_cases hj : i = j
  ·subst hj
   rw [List.getElem?_set_self (aF e)] at ej; cases ej
   exact ⟨_,o2,rfl,(t.mono nR rfl).rep (.inr rfl)⟩
  ·rw [List.getElem?_set_ne hj] at ej
   obtain ⟨w,e1,e2,r⟩ := en.fz j q' ej
   exact ⟨w,e1,e2,r.mono nR⟩
 ·by_cases hj : i = j
  ·subst hj
   rw [List.getElem?_set_self (aF e)] at ej; cases ej
  ·rw [List.getElem?_set_ne hj] at ej
   obtain ⟨b,e1,e2,r⟩ := en.ow j q' ej
   have : j ≠ i := fun z => hj z.symm
   exact ⟨b,by simp only [this,if_false]; exact e1,e2,r.mono nR rfl⟩
 ·split at ej
  ·cases ej
  ·rename_i hj
   obtain ⟨z1,z2,z3⟩ := en.oh j b ej
   refine ⟨z1,fun z => ?_,z3⟩
   rcases z with z | rfl
   ·exact z2 z
   ·exact hj (en.inj j i b ej o1)
 ·split at e1
  ·cases e1
  ·split at e2
   ·cases e2
   ·exact en.inj j j' b e1 e2
end
variable {Γ : List Sl} {m : M D} {p : Pm Q} {q : Q}
@[simp] theorem tQ (hq : uS q = true) : xL (.ret q) = .ret q := by
 simp only [xL,uQ,aG,hq,if_true]
mutual
theorem yT : ∀ {t : Tr},uS t.q = true
 | .leaf s => rfl
 | .grp t => by
  have := yT (t := t)
  simp only [Tr.q,uS,pureQs,this,Bool.and_self]
 | .nd n ts => by
  have := pure_trs (ts := ts)
  simp only [Tr.q,uS,pureQs,this,Bool.and_self]
theorem pure_trs : ∀ {ts : List Tr},pureQs (Tr.qs ts) = true
 | [] => rfl
 | t :: ts => by
  have h1 := yT (t := t)
  have h2 := pure_trs (ts := ts)
  simp only [Tr.qs,pureQs,h1,h2,Bool.and_self]
end
@[simp] theorem aMQ {t : Tr} : xL (.ret t.q) = .ret t.q := tQ yT
@[simp] theorem aMP {b : Bool} : xL (.ret (.bl b)) = .ret (.bl b) := tQ (id rfl)
@[simp] theorem aL5 {b : Str} : xL (.ret (.str b)) = .ret (.str b) := tQ (id rfl)
end PV
end
section
namespace PV
open PySem PySem.Spec PyProof.Rows L2
end PV
end
section
namespace PV
open PySem PySem.Spec PyProof.Rows L2
end PV
end
section
namespace PV
open PySem PySem.Spec PyProof.Rows L2
def aBz : Q -> Q -> Option Q
 | .tup qs, .tup [] => some (.bl qs.isEmpty)
 | _,_ => none
theorem aLt : iJ eqX aBz := by
 intro F sa h x y u v q rx ry e
 unfold aBz at e
 split at e
 ·cases e
  obtain ⟨ws,rfl,r1⟩ := cK rx
  obtain ⟨ws',rfl,r2⟩ := cK ry
  simp only [Reps] at r2
  subst r2
  rename_i qs
  have : ws.isEmpty = qs.isEmpty := by
   cases qs with
   | nil => simp only [Reps] at r1; subst r1; rfl
   | cons q qs => simp only [Reps] at r1; obtain ⟨w,r,rfl,_⟩ := r1; rfl
  exact ⟨_,by simp only [eqX,asT,this],cF⟩
 ·cases e
@[simp] theorem aMS {qs : List Q} : aBz (.tup qs) (.tup []) = some (.bl qs.isEmpty) := id rfl
end PV
end
section
namespace PV
open PySem PySem.Spec PyProof.Rows L2
theorem aBl : ∀ {ds : List PyData},(∀ d ∈ ds,nbD d = true) -> nbDs ds = true
 | [],_ => rfl
 | d :: ds,h => by
  simp only [nbDs,Bool.and_eq_true]
  exact ⟨h d (by simp),aBl fun e he => h e (by simp [he])⟩
theorem aEU {o : Opr} : nbD o.py = true := by
 simp only [Opr.py,nbD,nbDs,Bool.true_and,Bool.and_true]
 exact aBl fun d hd => by
  obtain ⟨x,_,rfl⟩ := List.mem_map.mp hd
  rfl
theorem Opr.py_inj {a b : Opr} (h : a.py = b.py) : a = b := by
 obtain ⟨k1,w1⟩ := a
 obtain ⟨k2,w2⟩ := b
 simp only [Opr.py,PyData.tuple.injEq,List.cons.injEq,PyData.str.injEq,and_true] at h
 obtain ⟨rfl,h⟩ := h
 rw [List.map_inj_right (f := PyData.str) (fun a b h => by cases h; rfl)] at h
 rw [h]
instance : DecidableEq Opr := fun a b => decidable_of_iff (PyData.eqv a.py b.py = true) ((pY aEU aEU).trans ⟨Opr.py_inj,fun h => by rw [h]⟩)
def Ent.py (x : Ent) : PyData := .tuple [.int x.s, .int x.o, .str x.e]
theorem Ent.py_inj {a b : Ent} (h : a.py = b.py) : a = b := by
 obtain ⟨s1,o1,e1⟩ := a
 obtain ⟨s2,o2,e2⟩ := b
 simp only [Ent.py,PyData.tuple.injEq,List.cons.injEq,PyData.int.injEq,PyData.str.injEq,and_true] at h
 obtain ⟨h1,h2,h3⟩ := h
 rw [h1,h2,h3]
instance : DecidableEq Ent := fun a b => decidable_of_iff (PyData.eqv a.py b.py = true) ((pY rfl rfl).trans ⟨Ent.py_inj,fun h => by rw [h]⟩)
/-- places that are not long -/
def SmP (b : Nat) (p : Pl) : Prop := p.length <= b /\ ∀ c ∈ p,c < 1000000
end PV
end
section
namespace PV
open PySem PySem.Spec PyProof.Rows L2
def Lt4 (p : Pl) : Prop := ∀ c ∈ p,c < 4
theorem Lt4.sm {p : Pl} {b : Nat} (h : Lt4 p) (hl : p.length <= b) : SmP b p := ⟨hl,fun c hc => by have := h c hc; omega⟩
end PV
end
section
namespace PV
open PySem PySem.Spec PyProof.Rows L2
end PV
end
section
namespace PV
open PySem PySem.Spec PyProof.Rows L2
end PV
end
section
namespace PV
open PySem PySem.Spec PyProof.Rows L2
end PV
end
section
namespace PV
open PySem PySem.Spec PyProof.Rows L2
end PV
end
section
namespace PV
open PySem PySem.Spec PyProof.Rows L2
mutual
/-- nodes right below a node (b: the tree itself is so) -/
def Tr.fr : Bool -> Tr -> Nat
 | _, .leaf _ => 0
 | _, .grp t => Tr.fr false t
 | b, .nd _ ts => (if b = true then 1 else 0) + Tr.frs ts
def Tr.frs : List Tr -> Nat
 | [] => 0
 | t :: ts => Tr.fr true t + Tr.frs ts
end
end PV
end
section
namespace PV
open PySem PySem.Spec PyProof.Rows L2
end PV
end
section
namespace PV
open PySem PySem.Spec PyProof.Rows L2
end PV
end
section
namespace PV
open PySem PySem.Spec PyProof.Rows L2
end PV
end
section
namespace PV
open PySem PySem.Spec PyProof.Rows L2
end PV
end
section
namespace PV
open PySem PySem.Spec PyProof.Rows L2
end PV
end
section
namespace PV
open PySem PySem.Spec PyProof.Rows L2
end PV
end
section
namespace PV
open PySem PySem.Spec PyProof.Rows L2
end PV
end
section
namespace PV
open PySem PySem.Spec PyProof.Rows L2
end PV
end
section
namespace PV
open PySem PySem.Spec PyProof.Rows L2
theorem aF4 {w : Str} {x : List Str} : oL [w] [x] = w :: x := by simp [oL]
end PV
end
section
namespace PV
open PySem PySem.Spec PyProof.Rows L2
end PV
end
section
namespace PV
open PySem PySem.Spec PyProof.Rows L2
end PV
end
section
namespace PV
open PySem PySem.Spec PyProof.Rows L2
def gV : List Opr := [⟨"infix",["+"]⟩,⟨"prefix",["-"]⟩,⟨"closed",["[","]"]⟩,⟨"infix",["?",":"]⟩]
theorem aLc : ∃ o,gV[1]? = some o /\ o.L = false /\ o.Rr = true /\ o.words = (["-"] : List Str) := ⟨_,rfl,by decide +kernel,by decide +kernel,rfl⟩
/-- a tree of n tokens,closed at both ends,without conflicts -/
structure Szd (t : Tr) (n d : Nat) : Prop where
 ok : t.ok gV (fun s => s ∈ dW)
 len : (t.toks gV).length = n
 dep : t.depth <= 2 * d + 1
 nds : t.nds <= n
 grs : t.grs <= n
 lf : nxt gV true t = none
 rt : nxt gV false t = none
 cf : ∀ bS bR,cfl gV bS bR t = []
 pl : 5 <= n -> ("+" : Str) ∈ t.toks gV /\ ∃ u,t = .grp u
/-- a prefix operator ahead of it -/
structure Szd' (t : Tr) (n d : Nat) : Prop where
 ok : t.ok gV (fun s => s ∈ dW)
 len : (t.toks gV).length = n
 dep : t.depth <= 2 * d + 2
 nds : t.nds <= n
 grs : t.grs <= n
 cf : ∀ bS bR,cfl gV bS bR t = []
 pl : ("+" : Str) ∈ t.toks gV
 ed : ∃ xs,t.toks gV = xs ++ [(")" : Str)]
theorem Szd.up {t : Tr} {n d : Nat} (S : Szd t n d) (h : 5 <= n) : Szd' t n d := by
 obtain ⟨p,u,rfl⟩ := S.pl h
 have := S.dep
 exact ⟨S.ok,S.len,by omega,S.nds,S.grs,S.cf,p,("(" : Str) :: u.toks gV,by simp [Tr.toks]⟩
theorem Szd.pre {t : Tr} {n d : Nat} (S : Szd t n d) (h : 5 <= n) : Szd' (.nd 1 [t]) (n + 1) d := by
 obtain ⟨o,e1,e2,e3,e4⟩ := aLc
 have U := S.up h
 obtain ⟨xs,ex⟩ := U.ed
 have tk : (Tr.nd 1 [t]).toks gV = ("-" : Str) :: t.toks gV := by
  simp [Tr.toks,Tr.toksL,e1,aDL,e2,e4,aF4]
 have h1 := S.ok
 have h2 := S.len
 have h3 := S.dep
 have h4 := S.nds
 have h5 := S.grs
 have s2 := fun d => aGK (d := d) S.lf
 refine ⟨?_,by rw [tk]; simp [h2],by simp only [Tr.depth,Tr.depths]; omega,by simp only [Tr.nds,Tr.ndss]; omega,by simp only [Tr.grs,Tr.grss]; omega,fun bS bR => ?_,by rw [tk]; simp [U.pl],("-" : Str) :: xs,by rw [tk,ex]; rfl⟩
 ·simp [Tr.ok,Tr.oks,e1,Opr.holes,e2,e3,e4,h1]
 ·simp [cfl,cfls,aHa,nxt,e1,e2,e3,S.cf,s2]
end PV
end
section
namespace PV
open PySem PySem.Spec PyProof.Rows L2
end PV
end
section
namespace PV
open PySem PySem.Spec PyProof.Rows L2
end PV
end
section
namespace PV
open PySem PySem.Spec PyProof.Rows L2
def jY : Nat -> Q -> Bool
 | 0,_ => false
 | n + 1,q => match q with
  | .tup qs => qs.any (jY n)
  | .dK _ => true
  | _ => false
def oD : Nat -> Q -> Option PyData
 | 0,_ => none
 | n + 1,q => match q with
  | .non => some .none
  | .bl b => some (.bool b)
  | .int i => some (.int i)
  | .str x => some (.str x)
  | .tup ws => (aK (oD n) ws).map .tuple
  | .dK [] => some (.dict [])
  | _ => none
def hU (x : Q) : Option Q := if jY bG x = true then (match oD bG x with
 | some d => if d.showable = true /\ d.shown.length <= sizeLine /\ d.depth <= 64 then some (.str d.shown) else none
 | none => none) else sM x
section
variable {F : Nat -> Prop} {sa : Nat} {h : Hh}
theorem aAL {n : Nat} (ih : ∀ {q : Q} {w : D},jY n q = true -> Rep F sa h q w -> toP h n w = none) : ∀ {qs : List Q} {ws : List D},qs.any (jY n) = true -> Reps F sa h qs ws -> aK (toP h n) ws = none
 | [],ws,e,r => by simp at e
 | q :: qs,ws,e,r => by
  simp only [Reps] at r
  obtain ⟨w,r',rfl,_,r1,r2⟩ := r
  simp only [List.any_cons,Bool.or_eq_true] at e
  rcases e with e | e
  ·simp only [aK,ih e r1]
  ·cases hw : toP h n w with
   | none => simp only [aK,hw]
   | some d => simp only [aK,hw,aAL ih e r2]
theorem aBa : ∀ {n : Nat} {q : Q} {w : D},jY n q = true -> Vw F sa h q w -> toP h n w = none
 | 0,q,w,e,r => by simp [jY] at e
 | n + 1,q,w,e,r => by
  unfold jY at e
  split at e
  ·obtain ⟨ws,rfl,r1⟩ := cK r
   unfold toP
   simp only [aAL (fun a b => aBa a b.vw) e r1,Option.map_none]
  ·obtain ⟨a,ws,rfl,e0,r1⟩ := r
   unfold toP
   simp only [e0]
  ·cases e
theorem aB6 : ∀ {n : Nat} {q : Q} {w : D} {d : PyData},oD n q = some d -> Vw F sa h q w -> toQ h n w = some d
 | 0,q,w,d,e,r => by simp [oD] at e
 | n + 1,q,w,d,e,r => by
  unfold oD at e
  split at e
  ·cases e; cases uD r; rfl
  ·cases e; cases iI r; rfl
  ·cases e; cases bZ r; rfl
  ·cases e; cases bX r; rfl
  ·obtain ⟨ws,rfl,r1⟩ := cK r
   obtain ⟨ds,e1,rfl⟩ := Option.map_eq_some_iff.mp e
   unfold toQ
   simp only [dM (fun q w b r e => aB6 e r.vw) r1 e1,Option.map_some]
  ·cases e
   obtain ⟨a,ws,rfl,e0,r1⟩ := r
   have : ws = [] := by simpa only [aY,RepA] using r1
   subst this
   unfold toQ
   simp only [e0]
   rfl
  ·cases e
end
theorem qE : qS jB hU := by
 intro F sa h x u q rx e
 unfold hU at e
 split at e
 ·rename_i hd
  split at e
  ·rename_i d e1
   split at e
   ·rename_i hs
    cases e
    exact ⟨_,by simp only [jB,aBa hd rx,aB6 e1 rx,hs,and_self,if_true],fF⟩
   ·cases e
  ·cases e
 ·exact aIa F sa h x u q rx e
end PV
end
section
namespace PV
open PySem PySem.Spec PyProof.Rows L2
end PV
end
section
namespace PV
open PySem PySem.Spec PyProof.Rows L2
end PV
end
section
namespace PV
open PySem PySem.Spec PyProof.Rows L2
end PV
end
section
namespace PV
open PySem PySem.Spec PyProof.Rows L2
end PV
end
section
namespace PV
open PySem PySem.Spec PyProof.Rows L2
end PV
end
section
namespace PV
open PySem PySem.Spec PyProof.Rows L2
end PV
end
section
namespace PV
open PySem PySem.Spec PyProof.Rows L2
/-- as aA2,by the parts of the def -/
theorem cV {fr : Bool} {T : Tab} {PT : vB} {k f n np : Nat} {m : Cll -> MS} {pd : (Nat -> List Q -> Pm Q) -> Nat -> List Q -> Pm Q} (e : T f = some ⟨n,np,m⟩) (ep : PT f = some pd) (s : FnS fr (fun ws h => if ws.length = np then eV (m (aM T k) (aT n ws) h) else .bad) (pd (aO PT k) k)) : FnS fr (aM T (k + 1) f) (aO PT (k + 1) f) := aA2 e ep s
end PV
end
section
namespace PV
open PySem PySem.Spec PyProof.Rows L2
def aMX : Q -> Q -> Option Q
 | .dT kvs, .dK [] => some (.bl (!decide (kvs.length = 0)))
 | _,_ => none
@[simp] theorem aOr {kvs : List (List Key × Q)} : aMX (.dT kvs) (.dK []) = some (.bl (!decide (kvs.length = 0))) := id rfl
end PV
end
section
namespace LW
open PV PySem PySem.Spec PyProof.Rows L2
abbrev rK : Nat := 0
abbrev iV : Nat := 1
abbrev hY : Nat := 2
abbrev nF : Nat := 3
abbrev rL : Nat := 4
abbrev fZ : Nat := 5
abbrev cL : Nat := 6
abbrev bF : Nat := 7
abbrev kU : Nat := 8
abbrev aQ : Nat := 9
abbrev bH : Nat := 10
abbrev pJ : Nat := 11
abbrev gE : Nat := 12
abbrev dB : Nat := 13
abbrev gJ : Nat := 14
abbrev cP : Nat := 15
abbrev fI : Nat := 16
abbrev gA : Nat := 17
abbrev bY : Nat := 18
abbrev cC : Nat := 19
abbrev dZ : Nat := 20
abbrev aAB : Nat := 21
def fJ (cl : Cll) : MS :=
 (aN (dD (gR (iX (mB (mOp gP (mV 0) (mC (.ty "str"))))) (iX (mB (gG leW leW (mC (.int 1)) (mF1 bW (mV 0)) (mC (.int 8)))))) (bA (mC (.bl false))) cJ)
  (bA (mF1 jD (mLc (miE (mV 0)) (.nm 1) (fun _ h => .ok true h) (gG ltW leW (mC (.str " ")) (mV 1) (mC (.str "~"))) [1]))))
def iY (cl : Cll) : MS :=
 (bA (mOp inW (mOp ixW (mV 0) (mC (.int 0))) (bM (aA [(mC (.str "infix")),(mC (.str "postfix"))]))))
def hZ (cl : Cll) : MS :=
 (bA (mOp inW (mOp ixW (mV 0) (mC (.int 0))) (bM (aA [(mC (.str "infix")),(mC (.str "prefix"))]))))
def nG (cl : Cll) : MS :=
 (bA (mOp bP (mOp bP (mOp kD (mF1 bW (mOp ixW (mV 0) (mC (.int 1)))) (mC (.int 1))) (mF1 nS (aR cl iV (aA [(mV 0)])))) (mF1 nS (aR cl hY (aA [(mV 0)])))))
def fM (cl : Cll) : MS :=
 (bA (rP kK (miE (mV 0)) (.tu [(.nm 1),(.nm 2)]) (fun _ h => .ok true h) (miE (mV 2)) (.nm 3) (fun _ h => .ok true h) (mV 3) (mC (.bl true)) [1,2,3] [3]))
def iC (cl : Cll) : MS :=
 (bA (jP (mOp gP (mV 0) (mC (.ty "int"))) (jP (aAE (mOp gP (mV 0) (mC (.ty "bool")))) (mOp geW (mV 0) (mC (.int 0))))))
def dC (cl : Cll) : MS :=
 (aN (dD (gR (iX (mB (aR cl rK (aA [(mV 1)])))) (iX (mB (mF1 jD (mLc (miE (mV 1)) (.nm 2) (fun _ h => .ok true h) (mOp inW (mV 2) (mC (.str "abcdefghijklmnopqrstuvwxyz0123456789"))) [2]))))) (bA (mC (.bl false))) cJ)
  (bA (mOp niW (mV 1) (aR cl rL (aA [(mV 0)])))))
def kG (cl : Cll) : MS :=
 (aN (dD (mB (mOp gP (mV 1) (mC (.ty "str")))) (bA (aR cl cL (aA [(mV 0),(mV 1)]))) cJ)
  (aN (dD (gR (iX (mB (mOp gP (mV 1) (mC (.ty "tuple"))))) (mB (mOp ltW (mF1 bW (mV 1)) (mC (.int 2))))) (bA (mC (.bl false))) cJ)
  (aN (dD (mB (mOp gP (mOp ixW (mV 1) (mC (.int 0))) (mC (.ty "str")))) (bA (jP (mOp eqW (mOp ixW (mV 1) (mC (.int 0))) (mC (.str "("))) (jP (mOp eqW (mF1 bW (mV 1)) (mC (.int 2))) (aR cl bF (aA [(mV 0),(mOp ixW (mV 1) (mC (.int 1)))]))))) cJ)
  (aN (dD (gR (iX (mB (aR cl fZ (aA [(mOp ixW (mV 1) (mC (.int 0)))])))) (gR (mB (mOp geW (mOp ixW (mV 1) (mC (.int 0))) (mF1 bW (mV 0)))) (mB (mOp neW (mF1 bW (mV 1)) (mOp bP (mC (.int 1)) (aR cl nF (aA [(mOp ixW (mV 0) (mOp ixW (mV 1) (mC (.int 0))))]))))))) (bA (mC (.bl false))) cJ)
  (bA (mF1 jD (mLc (miE (mSl (mV 1) (some (mC (.int 1))) none)) (.nm 2) (fun _ h => .ok true h) (aR cl bF (aA [(mV 0),(mV 2)])) [2])))))))
def iN (cl : Cll) : MS :=
 (aN (bI (.nm 2) (mIf (mB (mOp ltW (mV 1) (mF1 bW (mV 0)))) (mOp ixW (mV 0) (mV 1)) (mC (.int 0))))
  (aN (bI (.nm 3) (mIf (mB (mOp geW (mF1 vC (mV 2)) (mOp rV (mC (.int 10)) (mC (.int 18))))) (mOp lJ (mF1 vC (mV 2)) (mOp rV (mOp rV (mC (.int 10)) (mC (.int 60))) (mC (.int 4)))) (mC (.int 0))))
  (bA (dJ (aA [(mV 3),(mOp lJ (mOp bP (mOp bP (mOp mN (mOp lJ (mV 2) (mC (.int 2305843009213693951))) (mC (.int 1000003))) (mOp mN (mOp mN (mC (.int 7919)) (mV 1)) (mV 1))) (mC (.int 97))) (mC (.int 2305843009213693921))),(mC (.int 0))])))))
def gS (cl : Cll) : MS :=
 (aN (dD (mB (mOp gtW (mOp ixW (mV 0) (mC (.int 0))) (mC (.int 0)))) (aN (bI (.nm 2) (mOp lJ (mOp ixW (mV 0) (mC (.int 0))) (mV 1)))
  (aN (lS (mOp uL (mOp ixW (mV 0) (mC (.int 0))) (mV 1)) (mV 0) (mC (.int 0)))
  (bA (mV 2)))) cJ)
  (aN (lS (mOp bP (mOp ixW (mV 0) (mC (.int 2))) (mC (.int 1))) (mV 0) (mC (.int 2)))
  (aN (bI (.nm 3) (mOp bP (mOp ixW (mV 0) (mC (.int 1))) (mOp mN (mC (.int 15485863)) (mOp ixW (mV 0) (mC (.int 2))))))
  (aN (bI (.nm 4) (mOp bP (mOp bP (mOp lJ (mOp ixW (mV 0) (mC (.int 1))) (mC (.int 7919))) (mOp mN (mC (.int 32452867)) (mOp ixW (mV 0) (mC (.int 2))))) (mC (.int 29))))
  (aN (bI (.nm 5) (mOp lJ (mOp mN (mV 3) (mV 4)) (mC (.int 2305843009213693951))))
  (aN (bI (.nm 6) (mOp bP (mOp bP (mOp lJ (mV 5) (mC (.int 1000003))) (mOp mN (mC (.int 6700417)) (mOp ixW (mV 0) (mC (.int 2))))) (mC (.int 5))))
  (bA (mOp lJ (mOp uL (mOp lJ (mOp mN (mOp bP (mV 5) (mC (.int 23))) (mV 6)) (mC (.int 2305843009213693907))) (mC (.int 64))) (mV 1)))))))))
def fL (cl : Cll) : MS :=
 (bA (mOp ixW (mV 1) (aR cl aQ (aA [(mV 0),(mF1 bW (mV 1))]))))
def jL (cl : Cll) : MS :=
 (bA (mF1 hV (mLc (iO (mV 1)) (.nm 3) (fun _ h => .ok true h) (mM1 (on1 "list" lZ) (mV 2) (aR cl aQ (aA [(mV 0),(mF1 bW (mV 2))]))) [3])))
def cW (cl : Cll) : MS :=
 (aN (bI (.nm 4) (aR cl bH (aA [(mV 0),(dJ (aA [(mC (.str "infix")),(mC (.str "infix")),(mC (.str "infix")),(mC (.str "prefix")),(mC (.str "prefix")),(mC (.str "postfix")),(mC (.str "closed"))]))])))
  (aN (bI (.nm 5) (mIf (mB (mOp eqW (mV 4) (mC (.str "closed")))) (aR cl bH (aA [(mV 0),(dJ (aA [(mC (.int 2)),(mC (.int 2)),(mC (.int 3))]))])) (aR cl bH (aA [(mV 0),(dJ (aA [(mC (.int 1)),(mC (.int 1)),(mC (.int 1)),(mC (.int 1)),(mC (.int 2)),(mC (.int 3))]))]))))
  (aN (bI (.tu [(.nm 6),(.nm 7)]) (bM (aA [(aR cl pJ (aA [(mV 0),(mV 5),(mV 1)])),(mIf (mB (mOp inW (mV 4) (bM (aA [(mC (.str "prefix")),(mC (.str "closed"))])))) (mV 3) (mV 2))])))
  (aN (dD (kW (mB (mOp neW (mV 7) (dJ (aA [])))) (mB (mOp eqW (aR cl aQ (aA [(mV 0),(mC (.int 4))])) (mC (.int 0))))) (bI (.nm 6) (mOp bP (bM (aA [(mM1 (on1 "list" lZ) (mV 7) (aR cl aQ (aA [(mV 0),(mF1 bW (mV 7))])))])) (mSl (mV 6) (some (mC (.int 1))) none))) (dD (mB (mOp inW (mV 4) (bM (aA [(mC (.str "prefix")),(mC (.str "closed"))])))) (iP (mM1 (on1 "list" hW) (mV 2) (mOp ixW (mV 6) (mC (.int 0))))) (iP (mM1 (on1 "list" hW) (mV 3) (mOp ixW (mV 6) (mC (.int 0)))))))
  (bA (bM (aA [(mV 4),(mV 6)])))))))
def fK (cl : Cll) : MS :=
 (aN (bI (.nm 2) (mOp bP (mF1 jO (mC (.str "!\u0023$&*+,-./:;<=>?\u0040[]^_{|}~"))) (dJ (aA [(mC (.str "if")),(mC (.str "then")),(mC (.str "else")),(mC (.str "and")),(mC (.str "or")),(mC (.str "not")),(mC (.str "is")),(mC (.str "z9"))]))))
  (aN (bI (.nm 2) (mOp bP (mV 2) (dJ (aA [(mC (.str "--")),(mC (.str "**")),(mC (.str "lengthy8")),(mC (.str "of")),(mC (.str "in")),(mC (.str "to")),(mC (.str "by")),(mC (.str "=>")),(mC (.str "((")),(mC (.str "f(")),(mC (.str ")x"))]))))
  (aN (bI (.tu [(.nm 3),(.nm 4)]) (bM (aA [(dJ (aA [])),(dJ (aA []))])))
  (bA (mF1 hV (mLc (iO (aR cl aQ (aA [(mV 0),(mOp bP (mV 1) (mC (.int 1)))]))) (.nm 5) (fun _ h => .ok true h) (aR cl gE (aA [(mV 0),(mV 2),(mV 3),(mV 4)])) [5]))))))
def gK (cl : Cll) : MS :=
 (bA (bM (aA [(mOp inW (mOp ixW (mV 0) (mC (.int 0))) (bM (aA [(mC (.str "infix")),(mC (.str "postfix"))]))),(mOp inW (mOp ixW (mV 0) (mC (.int 0))) (bM (aA [(mC (.str "infix")),(mC (.str "prefix"))])))])))
def eC (cl : Cll) : MS :=
 (bA (mOp bP (mOp kD (mF1 bW (mOp ixW (mV 0) (mC (.int 1)))) (mC (.int 1))) (mF1 tY (mLc (miE (aR cl gJ (aA [(mV 0)]))) (.nm 1) (fun _ h => .ok true h) (mF1 nS (mV 1)) [1]))))
def kX (cl : Cll) : MS :=
 (bA (aR cl gA (aA [(mV 0),(mV 1),(dJ (aA [(mV 2),(mV 3)])),(mC (.int 12))])))
def jN (cl : Cll) : MS :=
 (iP (mM1 (on1 "list" hW) (mV 5) (aR cl gA (aA [(mV 0),(mV 1),(mV 2),(mOp kD (mV 3) (mC (.int 1)))]))))
def iD (cl : Cll) : MS :=
 (aN (dD (kW (mB (mOp gtW (mOp ixW (mV 2) (mC (.int 1))) (mC (.int 0)))) (kW (mB (mOp gtW (mV 3) (mC (.int 0)))) (mB (mOp eqW (aR cl aQ (aA [(mV 0),(mC (.int 6))])) (mC (.int 0)))))) (aN (lS (mOp kD (mOp ixW (mV 2) (mC (.int 1))) (mC (.int 1))) (mV 2) (mC (.int 1)))
  (bA (bM (aA [(mC (.str "(")),(aR cl gA (aA [(mV 0),(mV 1),(mV 2),(mOp kD (mV 3) (mC (.int 1)))]))])))) cJ)
  (aN (dD (gR (mB (mOp eqW (mV 1) (bM (aA [])))) (gR (mB (mOp leW (mOp ixW (mV 2) (mC (.int 0))) (mC (.int 0)))) (gR (mB (mOp eqW (mV 3) (mC (.int 0)))) (mB (mOp eqW (aR cl aQ (aA [(mV 0),(mC (.int 4))])) (mC (.int 0))))))) (bA (aR cl bH (aA [(mV 0),(dJ (aA [(mC (.str "a")),(mC (.str "b")),(mC (.str "x1")),(mC (.str "7")),(mC (.str "abcdefgh"))]))]))) cJ)
  (aN (lS (mOp kD (mOp ixW (mV 2) (mC (.int 0))) (mC (.int 1))) (mV 2) (mC (.int 0)))
  (aN (bI (.tu [(.nm 4),(.nm 5)]) (bM (aA [(aR cl aQ (aA [(mV 0),(mF1 bW (mV 1))])),(dJ (aA []))])))
  (aN (kY (iO (aR cl cP (aA [(mOp ixW (mV 1) (mV 4))]))) (.nm 6) (jN cl))
  (bA (mOp bP (bM (aA [(mV 4)])) (mF1 hV (mV 5)))))))))
def aCa (cl : Cll) : MS :=
 (iP (mM1 (on1 "list" lG) (mV 2) (mF1 jO (mV 4))))
def kH (cl : Cll) : MS :=
 (aN (dD (mB (mOp gP (mV 1) (mC (.ty "str")))) (aN (bI (.nm 2) (dJ (aA [])))
  (aN (kY (miE (mV 0)) (.tu [(.nm 3),(.nm 4)]) (aCa cl))
  (aN (bI (.nm 5) (mC (.str "abcdefghijklmnopqrstuvwxyz0123456789")))
  (bA (jP (gG ltW ltW (mC (.int 0)) (mF1 bW (mV 1)) (mC (.int 9))) (jP (mF1 jD (mLc (miE (mV 1)) (.nm 6) (fun _ h => .ok true h) (mOp inW (mV 6) (mV 5)) [6])) (mOp niW (mV 1) (mV 2)))))))) cJ)
  (aN (dD (gR (iX (mB (mOp gP (mV 1) (mC (.ty "tuple"))))) (mB (mOp eqX (mV 1) (bM (aA []))))) (bA (mC (.bl false))) cJ)
  (aN (dD (mB (mOp gP (mOp ixW (mV 1) (mC (.int 0))) (mC (.ty "str")))) (bA (jP (mOp eqW (mOp ixW (mV 1) (mC (.int 0))) (mC (.str "("))) (jP (mOp eqW (mF1 bW (mV 1)) (mC (.int 2))) (aR cl bY (aA [(mV 0),(mOp ixW (mV 1) (mC (.int 1)))]))))) cJ)
  (aN (dD (gR (iX (mB (mOp gP (mOp ixW (mV 1) (mC (.int 0))) (mC (.ty "int"))))) (gR (mB (mOp gP (mOp ixW (mV 1) (mC (.int 0))) (mC (.ty "bool")))) (iX (mB (gG leW ltW (mC (.int 0)) (mOp ixW (mV 1) (mC (.int 0))) (mF1 bW (mV 0))))))) (bA (mC (.bl false))) cJ)
  (aN (dD (mB (mOp neW (mF1 bW (mV 1)) (mOp bP (mC (.int 1)) (aR cl cP (aA [(mOp ixW (mV 0) (mOp ixW (mV 1) (mC (.int 0))))]))))) (bA (mC (.bl false))) cJ)
  (bA (mF1 jD (mLc (miE (mSl (mV 1) (some (mC (.int 1))) none)) (.nm 7) (fun _ h => .ok true h) (aR cl bY (aA [(mV 0),(mV 7)])) [7]))))))))
def fE (cl : Cll) : MS :=
 (aN (bI (.nm 4) (mOp bP (dJ (aA [(mC (.str "")),(mC (.str "ninechars")),(mC (.str "a b")),(mC (.str "A")),(mC (.str "(")),(mC (.str ")")),(mC (.str "a(")),(mC (.str "0")),(mC (.str "x"))])) (mLc (miE (mV 1)) (.nm 5) (fun _ h => .ok true h) (mOp ixW (mOp ixW (mV 5) (mC (.int 1))) (mC (.int 0))) [5])))
  (aN (bI (.nm 6) (mOp bP (mV 4) (dJ (aA [(mC .non),(mC (.bl true)),(mC (.int 0)),(mF1 yQ (mC (.int 1))),(mF1 bW (mV 1)),(bM (aA [])),(dJ (aA [])),(mD0 (.dK [])),(bM (aA [(mC (.str "("))])),(bM (aA [(mC (.str "(")),(mC (.str "a")),(mC (.str "b"))])),(bM (aA [(mC (.str "(")),(mC (.str ""))]))]))))
  (aN (bI (.nm 6) (mOp bP (mV 6) (dJ (aA [(bM (aA [(mC (.int 0))])),(bM (aA [(mC (.bl true)),(mC (.str "a")),(mC (.str "b"))])),(bM (aA [(mC (.bl true)),(mC (.str "a"))])),(bM (aA [(mC (.int 0)),(mC (.str "a")),(mC (.str "b"))]))]))))
  (aN (dD (kW (mB (mOp gP (mV 2) (mC (.ty "tuple")))) (kW (mB (mOp gtW (mV 3) (mC (.int 0)))) (mB (mOp gtW (aR cl aQ (aA [(mV 0),(mC (.int 5))])) (mC (.int 0)))))) (aN (bI (.tu [(.nm 7),(.nm 8)]) (bM (aA [(aR cl aQ (aA [(mV 0),(mF1 bW (mV 2))])),(aR cl aQ (aA [(mV 0),(mC (.int 8))]))])))
  (aN (dD (mB (mOp eqW (mV 8) (mC (.int 0)))) (bA (mOp bP (mSl (mV 2) none (some (mV 7))) (mSl (mV 2) (some (mOp bP (mV 7) (mC (.int 1)))) none))) cJ)
  (aN (dD (mB (mOp eqW (mV 8) (mC (.int 1)))) (bA (mOp bP (mOp bP (mSl (mV 2) none (some (mV 7))) (mSl (mV 2) (some (mV 7)) (some (mOp bP (mV 7) (mC (.int 1)))))) (mSl (mV 2) (some (mV 7)) none))) cJ)
  (aN (dD (mB (mOp eqW (mV 8) (mC (.int 2)))) (bA (mF1 jO (mV 2))) cJ)
  (aN (bI (.nm 9) (aR cl cC (aA [(mV 0),(mV 1),(mOp ixW (mV 2) (mV 7)),(mOp kD (mV 3) (mC (.int 1)))])))
  (bA (mOp bP (mOp bP (mSl (mV 2) none (some (mV 7))) (bM (aA [(mV 9)]))) (mSl (mV 2) (some (mOp bP (mV 7) (mC (.int 1)))) none)))))))) cJ)
  (bA (aR cl bH (aA [(mV 0),(mV 6)])))))))
def aAl (cl : Cll) : MS :=
 (aN (bI (.nm 4) (aR cl fI (aA [(mV 0),(mV 1),(mC (.int 8)),(mC (.int 3))])))
  (aN (iP (mM1 (on1 "list" lG) (mV 2) (mOp bP (dJ (aA [(mV 4)])) (mLc (iO (mC (.int 15))) (.nm 5) (fun _ h => .ok true h) (aR cl cC (aA [(mV 0),(mV 1),(mV 4),(mC (.int 8))])) [5]))))
  (dD (mB (mOp xA (aR cl bF (aA [(mV 1),(mV 4)])) (mC (.bl true)))) (bA (mC (.bl false))) cJ)))
def aAm (cl : Cll) : MS :=
 (aN (bI (.tu [(.nm 7),(.nm 8)]) (bM (aA [(mF1 jB (mV 6)),(mF1 jB (aR cl bY (aA [(mV 1),(mV 6)])))])))
  (aN (dD (gR (mB (mOp neW (mF1 jB (aR cl bF (aA [(mV 1),(mV 6)]))) (mV 8))) (mB (mOp neW (mF1 jB (nV cl bF (aA [(mV 6),(mV 1)]) [1,0])) (mV 8)))) (bA (mC (.bl false))) cJ)
  (dD (mB (mOp neW (mF1 jB (mV 6)) (mV 7))) (bA (mC (.bl false))) cJ)))
def iE (cl : Cll) : MS :=
 (aN (bI (.nm 1) (aR cl dB (aA [(mV 0),(mC (.int 6))])))
  (aN (bI (.nm 2) (dJ (aA [(mC .non),(mC (.bl true)),(mC (.int 0)),(mC (.str "")),(mC (.str "a")),(mC (.str "(")),(bM (aA [])),(dJ (aA [])),(mD0 (.dK [])),(bM (aA [(mC (.str "a"))])),(bM (aA [(mC (.str "(")),(mC (.str "a"))])),(bM (aA [(bM (aA [(mC (.str "(")),(mC (.str "a"))]))])),(bM (aA [(mC (.str "(")),(bM (aA [(mC (.str "(")),(mC (.str "a"))]))])),(bM (aA [(mC (.str "a")),(mC (.str "b"))]))])))
  (aN (kY (iO (mC (.int 5))) (.nm 3) (aAl cl))
  (aN (kY (miE (mV 2)) (.nm 6) (aAm cl))
  (bA (mC (.bl true)))))))
def uO (cl : Cll) : MS :=
 (bA (mF1 jD (mLc (iO (mOp vT (mC (.int 1)) (mOp vU (mF1 bW (mV 0)) (mC (.int 3))))) (.nm 1) (fun _ h => .ok true h) (aR cl dZ (aA [(aR cl kU (aA [(mV 0),(mV 1)]))])) [1])))
def T : Tab := fun f => match f with
 | 0 => some ⟨2,1,fJ⟩
 | 1 => some ⟨1,1,iY⟩
 | 2 => some ⟨1,1,hZ⟩
 | 3 => some ⟨1,1,nG⟩
 | 4 => some ⟨4,1,fM⟩
 | 5 => some ⟨1,1,iC⟩
 | 6 => some ⟨3,2,dC⟩
 | 7 => some ⟨3,2,kG⟩
 | 8 => some ⟨4,2,iN⟩
 | 9 => some ⟨7,2,gS⟩
 | 10 => some ⟨2,2,fL⟩
 | 11 => some ⟨4,3,jL⟩
 | 12 => some ⟨8,4,cW⟩
 | 13 => some ⟨6,2,fK⟩
 | 14 => some ⟨1,1,gK⟩
 | 15 => some ⟨2,1,eC⟩
 | 16 => some ⟨4,4,kX⟩
 | 17 => some ⟨7,4,iD⟩
 | 18 => some ⟨8,2,kH⟩
 | 19 => some ⟨10,4,fE⟩
 | 20 => some ⟨9,1,iE⟩
 | 21 => some ⟨2,1,uO⟩
 | _ => none
def qM : List Str := ["value","character"]
def qL : List Str := ["operator"]
def oV : List Str := ["operator"]
def yE : List Str := ["operator"]
def qQ : List Str := ["operators","kind","words","word"]
def oW : List Str := ["value"]
def kN : List Str := ["operators","value","character"]
def sY : List Str := ["operators","value","part"]
def nM : List Str := ["_law_script","_law_k","_law_cell","_law_digits"]
def qN : List Str := ["_law_source_here","_law_size","_law_digit","_law_low","_law_high","_law_mixed","_law_last"]
def qO : List Str := ["_law_source_here","_law_some"]
def pA : List Str := ["_law_source_here","_law_many","_law_pool","_law_k"]
def lE : List Str := ["_law_source_here","_law_pool","_law_starts","_law_follows","_law_kind","_law_many","_law_words_here","_law_shared"]
def kO : List Str := ["_law_source_here","_law_most","_law_pool","_law_starts","_law_follows","_law_k"]
def tD : List Str := ["_law_operator_here"]
def oY : List Str := ["_law_operator_here","_law_one"]
def qP : List Str := ["_law_source_here","_law_ops","_law_most","_law_groups"]
def oX : List Str := ["_law_source_here","_law_ops","_law_left","_law_depth","_law_n","_law_parts","_law_k"]
def sZ : List Str := ["_law_ops","_law_thing","_law_words_here","_law_kind","_law_some","_law_letters","_law_letter","_law_part"]
def mG : List Str := ["_law_source_here","_law_ops","_law_tree_here","_law_depth","_law_words_here","_law_one","_law_odd","_law_at","_law_way","_law_part"]
def oZ : List Str := ["_law_source_here","_law_ops","_law_values","_law_turn","_law_tree_here","_law_again","_law_thing","_law_before","_law_due_here"]
def aAt : List Str := ["_law_script","_law_k"]
structure FS (P : Program) (w : World) (K : PySem.W.Frag) (mg : Str -> Option Value) (base : Heap) (g : Gx) (k : Nat) (cl : Cll) : Prop where
 fn_is_token : FnF P w K mg base g k cl rK "is_token" fS ["value"]
 fn_has_left : FnF P w K mg base g k cl iV "has_left" fR ["operator"]
 fn_has_right : FnF P w K mg base g k cl hY "has_right" eG ["operator"]
 fn_arity : FnF P w K mg base g k cl nF "arity" kL ["operator"]
 fn_words_of : FnF P w K mg base g k cl rL "words_of" fX ["operators"]
 fn_is_number : FnF P w K mg base g k cl fZ "is_number" eH ["value"]
 fn_is_identifier : FnF P w K mg base g k cl cL "is_identifier" cM ["operators","value"]
 fn_is_tree : FnF P w K mg base g k cl bF "is_tree" fT ["operators","value"]
 fn_law_source : FnF P w K mg base g k cl kU "_law_source" dO ["_law_script","_law_k"]
 fn_law_draw : FnF P w K mg base g k cl aQ "_law_draw" fU ["_law_source_here","_law_size"]
 fn_law_pick : FnF P w K mg base g k cl bH "_law_pick" fV ["_law_source_here","_law_some"]
 fn_law_words : FnF P w K mg base g k cl pJ "_law_words" eL ["_law_source_here","_law_many","_law_pool"]
 fn_law_operator : FnF P w K mg base g k cl gE "_law_operator" dA ["_law_source_here","_law_pool","_law_starts","_law_follows"]
 fn_law_operators : FnF P w K mg base g k cl dB "_law_operators" cN ["_law_source_here","_law_most"]
 fn_law_has : FnF P w K mg base g k cl gJ "_law_has" gN ["_law_operator_here"]
 fn_law_holes : FnF P w K mg base g k cl cP "_law_holes" eJ ["_law_operator_here"]
 fn_law_tree : FnF P w K mg base g k cl fI "_law_tree" fW ["_law_source_here","_law_ops","_law_most","_law_groups"]
 fn_law_grown : FnF P w K mg base g k cl gA "_law_grown" eI ["_law_source_here","_law_ops","_law_left","_law_depth"]
 fn_law_due : FnF P w K mg base g k cl bY "_law_due" gM ["_law_ops","_law_thing"]
 fn_law_changed : FnF P w K mg base g k cl cC "_law_changed" dG ["_law_source_here","_law_ops","_law_tree_here","_law_depth"]
 fn_law_right : FnF P w K mg base g k cl dZ "_law_right" eK ["_law_source_here"]
 fn_law : FnF P w K mg base g k cl aAB "law" oT ["_law_script"]
 cs_GROUP : ∃ t,mg "GROUP" = some (.str "(" t)
 cs_IDENTIFIER_CHARACTERS : ∃ t,mg "IDENTIFIER_CHARACTERS" = some (.str "abcdefghijklmnopqrstuvwxyz0123456789" t)
 cs_INFIX : ∃ t,mg "INFIX" = some (.str "infix" t)
 cs_MOST_CHARACTERS : ∃ t,mg "MOST_CHARACTERS" = some (.int 8 t)
 cs_POSTFIX : ∃ t,mg "POSTFIX" = some (.str "postfix" t)
 cs_PREFIX : ∃ t,mg "PREFIX" = some (.str "prefix" t)
 fr_abs : mg "abs" = none
 fr_all : mg "all" = none
 fr_bool : mg "bool" = none
 fr_int : mg "int" = none
 fr_isinstance : mg "isinstance" = none
 fr_len : mg "len" = none
 fr_list : mg "list" = none
 fr_max : mg "max" = none
 fr_min : mg "min" = none
 fr_range : mg "range" = none
 fr_repr : mg "repr" = none
 fr_str : mg "str" = none
 fr_sum : mg "sum" = none
 fr_tuple : mg "tuple" = none
theorem aCc : BdF "is_token" fS ["value"] := fun _ _ _ _ _ _ us hl => match us,hl with | [_],_ => rfl
theorem aCb : BdF "has_left" fR ["operator"] := fun _ _ _ _ _ _ us hl => match us,hl with | [_],_ => rfl
theorem aAM : BdF "has_right" eG ["operator"] := fun _ _ _ _ _ _ us hl => match us,hl with | [_],_ => rfl
theorem aFG : BdF "arity" kL ["operator"] := fun _ _ _ _ _ _ us hl => match us,hl with | [_],_ => rfl
theorem aCe : BdF "words_of" fX ["operators"] := fun _ _ _ _ _ _ us hl => match us,hl with | [_],_ => rfl
theorem aAN : BdF "is_number" eH ["value"] := fun _ _ _ _ _ _ us hl => match us,hl with | [_],_ => rfl
theorem vF : BdF "is_identifier" cM ["operators","value"] := fun _ _ _ _ _ _ us hl => match us,hl with | [_,_],_ => rfl
theorem mQ : BdF "is_tree" fT ["operators","value"] := fun _ _ _ _ _ _ us hl => match us,hl with | [_,_],_ => rfl
theorem aAn : BdF "_law_source" dO ["_law_script","_law_k"] := fun _ _ _ _ _ _ us hl => match us,hl with | [_,_],_ => rfl
theorem cO : BdF "_law_draw" fU ["_law_source_here","_law_size"] := fun _ _ _ _ _ _ us hl => match us,hl with | [_,_],_ => rfl
theorem jJ : BdF "_law_pick" fV ["_law_source_here","_law_some"] := fun _ _ _ _ _ _ us hl => match us,hl with | [_,_],_ => rfl
theorem aAP : BdF "_law_words" eL ["_law_source_here","_law_many","_law_pool"] := fun _ _ _ _ _ _ us hl => match us,hl with | [_,_,_],_ => rfl
theorem wN : BdF "_law_operator" dA ["_law_source_here","_law_pool","_law_starts","_law_follows"] := fun _ _ _ _ _ _ us hl => match us,hl with | [_,_,_,_],_ => rfl
theorem vG : BdF "_law_operators" cN ["_law_source_here","_law_most"] := fun _ _ _ _ _ _ us hl => match us,hl with | [_,_],_ => rfl
theorem aDi : BdF "_law_has" gN ["_law_operator_here"] := fun _ _ _ _ _ _ us hl => match us,hl with | [_],_ => rfl
theorem tG : BdF "_law_holes" eJ ["_law_operator_here"] := fun _ _ _ _ _ _ us hl => match us,hl with | [_],_ => rfl
theorem aCd : BdF "_law_tree" fW ["_law_source_here","_law_ops","_law_most","_law_groups"] := fun _ _ _ _ _ _ us hl => match us,hl with | [_,_,_,_],_ => rfl
theorem nP : BdF "_law_grown" eI ["_law_source_here","_law_ops","_law_left","_law_depth"] := fun _ _ _ _ _ _ us hl => match us,hl with | [_,_,_,_],_ => rfl
theorem qU : BdF "_law_due" gM ["_law_ops","_law_thing"] := fun _ _ _ _ _ _ us hl => match us,hl with | [_,_],_ => rfl
theorem pW : BdF "_law_changed" dG ["_law_source_here","_law_ops","_law_tree_here","_law_depth"] := fun _ _ _ _ _ _ us hl => match us,hl with | [_,_,_,_],_ => rfl
theorem aAO : BdF "_law_right" eK ["_law_source_here"] := fun _ _ _ _ _ _ us hl => match us,hl with | [_],_ => rfl
theorem aIJ : BdF "law" oT ["_law_script"] := fun _ _ _ _ _ _ us hl => match us,hl with | [_],_ => rfl
theorem aAo : BdK "is_tree" fT ["operators","value"] ["value","operators"] [1,0] := fun _ _ _ _ _ _ ws xs hl e => match ws,hl,e with | [_,_],_,e => by cases e; rfl
theorem aCu : FnScope qM ["value"] (defScope fS) := ⟨rfl,rfl,rfl,by decide +kernel,rfl,by decide +kernel,by decide +kernel⟩
theorem aCC {g : Gx} {k : Nat} {cl : Cll} (X : Cx) (Wx : WX) (G : Good FS g k cl qM (defScope fS) (fun _ => true) X Wx) (hp : HP X) : QL g X Wx (defBody fS) (fJ cl) :=
 (aJ (dE (QW.te (jU (lA (qtv (G.qf2 (by decide +kernel) G.fs.fr_isinstance (by kernel_rfl) rfl G.cisiW rfl (G.qvar 0 (by decide +kernel)) (G.qtyp (by decide +kernel) G.fs.fr_str (by kernel_rfl))) rfl)) (mE (lA (aBF G.oleW G.oleW aB (G.qf1 (by decide +kernel) G.fs.fr_len (by kernel_rfl) rfl G.clenW rfl (G.qvar 0 (by decide +kernel))) (G.qconI (by decide +kernel) G.fs.cs_MOST_CHARACTERS) (by rfl)))))) (aS (bB fP)) cS)
  (aS (bB (G.qf1 (by decide +kernel) G.fs.fr_all (by kernel_rfl) rfl G.callW rfl (G.qlc [("character",1)] [1] (by decide +kernel) (by rfl) (by rfl) rfl (G.qsie (G.qvar 0 (by decide +kernel))) (fun X G => (G.qtgt 1 (by decide +kernel))) .nil (fun X G => (aBE G.oltW G.oleW aH (G.qvar 1 (by decide +kernel)) aH (by rfl))))))))
theorem aCt : FnScope qL ["operator"] (defScope fR) := ⟨rfl,rfl,rfl,by decide +kernel,rfl,by decide +kernel,by decide +kernel⟩
theorem aCB {g : Gx} {k : Nat} {cl : Cll} (X : Cx) (Wx : WX) (G : Good FS g k cl qL (defScope fR) (fun _ => true) X Wx) (hp : HP X) : QL g X Wx (defBody fR) (iY cl) :=
 (aS (bB (gH G.oinW (G.qix (G.qvar 0 (by decide +kernel)) aB rfl) (bO (qac (G.qconS (by decide +kernel) G.fs.cs_INFIX) (qac (G.qconS (by decide +kernel) G.fs.cs_POSTFIX) aE rfl) rfl)) (by rfl))))
theorem aBN : FnScope oV ["operator"] (defScope eG) := ⟨rfl,rfl,rfl,by decide +kernel,rfl,by decide +kernel,by decide +kernel⟩
theorem aBU {g : Gx} {k : Nat} {cl : Cll} (X : Cx) (Wx : WX) (G : Good FS g k cl oV (defScope eG) (fun _ => true) X Wx) (hp : HP X) : QL g X Wx (defBody eG) (hZ cl) :=
 (aS (bB (gH G.oinW (G.qix (G.qvar 0 (by decide +kernel)) aB rfl) (bO (qac (G.qconS (by decide +kernel) G.fs.cs_INFIX) (qac (G.qconS (by decide +kernel) G.fs.cs_PREFIX) aE rfl) rfl)) (by rfl))))
theorem aGC : FnScope yE ["operator"] (defScope kL) := ⟨rfl,rfl,rfl,by decide +kernel,rfl,by decide +kernel,by decide +kernel⟩
theorem aGH {g : Gx} {k : Nat} {cl : Cll} (X : Cx) (Wx : WX) (G : Good FS g k cl yE (defScope kL) (fun _ => true) X Wx) (hp : HP X) : QL g X Wx (defBody kL) (nG cl) :=
 (aS (bB (aL G.oaddW (aL G.oaddW (aL G.osubW (G.qf1 (by decide +kernel) G.fs.fr_len (by kernel_rfl) rfl G.clenW rfl (G.qix (G.qvar 0 (by decide +kernel)) aB rfl)) aB) (G.qf1 (by decide +kernel) G.fs.fr_int (by kernel_rfl) rfl G.cintW rfl (G.qcal (by decide +kernel) G.fs.fn_has_left aCb rfl rfl (qac (G.qvar 0 (by decide +kernel)) aE rfl)))) (G.qf1 (by decide +kernel) G.fs.fr_int (by kernel_rfl) rfl G.cintW rfl (G.qcal (by decide +kernel) G.fs.fn_has_right aAM rfl rfl (qac (G.qvar 0 (by decide +kernel)) aE rfl))))))
theorem aCy : FnScope qQ ["operators"] (defScope fX) := ⟨rfl,rfl,rfl,by decide +kernel,rfl,by decide +kernel,by decide +kernel⟩
theorem aCG {g : Gx} {k : Nat} {cl : Cll} (X : Cx) (Wx : WX) (G : Good FS g k cl qQ (defScope fX) (fun _ => true) X Wx) (hp : HP X) : QL g X Wx (defBody fX) (fM cl) :=
 (aS (bB (G.qdc2 aK3 [("kind",1),("words",2),("word",3)] [1,2,3] [3] (by decide +kernel) (by rfl) (by rfl) (by rfl) (by rfl) rfl rfl (G.qsie (G.qvar 0 (by decide +kernel))) (fun X G => (G.qtup (qgc (G.qtgt 1 (by decide +kernel)) (qgc (G.qtgt 2 (by decide +kernel)) yV rfl) rfl) rfl rfl)) .nil (fun X G => (G.qsie (G.qvar 2 (by decide +kernel)))) (fun X G => (G.qtgt 3 (by decide +kernel))) .nil (fun X G => (G.qvar 3 (by decide +kernel))) (fun X G => fP))))
theorem aBO : FnScope oW ["value"] (defScope eH) := ⟨rfl,rfl,rfl,by decide +kernel,rfl,by decide +kernel,by decide +kernel⟩
theorem aBV {g : Gx} {k : Nat} {cl : Cll} (X : Cx) (Wx : WX) (G : Good FS g k cl oW (defScope eH) (fun _ => true) X Wx) (hp : HP X) : QL g X Wx (defBody eH) (iC cl) :=
 (aS (bB (mD (G.qf2 (by decide +kernel) G.fs.fr_isinstance (by kernel_rfl) rfl G.cisiW rfl (G.qvar 0 (by decide +kernel)) (G.qtyp (by decide +kernel) G.fs.fr_int (by kernel_rfl))) (mD (aJJ (G.qf2 (by decide +kernel) G.fs.fr_isinstance (by kernel_rfl) rfl G.cisiW rfl (G.qvar 0 (by decide +kernel)) (G.qtyp (by decide +kernel) G.fs.fr_bool (by kernel_rfl)))) (xR (gH G.ogeW (G.qvar 0 (by decide +kernel)) aB (by rfl)))))))
theorem wD : FnScope kN ["operators","value"] (defScope cM) := ⟨rfl,rfl,rfl,by decide +kernel,rfl,by decide +kernel,by decide +kernel⟩
theorem wH {g : Gx} {k : Nat} {cl : Cll} (X : Cx) (Wx : WX) (G : Good FS g k cl kN (defScope cM) (fun _ => true) X Wx) (hp : HP X) : QL g X Wx (defBody cM) (dC cl) :=
 (aJ (dE (QW.te (jU (lA (qtv (G.qcal (by decide +kernel) G.fs.fn_is_token aCc rfl rfl (qac (G.qvar 1 (by decide +kernel)) aE rfl)) rfl)) (mE (lA (qtv (G.qf1 (by decide +kernel) G.fs.fr_all (by kernel_rfl) rfl G.callW rfl (G.qlc [("character",2)] [2] (by decide +kernel) (by rfl) (by rfl) rfl (G.qsie (G.qvar 1 (by decide +kernel))) (fun X G => (G.qtgt 2 (by decide +kernel))) .nil (fun X G => (gH G.oinW (G.qvar 2 (by decide +kernel)) (G.qconS (by decide +kernel) G.fs.cs_IDENTIFIER_CHARACTERS) (by rfl))))) rfl))))) (aS (bB fP)) cS)
  (aS (bB (gH G.oniW (G.qvar 1 (by decide +kernel)) (G.qcal (by decide +kernel) G.fs.fn_words_of aCe rfl rfl (qac (G.qvar 0 (by decide +kernel)) aE rfl)) (by rfl)))))
theorem aD2 : FnScope sY ["operators","value"] (defScope fT) := ⟨rfl,rfl,rfl,by decide +kernel,rfl,by decide +kernel,by decide +kernel⟩
theorem aD6 {g : Gx} {k : Nat} {cl : Cll} (X : Cx) (Wx : WX) (G : Good FS g k cl sY (defScope fT) (fun _ => true) X Wx) (hp : HP X) : QL g X Wx (defBody fT) (kG cl) :=
 (aJ (dE (qtv (G.qf2 (by decide +kernel) G.fs.fr_isinstance (by kernel_rfl) rfl G.cisiW rfl (G.qvar 1 (by decide +kernel)) (G.qtyp (by decide +kernel) G.fs.fr_str (by kernel_rfl))) rfl) (aS (bB (G.qcal (by decide +kernel) G.fs.fn_is_identifier vF rfl rfl (qac (G.qvar 0 (by decide +kernel)) (qac (G.qvar 1 (by decide +kernel)) aE rfl) rfl)))) cS)
  (aJ (dE (QW.te (jU (lA (qtv (G.qf2 (by decide +kernel) G.fs.fr_isinstance (by kernel_rfl) rfl G.cisiW rfl (G.qvar 1 (by decide +kernel)) (G.qtyp (by decide +kernel) G.fs.fr_tuple (by kernel_rfl))) rfl)) (mE (bT G.oltW (G.qf1 (by decide +kernel) G.fs.fr_len (by kernel_rfl) rfl G.clenW rfl (G.qvar 1 (by decide +kernel))) aB (by rfl))))) (aS (bB fP)) cS)
  (aJ (dE (qtv (G.qf2 (by decide +kernel) G.fs.fr_isinstance (by kernel_rfl) rfl G.cisiW rfl (G.qix (G.qvar 1 (by decide +kernel)) aB rfl) (G.qtyp (by decide +kernel) G.fs.fr_str (by kernel_rfl))) rfl) (aS (bB (mD (gH G.oeqW (G.qix (G.qvar 1 (by decide +kernel)) aB rfl) (G.qconS (by decide +kernel) G.fs.cs_GROUP) (by rfl)) (mD (gH G.oeqW (G.qf1 (by decide +kernel) G.fs.fr_len (by kernel_rfl) rfl G.clenW rfl (G.qvar 1 (by decide +kernel))) aB (by rfl)) (xR (G.qcal (by decide +kernel) G.fs.fn_is_tree mQ rfl rfl (qac (G.qvar 0 (by decide +kernel)) (qac (G.qix (G.qvar 1 (by decide +kernel)) aB rfl) aE rfl) rfl))))))) cS)
  (aJ (dE (QW.te (jU (lA (qtv (G.qcal (by decide +kernel) G.fs.fn_is_number aAN rfl rfl (qac (G.qix (G.qvar 1 (by decide +kernel)) aB rfl) aE rfl)) rfl)) (jU (bT G.ogeW (G.qix (G.qvar 1 (by decide +kernel)) aB rfl) (G.qf1 (by decide +kernel) G.fs.fr_len (by kernel_rfl) rfl G.clenW rfl (G.qvar 0 (by decide +kernel))) (by rfl)) (mE (bT G.oneW (G.qf1 (by decide +kernel) G.fs.fr_len (by kernel_rfl) rfl G.clenW rfl (G.qvar 1 (by decide +kernel))) (aL G.oaddW aB (G.qcal (by decide +kernel) G.fs.fn_arity aFG rfl rfl (qac (G.qix (G.qvar 0 (by decide +kernel)) (G.qix (G.qvar 1 (by decide +kernel)) aB rfl) rfl) aE rfl))) (by rfl)))))) (aS (bB fP)) cS)
  (aS (bB (G.qf1 (by decide +kernel) G.fs.fr_all (by kernel_rfl) rfl G.callW rfl (G.qlc [("part",2)] [2] (by decide +kernel) (by rfl) (by rfl) rfl (G.qsie (G.qsl (G.qvar 1 (by decide +kernel)) (gI aB) jA)) (fun X G => (G.qtgt 2 (by decide +kernel))) .nil (fun X G => (G.qcal (by decide +kernel) G.fs.fn_is_tree mQ rfl rfl (qac (G.qvar 0 (by decide +kernel)) (qac (G.qvar 2 (by decide +kernel)) aE rfl) rfl)))))))))))
theorem aAr : FnScope nM ["_law_script","_law_k"] (defScope dO) := ⟨rfl,rfl,rfl,by decide +kernel,rfl,by decide +kernel,by decide +kernel⟩
theorem aAs {g : Gx} {k : Nat} {cl : Cll} (X : Cx) (Wx : WX) (G : Good FS g k cl nM (defScope dO) (fun _ => true) X Wx) (hp : HP X) : QL g X Wx (defBody dO) (iN cl) :=
 (aJ (bU (xQ (bT G.oltW (G.qvar 1 (by decide +kernel)) (G.qf1 (by decide +kernel) G.fs.fr_len (by kernel_rfl) rfl G.clenW rfl (G.qvar 0 (by decide +kernel))) (by rfl)) (G.qix (G.qvar 0 (by decide +kernel)) (G.qvar 1 (by decide +kernel)) rfl) aB) (G.qtgt 2 (by decide +kernel)) rfl)
  (aJ (bU (xQ (bT G.ogeW (G.qf1 (by decide +kernel) G.fs.fr_abs (by kernel_rfl) rfl G.cabsW rfl (G.qvar 2 (by decide +kernel))) (aL G.opowW aB aB) (by rfl)) (aL G.omodW (G.qf1 (by decide +kernel) G.fs.fr_abs (by kernel_rfl) rfl G.cabsW rfl (G.qvar 2 (by decide +kernel))) (aL G.opowW (aL G.opowW aB aB) aB)) aB) (G.qtgt 3 (by decide +kernel)) rfl)
  (aS (bB (cY (qac (G.qvar 3 (by decide +kernel)) (qac (aL G.omodW (aL G.oaddW (aL G.oaddW (aL G.omulW (aL G.omodW (G.qvar 2 (by decide +kernel)) aB) aB) (aL G.omulW (aL G.omulW aB (G.qvar 1 (by decide +kernel))) (G.qvar 1 (by decide +kernel)))) aB) aB) (qac aB aE rfl) rfl) rfl))))))
theorem aCv : FnScope qN ["_law_source_here","_law_size"] (defScope fU) := ⟨rfl,rfl,rfl,by decide +kernel,rfl,by decide +kernel,by decide +kernel⟩
theorem aCD {g : Gx} {k : Nat} {cl : Cll} (X : Cx) (Wx : WX) (G : Good FS g k cl qN (defScope fU) (fun _ => true) X Wx) (hp : HP X) : QL g X Wx (defBody fU) (gS cl) :=
 (aJ (dE (bT G.ogtW (G.qix (G.qvar 0 (by decide +kernel)) aB rfl) aB (by rfl)) (aJ (bU (aL G.omodW (G.qix (G.qvar 0 (by decide +kernel)) aB rfl) (G.qvar 1 (by decide +kernel))) (G.qtgt 2 (by decide +kernel)) rfl)
  (aJ (G.qsub (aL G.ofdivW (G.qix (G.qvar 0 (by decide +kernel)) aB rfl) (G.qvar 1 (by decide +kernel))) (G.qvar 0 (by decide +kernel)) aB rfl rfl)
  (aS (bB (G.qvar 2 (by decide +kernel)))))) cS)
  (aJ (G.qsub (aL G.oaddW (G.qix (G.qvar 0 (by decide +kernel)) aB rfl) aB) (G.qvar 0 (by decide +kernel)) aB rfl rfl)
  (aJ (bU (aL G.oaddW (G.qix (G.qvar 0 (by decide +kernel)) aB rfl) (aL G.omulW aB (G.qix (G.qvar 0 (by decide +kernel)) aB rfl))) (G.qtgt 3 (by decide +kernel)) rfl)
  (aJ (bU (aL G.oaddW (aL G.oaddW (aL G.omodW (G.qix (G.qvar 0 (by decide +kernel)) aB rfl) aB) (aL G.omulW aB (G.qix (G.qvar 0 (by decide +kernel)) aB rfl))) aB) (G.qtgt 4 (by decide +kernel)) rfl)
  (aJ (bU (aL G.omodW (aL G.omulW (G.qvar 3 (by decide +kernel)) (G.qvar 4 (by decide +kernel))) aB) (G.qtgt 5 (by decide +kernel)) rfl)
  (aJ (bU (aL G.oaddW (aL G.oaddW (aL G.omodW (G.qvar 5 (by decide +kernel)) aB) (aL G.omulW aB (G.qix (G.qvar 0 (by decide +kernel)) aB rfl))) aB) (G.qtgt 6 (by decide +kernel)) rfl)
  (aS (bB (aL G.omodW (aL G.ofdivW (aL G.omodW (aL G.omulW (aL G.oaddW (G.qvar 5 (by decide +kernel)) aB) (G.qvar 6 (by decide +kernel))) aB) aB) (G.qvar 1 (by decide +kernel)))))))))))
theorem aCw : FnScope qO ["_law_source_here","_law_some"] (defScope fV) := ⟨rfl,rfl,rfl,by decide +kernel,rfl,by decide +kernel,by decide +kernel⟩
theorem aCE {g : Gx} {k : Nat} {cl : Cll} (X : Cx) (Wx : WX) (G : Good FS g k cl qO (defScope fV) (fun _ => true) X Wx) (hp : HP X) : QL g X Wx (defBody fV) (fL cl) :=
 (aS (bB (G.qix (G.qvar 1 (by decide +kernel)) (G.qcal (by decide +kernel) G.fs.fn_law_draw cO rfl rfl (qac (G.qvar 0 (by decide +kernel)) (qac (G.qf1 (by decide +kernel) G.fs.fr_len (by kernel_rfl) rfl G.clenW rfl (G.qvar 1 (by decide +kernel))) aE rfl) rfl)) rfl)))
theorem aBS : FnScope pA ["_law_source_here","_law_many","_law_pool"] (defScope eL) := ⟨rfl,rfl,rfl,by decide +kernel,rfl,by decide +kernel,by decide +kernel⟩
theorem aBZ {g : Gx} {k : Nat} {cl : Cll} (X : Cx) (Wx : WX) (G : Good FS g k cl pA (defScope eL) (fun _ => true) X Wx) (hp : HP X) : QL g X Wx (defBody eL) (jL cl) :=
 (aS (bB (G.qf1 (by decide +kernel) G.fs.fr_tuple (by kernel_rfl) rfl G.ctupleW rfl (G.qlc [("_law_k",3)] [3] (by decide +kernel) (by rfl) (by rfl) rfl (G.qr1 (by decide +kernel) G.fs.fr_range rfl (G.qvar 1 (by decide +kernel))) (fun X G => (G.qtgt 3 (by decide +kernel))) .nil (fun X G => (G.qk1 aEP G.mpopAtW rfl (by decide +kernel) rfl (G.qvar 2 (by decide +kernel)) (G.qcal (by decide +kernel) G.fs.fn_law_draw cO rfl rfl (qac (G.qvar 0 (by decide +kernel)) (qac (G.qf1 (by decide +kernel) G.fs.fr_len (by kernel_rfl) rfl G.clenW rfl (G.qvar 2 (by decide +kernel))) aE rfl) rfl))))))))
theorem xT : FnScope lE ["_law_source_here","_law_pool","_law_starts","_law_follows"] (defScope dA) := ⟨rfl,rfl,rfl,by decide +kernel,rfl,by decide +kernel,by decide +kernel⟩
theorem xX {g : Gx} {k : Nat} {cl : Cll} (X : Cx) (Wx : WX) (G : Good FS g k cl lE (defScope dA) (fun _ => true) X Wx) (hp : HP X) : QL g X Wx (defBody dA) (cW cl) :=
 (aJ (bU (G.qcal (by decide +kernel) G.fs.fn_law_pick jJ rfl rfl (qac (G.qvar 0 (by decide +kernel)) (qac (cY (qac aH (qac aH (qac aH (qac aH (qac aH (qac aH (qac aH aE rfl) rfl) rfl) rfl) rfl) rfl) rfl)) aE rfl) rfl)) (G.qtgt 4 (by decide +kernel)) rfl)
  (aJ (bU (xQ (bT G.oeqW (G.qvar 4 (by decide +kernel)) aH (by rfl)) (G.qcal (by decide +kernel) G.fs.fn_law_pick jJ rfl rfl (qac (G.qvar 0 (by decide +kernel)) (qac (cY (qac aB (qac aB (qac aB aE rfl) rfl) rfl)) aE rfl) rfl)) (G.qcal (by decide +kernel) G.fs.fn_law_pick jJ rfl rfl (qac (G.qvar 0 (by decide +kernel)) (qac (cY (qac aB (qac aB (qac aB (qac aB (qac aB (qac aB aE rfl) rfl) rfl) rfl) rfl) rfl)) aE rfl) rfl))) (G.qtgt 5 (by decide +kernel)) rfl)
  (aJ (G.qpar 6 7 (by decide +kernel) (by decide +kernel) (by decide) (qac (G.qcal (by decide +kernel) G.fs.fn_law_words aAP rfl rfl (qac (G.qvar 0 (by decide +kernel)) (qac (G.qvar 5 (by decide +kernel)) (qac (G.qvar 1 (by decide +kernel)) aE rfl) rfl) rfl)) (qac (xQ (bT G.oinW (G.qvar 4 (by decide +kernel)) (bO (qac aH (qac aH aE rfl) rfl)) (by rfl)) (G.qvar 3 (by decide +kernel)) (G.qvar 2 (by decide +kernel))) aE rfl) rfl) (by kernel_rfl))
  (aJ (dE (QW.te (tU (bT G.oneW (G.qvar 7 (by decide +kernel)) (cY aE) (by rfl)) (yW (bT G.oeqW (G.qcal (by decide +kernel) G.fs.fn_law_draw cO rfl rfl (qac (G.qvar 0 (by decide +kernel)) (qac aB aE rfl) rfl)) aB (by rfl))))) (aS (bU (aL G.oaddW (bO (qac (G.qk1 aEP G.mpopAtW rfl (by decide +kernel) rfl (G.qvar 7 (by decide +kernel)) (G.qcal (by decide +kernel) G.fs.fn_law_draw cO rfl rfl (qac (G.qvar 0 (by decide +kernel)) (qac (G.qf1 (by decide +kernel) G.fs.fr_len (by kernel_rfl) rfl G.clenW rfl (G.qvar 7 (by decide +kernel))) aE rfl) rfl))) aE rfl)) (G.qsl (G.qvar 6 (by decide +kernel)) (gI aB) jA)) (G.qtgt 6 (by decide +kernel)) rfl)) (aS (dE (bT G.oinW (G.qvar 4 (by decide +kernel)) (bO (qac aH (qac aH aE rfl) rfl)) (by rfl)) (aS (qse (G.qk1 tO G.mappendW rfl (by decide +kernel) rfl (G.qvar 2 (by decide +kernel)) (G.qix (G.qvar 6 (by decide +kernel)) aB rfl)) rfl)) (aS (qse (G.qk1 tO G.mappendW rfl (by decide +kernel) rfl (G.qvar 3 (by decide +kernel)) (G.qix (G.qvar 6 (by decide +kernel)) aB rfl)) rfl)))))
  (aS (bB (bO (qac (G.qvar 4 (by decide +kernel)) (qac (G.qvar 6 (by decide +kernel)) aE rfl) rfl))))))))
theorem wF : FnScope kO ["_law_source_here","_law_most"] (defScope cN) := ⟨rfl,rfl,rfl,by decide +kernel,rfl,by decide +kernel,by decide +kernel⟩
theorem wI {g : Gx} {k : Nat} {cl : Cll} (X : Cx) (Wx : WX) (G : Good FS g k cl kO (defScope cN) (fun _ => true) X Wx) (hp : HP X) : QL g X Wx (defBody cN) (fK cl) :=
 (aJ (bU (aL G.oaddW (G.qf1 (by decide +kernel) G.fs.fr_list (by kernel_rfl) rfl G.clistW rfl aH) (cY (qac aH (qac aH (qac aH (qac aH (qac aH (qac aH (qac aH (qac aH aE rfl) rfl) rfl) rfl) rfl) rfl) rfl) rfl))) (G.qtgt 2 (by decide +kernel)) rfl)
  (aJ (bU (aL G.oaddW (G.qvar 2 (by decide +kernel)) (cY (qac aH (qac aH (qac aH (qac aH (qac aH (qac aH (qac aH (qac aH (qac aH (qac aH (qac aH aE rfl) rfl) rfl) rfl) rfl) rfl) rfl) rfl) rfl) rfl) rfl))) (G.qtgt 2 (by decide +kernel)) rfl)
  (aJ (G.qasgT (bO (qac (cY aE) (qac (cY aE) aE rfl) rfl)) (G.qtup (qgc (G.qtgt 3 (by decide +kernel)) (qgc (G.qtgt 4 (by decide +kernel)) yV rfl) rfl) rfl rfl) rfl (by kernel_rfl))
  (aS (bB (G.qf1 (by decide +kernel) G.fs.fr_tuple (by kernel_rfl) rfl G.ctupleW rfl (G.qlc [("_law_k",5)] [5] (by decide +kernel) (by rfl) (by rfl) rfl (G.qr1 (by decide +kernel) G.fs.fr_range rfl (G.qcal (by decide +kernel) G.fs.fn_law_draw cO rfl rfl (qac (G.qvar 0 (by decide +kernel)) (qac (aL G.oaddW (G.qvar 1 (by decide +kernel)) aB) aE rfl) rfl))) (fun X G => (G.qtgt 5 (by decide +kernel))) .nil (fun X G => (G.qcal (by decide +kernel) G.fs.fn_law_operator wN rfl rfl (qac (G.qvar 0 (by decide +kernel)) (qac (G.qvar 2 (by decide +kernel)) (qac (G.qvar 3 (by decide +kernel)) (qac (G.qvar 4 (by decide +kernel)) aE rfl) rfl) rfl) rfl))))))))))
theorem aD4 : FnScope tD ["_law_operator_here"] (defScope gN) := ⟨rfl,rfl,rfl,by decide +kernel,rfl,by decide +kernel,by decide +kernel⟩
theorem aD8 {g : Gx} {k : Nat} {cl : Cll} (X : Cx) (Wx : WX) (G : Good FS g k cl tD (defScope gN) (fun _ => true) X Wx) (hp : HP X) : QL g X Wx (defBody gN) (gK cl) :=
 (aS (bB (bO (qac (gH G.oinW (G.qix (G.qvar 0 (by decide +kernel)) aB rfl) (bO (qac aH (qac aH aE rfl) rfl)) (by rfl)) (qac (gH G.oinW (G.qix (G.qvar 0 (by decide +kernel)) aB rfl) (bO (qac aH (qac aH aE rfl) rfl)) (by rfl)) aE rfl) rfl))))
theorem aBQ : FnScope oY ["_law_operator_here"] (defScope eJ) := ⟨rfl,rfl,rfl,by decide +kernel,rfl,by decide +kernel,by decide +kernel⟩
theorem aBX {g : Gx} {k : Nat} {cl : Cll} (X : Cx) (Wx : WX) (G : Good FS g k cl oY (defScope eJ) (fun _ => true) X Wx) (hp : HP X) : QL g X Wx (defBody eJ) (eC cl) :=
 (aS (bB (aL G.oaddW (aL G.osubW (G.qf1 (by decide +kernel) G.fs.fr_len (by kernel_rfl) rfl G.clenW rfl (G.qix (G.qvar 0 (by decide +kernel)) aB rfl)) aB) (G.qf1 (by decide +kernel) G.fs.fr_sum (by kernel_rfl) rfl G.csumW rfl (G.qlc [("_law_one",1)] [1] (by decide +kernel) (by rfl) (by rfl) rfl (G.qsie (G.qcal (by decide +kernel) G.fs.fn_law_has aDi rfl rfl (qac (G.qvar 0 (by decide +kernel)) aE rfl))) (fun X G => (G.qtgt 1 (by decide +kernel))) .nil (fun X G => (G.qf1 (by decide +kernel) G.fs.fr_int (by kernel_rfl) rfl G.cintW rfl (G.qvar 1 (by decide +kernel)))))))))
theorem aCx : FnScope qP ["_law_source_here","_law_ops","_law_most","_law_groups"] (defScope fW) := ⟨rfl,rfl,rfl,by decide +kernel,rfl,by decide +kernel,by decide +kernel⟩
theorem aCF {g : Gx} {k : Nat} {cl : Cll} (X : Cx) (Wx : WX) (G : Good FS g k cl qP (defScope fW) (fun _ => true) X Wx) (hp : HP X) : QL g X Wx (defBody fW) (kX cl) :=
 (aS (bB (G.qcal (by decide +kernel) G.fs.fn_law_grown nP rfl rfl (qac (G.qvar 0 (by decide +kernel)) (qac (G.qvar 1 (by decide +kernel)) (qac (cY (qac (G.qvar 2 (by decide +kernel)) (qac (G.qvar 3 (by decide +kernel)) aE rfl) rfl)) (qac aB aE rfl) rfl) rfl) rfl))))
theorem aBP : FnScope oX ["_law_source_here","_law_ops","_law_left","_law_depth"] (defScope eI) := ⟨rfl,rfl,rfl,by decide +kernel,rfl,by decide +kernel,by decide +kernel⟩
theorem aBW {g : Gx} {k : Nat} {cl : Cll} (X : Cx) (Wx : WX) (G : Good FS g k cl oX (defScope eI) (fun _ => true) X Wx) (hp : HP X) : QL g X Wx (defBody eI) (iD cl) :=
 (aJ (dE (QW.te (tU (bT G.ogtW (G.qix (G.qvar 2 (by decide +kernel)) aB rfl) aB (by rfl)) (tU (bT G.ogtW (G.qvar 3 (by decide +kernel)) aB (by rfl)) (yW (bT G.oeqW (G.qcal (by decide +kernel) G.fs.fn_law_draw cO rfl rfl (qac (G.qvar 0 (by decide +kernel)) (qac aB aE rfl) rfl)) aB (by rfl)))))) (aJ (G.qsub (aL G.osubW (G.qix (G.qvar 2 (by decide +kernel)) aB rfl) aB) (G.qvar 2 (by decide +kernel)) aB rfl rfl)
  (aS (bB (bO (qac aH (qac (G.qcal (by decide +kernel) G.fs.fn_law_grown nP rfl rfl (qac (G.qvar 0 (by decide +kernel)) (qac (G.qvar 1 (by decide +kernel)) (qac (G.qvar 2 (by decide +kernel)) (qac (aL G.osubW (G.qvar 3 (by decide +kernel)) aB) aE rfl) rfl) rfl) rfl)) aE rfl) rfl))))) cS)
  (aJ (dE (QW.te (jU (bT G.oeqW (G.qvar 1 (by decide +kernel)) (bO aE) (by rfl)) (jU (bT G.oleW (G.qix (G.qvar 2 (by decide +kernel)) aB rfl) aB (by rfl)) (jU (bT G.oeqW (G.qvar 3 (by decide +kernel)) aB (by rfl)) (mE (bT G.oeqW (G.qcal (by decide +kernel) G.fs.fn_law_draw cO rfl rfl (qac (G.qvar 0 (by decide +kernel)) (qac aB aE rfl) rfl)) aB (by rfl))))))) (aS (bB (G.qcal (by decide +kernel) G.fs.fn_law_pick jJ rfl rfl (qac (G.qvar 0 (by decide +kernel)) (qac (cY (qac aH (qac aH (qac aH (qac aH (qac aH aE rfl) rfl) rfl) rfl) rfl)) aE rfl) rfl)))) cS)
  (aJ (G.qsub (aL G.osubW (G.qix (G.qvar 2 (by decide +kernel)) aB rfl) aB) (G.qvar 2 (by decide +kernel)) aB rfl rfl)
  (aJ (G.qpar 4 5 (by decide +kernel) (by decide +kernel) (by decide) (qac (G.qcal (by decide +kernel) G.fs.fn_law_draw cO rfl rfl (qac (G.qvar 0 (by decide +kernel)) (qac (G.qf1 (by decide +kernel) G.fs.fr_len (by kernel_rfl) rfl G.clenW rfl (G.qvar 1 (by decide +kernel))) aE rfl) rfl)) (qac (cY aE) aE rfl) rfl) (by kernel_rfl))
  (aJ (qsf hp.p G (G.qr1 (by decide +kernel) G.fs.fr_range rfl (G.qcal (by decide +kernel) G.fs.fn_law_holes tG rfl rfl (qac (G.qix (G.qvar 1 (by decide +kernel)) (G.qvar 4 (by decide +kernel)) rfl) aE rfl))) (G.qtgt 6 (by decide +kernel)) (aS (qse (G.qk1 tO G.mappendW rfl (by decide +kernel) rfl (G.qvar 5 (by decide +kernel)) (G.qcal (by decide +kernel) G.fs.fn_law_grown nP rfl rfl (qac (G.qvar 0 (by decide +kernel)) (qac (G.qvar 1 (by decide +kernel)) (qac (G.qvar 2 (by decide +kernel)) (qac (aL G.osubW (G.qvar 3 (by decide +kernel)) aB) aE rfl) rfl) rfl) rfl))) rfl)) rfl)
  (aS (bB (aL G.oaddW (bO (qac (G.qvar 4 (by decide +kernel)) aE rfl)) (G.qf1 (by decide +kernel) G.fs.fr_tuple (by kernel_rfl) rfl G.ctupleW rfl (G.qvar 5 (by decide +kernel)))))))))))
theorem aD3 : FnScope sZ ["_law_ops","_law_thing"] (defScope gM) := ⟨rfl,rfl,rfl,by decide +kernel,rfl,by decide +kernel,by decide +kernel⟩
theorem aD7 {g : Gx} {k : Nat} {cl : Cll} (X : Cx) (Wx : WX) (G : Good FS g k cl sZ (defScope gM) (fun _ => true) X Wx) (hp : HP X) : QL g X Wx (defBody gM) (kH cl) :=
 (aJ (dE (qtv (G.qf2 (by decide +kernel) G.fs.fr_isinstance (by kernel_rfl) rfl G.cisiW rfl (G.qvar 1 (by decide +kernel)) (G.qtyp (by decide +kernel) G.fs.fr_str (by kernel_rfl))) rfl) (aJ (bU (cY aE) (G.qtgt 2 (by decide +kernel)) rfl)
  (aJ (qsf hp.p G (G.qsie (G.qvar 0 (by decide +kernel))) (G.qtup (qgc (G.qtgt 3 (by decide +kernel)) (qgc (G.qtgt 4 (by decide +kernel)) yV rfl) rfl) rfl rfl) (aS (qse (G.qk1 zX G.mextendW rfl (by decide +kernel) rfl (G.qvar 2 (by decide +kernel)) (G.qf1 (by decide +kernel) G.fs.fr_list (by kernel_rfl) rfl G.clistW rfl (G.qvar 4 (by decide +kernel)))) rfl)) rfl)
  (aJ (bU aH (G.qtgt 5 (by decide +kernel)) rfl)
  (aS (bB (mD (aBE G.oltW G.oltW aB (G.qf1 (by decide +kernel) G.fs.fr_len (by kernel_rfl) rfl G.clenW rfl (G.qvar 1 (by decide +kernel))) aB (by rfl)) (mD (G.qf1 (by decide +kernel) G.fs.fr_all (by kernel_rfl) rfl G.callW rfl (G.qlc [("_law_letter",6)] [6] (by decide +kernel) (by rfl) (by rfl) rfl (G.qsie (G.qvar 1 (by decide +kernel))) (fun X G => (G.qtgt 6 (by decide +kernel))) .nil (fun X G => (gH G.oinW (G.qvar 6 (by decide +kernel)) (G.qvar 5 (by decide +kernel)) (by rfl))))) (xR (gH G.oniW (G.qvar 1 (by decide +kernel)) (G.qvar 2 (by decide +kernel)) (by rfl)))))))))) cS)
  (aJ (dE (QW.te (jU (lA (qtv (G.qf2 (by decide +kernel) G.fs.fr_isinstance (by kernel_rfl) rfl G.cisiW rfl (G.qvar 1 (by decide +kernel)) (G.qtyp (by decide +kernel) G.fs.fr_tuple (by kernel_rfl))) rfl)) (mE (bT G.oeqX (G.qvar 1 (by decide +kernel)) (bO aE) (by rfl))))) (aS (bB fP)) cS)
  (aJ (dE (qtv (G.qf2 (by decide +kernel) G.fs.fr_isinstance (by kernel_rfl) rfl G.cisiW rfl (G.qix (G.qvar 1 (by decide +kernel)) aB rfl) (G.qtyp (by decide +kernel) G.fs.fr_str (by kernel_rfl))) rfl) (aS (bB (mD (gH G.oeqW (G.qix (G.qvar 1 (by decide +kernel)) aB rfl) aH (by rfl)) (mD (gH G.oeqW (G.qf1 (by decide +kernel) G.fs.fr_len (by kernel_rfl) rfl G.clenW rfl (G.qvar 1 (by decide +kernel))) aB (by rfl)) (xR (G.qcal (by decide +kernel) G.fs.fn_law_due qU rfl rfl (qac (G.qvar 0 (by decide +kernel)) (qac (G.qix (G.qvar 1 (by decide +kernel)) aB rfl) aE rfl) rfl))))))) cS)
  (aJ (dE (QW.te (jU (lA (qtv (G.qf2 (by decide +kernel) G.fs.fr_isinstance (by kernel_rfl) rfl G.cisiW rfl (G.qix (G.qvar 1 (by decide +kernel)) aB rfl) (G.qtyp (by decide +kernel) G.fs.fr_int (by kernel_rfl))) rfl)) (jU (qtv (G.qf2 (by decide +kernel) G.fs.fr_isinstance (by kernel_rfl) rfl G.cisiW rfl (G.qix (G.qvar 1 (by decide +kernel)) aB rfl) (G.qtyp (by decide +kernel) G.fs.fr_bool (by kernel_rfl))) rfl) (mE (lA (aBF G.oleW G.oltW aB (G.qix (G.qvar 1 (by decide +kernel)) aB rfl) (G.qf1 (by decide +kernel) G.fs.fr_len (by kernel_rfl) rfl G.clenW rfl (G.qvar 0 (by decide +kernel))) (by rfl))))))) (aS (bB fP)) cS)
  (aJ (dE (bT G.oneW (G.qf1 (by decide +kernel) G.fs.fr_len (by kernel_rfl) rfl G.clenW rfl (G.qvar 1 (by decide +kernel))) (aL G.oaddW aB (G.qcal (by decide +kernel) G.fs.fn_law_holes tG rfl rfl (qac (G.qix (G.qvar 0 (by decide +kernel)) (G.qix (G.qvar 1 (by decide +kernel)) aB rfl) rfl) aE rfl))) (by rfl)) (aS (bB fP)) cS)
  (aS (bB (G.qf1 (by decide +kernel) G.fs.fr_all (by kernel_rfl) rfl G.callW rfl (G.qlc [("_law_part",7)] [7] (by decide +kernel) (by rfl) (by rfl) rfl (G.qsie (G.qsl (G.qvar 1 (by decide +kernel)) (gI aB) jA)) (fun X G => (G.qtgt 7 (by decide +kernel))) .nil (fun X G => (G.qcal (by decide +kernel) G.fs.fn_law_due qU rfl rfl (qac (G.qvar 0 (by decide +kernel)) (qac (G.qvar 7 (by decide +kernel)) aE rfl) rfl))))))))))))
theorem yX : FnScope mG ["_law_source_here","_law_ops","_law_tree_here","_law_depth"] (defScope dG) := ⟨rfl,rfl,rfl,by decide +kernel,rfl,by decide +kernel,by decide +kernel⟩
theorem zD {g : Gx} {k : Nat} {cl : Cll} (X : Cx) (Wx : WX) (G : Good FS g k cl mG (defScope dG) (fun _ => true) X Wx) (hp : HP X) : QL g X Wx (defBody dG) (fE cl) :=
 (aJ (bU (aL G.oaddW (cY (qac aH (qac aH (qac aH (qac aH (qac aH (qac aH (qac aH (qac aH (qac aH aE rfl) rfl) rfl) rfl) rfl) rfl) rfl) rfl) rfl)) (G.qlc [("_law_one",5)] [5] (by decide +kernel) (by rfl) (by rfl) rfl (G.qsie (G.qvar 1 (by decide +kernel))) (fun X G => (G.qtgt 5 (by decide +kernel))) .nil (fun X G => (G.qix (G.qix (G.qvar 5 (by decide +kernel)) aB rfl) aB rfl)))) (G.qtgt 4 (by decide +kernel)) rfl)
  (aJ (bU (aL G.oaddW (G.qvar 4 (by decide +kernel)) (cY (qac aFb (qac fP (qac aB (qac (aJI aB) (qac (G.qf1 (by decide +kernel) G.fs.fr_len (by kernel_rfl) rfl G.clenW rfl (G.qvar 1 (by decide +kernel))) (qac (bO aE) (qac (cY aE) (qac aFa (qac (bO (qac aH aE rfl)) (qac (bO (qac aH (qac aH (qac aH aE rfl) rfl) rfl)) (qac (bO (qac aH (qac aH aE rfl) rfl)) aE rfl) rfl) rfl) rfl) rfl) rfl) rfl) rfl) rfl) rfl) rfl))) (G.qtgt 6 (by decide +kernel)) rfl)
  (aJ (bU (aL G.oaddW (G.qvar 6 (by decide +kernel)) (cY (qac (bO (qac aB aE rfl)) (qac (bO (qac fP (qac aH (qac aH aE rfl) rfl) rfl)) (qac (bO (qac fP (qac aH aE rfl) rfl)) (qac (bO (qac aB (qac aH (qac aH aE rfl) rfl) rfl)) aE rfl) rfl) rfl) rfl))) (G.qtgt 6 (by decide +kernel)) rfl)
  (aJ (dE (QW.te (tU (qtv (G.qf2 (by decide +kernel) G.fs.fr_isinstance (by kernel_rfl) rfl G.cisiW rfl (G.qvar 2 (by decide +kernel)) (G.qtyp (by decide +kernel) G.fs.fr_tuple (by kernel_rfl))) rfl) (tU (bT G.ogtW (G.qvar 3 (by decide +kernel)) aB (by rfl)) (yW (bT G.ogtW (G.qcal (by decide +kernel) G.fs.fn_law_draw cO rfl rfl (qac (G.qvar 0 (by decide +kernel)) (qac aB aE rfl) rfl)) aB (by rfl)))))) (aJ (G.qpar 7 8 (by decide +kernel) (by decide +kernel) (by decide) (qac (G.qcal (by decide +kernel) G.fs.fn_law_draw cO rfl rfl (qac (G.qvar 0 (by decide +kernel)) (qac (G.qf1 (by decide +kernel) G.fs.fr_len (by kernel_rfl) rfl G.clenW rfl (G.qvar 2 (by decide +kernel))) aE rfl) rfl)) (qac (G.qcal (by decide +kernel) G.fs.fn_law_draw cO rfl rfl (qac (G.qvar 0 (by decide +kernel)) (qac aB aE rfl) rfl)) aE rfl) rfl) (by kernel_rfl))
  (aJ (dE (bT G.oeqW (G.qvar 8 (by decide +kernel)) aB (by rfl)) (aS (bB (aL G.oaddW (G.qsl (G.qvar 2 (by decide +kernel)) jA (gI (G.qvar 7 (by decide +kernel)))) (G.qsl (G.qvar 2 (by decide +kernel)) (gI (aL G.oaddW (G.qvar 7 (by decide +kernel)) aB)) jA)))) cS)
  (aJ (dE (bT G.oeqW (G.qvar 8 (by decide +kernel)) aB (by rfl)) (aS (bB (aL G.oaddW (aL G.oaddW (G.qsl (G.qvar 2 (by decide +kernel)) jA (gI (G.qvar 7 (by decide +kernel)))) (G.qsl (G.qvar 2 (by decide +kernel)) (gI (G.qvar 7 (by decide +kernel))) (gI (aL G.oaddW (G.qvar 7 (by decide +kernel)) aB)))) (G.qsl (G.qvar 2 (by decide +kernel)) (gI (G.qvar 7 (by decide +kernel))) jA)))) cS)
  (aJ (dE (bT G.oeqW (G.qvar 8 (by decide +kernel)) aB (by rfl)) (aS (bB (G.qf1 (by decide +kernel) G.fs.fr_list (by kernel_rfl) rfl G.clistW rfl (G.qvar 2 (by decide +kernel))))) cS)
  (aJ (bU (G.qcal (by decide +kernel) G.fs.fn_law_changed pW rfl rfl (qac (G.qvar 0 (by decide +kernel)) (qac (G.qvar 1 (by decide +kernel)) (qac (G.qix (G.qvar 2 (by decide +kernel)) (G.qvar 7 (by decide +kernel)) rfl) (qac (aL G.osubW (G.qvar 3 (by decide +kernel)) aB) aE rfl) rfl) rfl) rfl)) (G.qtgt 9 (by decide +kernel)) rfl)
  (aS (bB (aL G.oaddW (aL G.oaddW (G.qsl (G.qvar 2 (by decide +kernel)) jA (gI (G.qvar 7 (by decide +kernel)))) (bO (qac (G.qvar 9 (by decide +kernel)) aE rfl))) (G.qsl (G.qvar 2 (by decide +kernel)) (gI (aL G.oaddW (G.qvar 7 (by decide +kernel)) aB)) jA))))))))) cS)
  (aS (bB (G.qcal (by decide +kernel) G.fs.fn_law_pick jJ rfl rfl (qac (G.qvar 0 (by decide +kernel)) (qac (G.qvar 6 (by decide +kernel)) aE rfl) rfl))))))))
theorem aBR : FnScope oZ ["_law_source_here"] (defScope eK) := ⟨rfl,rfl,rfl,by decide +kernel,rfl,by decide +kernel,by decide +kernel⟩
theorem aBY {g : Gx} {k : Nat} {cl : Cll} (X : Cx) (Wx : WX) (G : Good FS g k cl oZ (defScope eK) (fun _ => true) X Wx) (hp : HP X) : QL g X Wx (defBody eK) (iE cl) :=
 (aJ (bU (G.qcal (by decide +kernel) G.fs.fn_law_operators vG rfl rfl (qac (G.qvar 0 (by decide +kernel)) (qac aB aE rfl) rfl)) (G.qtgt 1 (by decide +kernel)) rfl)
  (aJ (bU (cY (qac aFb (qac fP (qac aB (qac aH (qac aH (qac aH (qac (bO aE) (qac (cY aE) (qac aFa (qac (bO (qac aH aE rfl)) (qac (bO (qac aH (qac aH aE rfl) rfl)) (qac (bO (qac (bO (qac aH (qac aH aE rfl) rfl)) aE rfl)) (qac (bO (qac aH (qac (bO (qac aH (qac aH aE rfl) rfl)) aE rfl) rfl)) (qac (bO (qac aH (qac aH aE rfl) rfl)) aE rfl) rfl) rfl) rfl) rfl) rfl) rfl) rfl) rfl) rfl) rfl) rfl) rfl) rfl)) (G.qtgt 2 (by decide +kernel)) rfl)
  (aJ (qsf hp.p G (G.qr1 (by decide +kernel) G.fs.fr_range rfl aB) (G.qtgt 3 (by decide +kernel)) (aJ (bU (G.qcal (by decide +kernel) G.fs.fn_law_tree aCd rfl rfl (qac (G.qvar 0 (by decide +kernel)) (qac (G.qvar 1 (by decide +kernel)) (qac aB (qac aB aE rfl) rfl) rfl) rfl)) (G.qtgt 4 (by decide +kernel)) rfl)
  (aJ (qse (G.qk1 zX G.mextendW rfl (by decide +kernel) rfl (G.qvar 2 (by decide +kernel)) (aL G.oaddW (cY (qac (G.qvar 4 (by decide +kernel)) aE rfl)) (G.qlc [("_law_again",5)] [5] (by decide +kernel) (by rfl) (by rfl) rfl (G.qr1 (by decide +kernel) G.fs.fr_range rfl aB) (fun X G => (G.qtgt 5 (by decide +kernel))) .nil (fun X G => (G.qcal (by decide +kernel) G.fs.fn_law_changed pW rfl rfl (qac (G.qvar 0 (by decide +kernel)) (qac (G.qvar 1 (by decide +kernel)) (qac (G.qvar 4 (by decide +kernel)) (qac aB aE rfl) rfl) rfl) rfl)))))) rfl)
  (aS (dE (bT G.oinotW (G.qcal (by decide +kernel) G.fs.fn_is_tree mQ rfl rfl (qac (G.qvar 1 (by decide +kernel)) (qac (G.qvar 4 (by decide +kernel)) aE rfl) rfl)) fP (by rfl)) (aS (bB fP)) cS)))) rfl)
  (aJ (qsf hp.p G (G.qsie (G.qvar 2 (by decide +kernel))) (G.qtgt 6 (by decide +kernel)) (aJ (G.qpar 7 8 (by decide +kernel) (by decide +kernel) (by decide) (qac (G.qf1 (by decide +kernel) G.fs.fr_repr (by kernel_rfl) rfl G.creprX rfl (G.qvar 6 (by decide +kernel))) (qac (G.qf1 (by decide +kernel) G.fs.fr_repr (by kernel_rfl) rfl G.creprX rfl (G.qcal (by decide +kernel) G.fs.fn_law_due qU rfl rfl (qac (G.qvar 1 (by decide +kernel)) (qac (G.qvar 6 (by decide +kernel)) aE rfl) rfl))) aE rfl) rfl) (by kernel_rfl))
  (aJ (dE (QW.te (jU (bT G.oneW (G.qf1 (by decide +kernel) G.fs.fr_repr (by kernel_rfl) rfl G.creprX rfl (G.qcal (by decide +kernel) G.fs.fn_is_tree mQ rfl rfl (qac (G.qvar 1 (by decide +kernel)) (qac (G.qvar 6 (by decide +kernel)) aE rfl) rfl))) (G.qvar 8 (by decide +kernel)) (by rfl)) (mE (bT G.oneW (G.qf1 (by decide +kernel) G.fs.fr_repr (by kernel_rfl) rfl G.creprX rfl (G.qcalK ["value","operators"] [1,0] (by decide +kernel) G.fs.fn_is_tree aAo rfl rfl rfl (qkc (G.qvar 6 (by decide +kernel)) (qkc (G.qvar 1 (by decide +kernel)) aJK)))) (G.qvar 8 (by decide +kernel)) (by rfl))))) (aS (bB fP)) cS)
  (aS (dE (bT G.oneW (G.qf1 (by decide +kernel) G.fs.fr_repr (by kernel_rfl) rfl G.creprX rfl (G.qvar 6 (by decide +kernel))) (G.qvar 7 (by decide +kernel)) (by rfl)) (aS (bB fP)) cS)))) rfl)
  (aS (bB fP))))))
theorem aFi : FnScope aAt ["_law_script"] (defScope oT) := ⟨rfl,rfl,rfl,by decide +kernel,rfl,by decide +kernel,by decide +kernel⟩
theorem aFn {g : Gx} {k : Nat} {cl : Cll} (X : Cx) (Wx : WX) (G : Good FS g k cl aAt (defScope oT) (fun _ => true) X Wx) (hp : HP X) : QL g X Wx (defBody oT) (uO cl) :=
 (aS (bB (G.qf1 (by decide +kernel) G.fs.fr_all (by kernel_rfl) rfl G.callW rfl (G.qlc [("_law_k",1)] [1] (by decide +kernel) (by rfl) (by rfl) rfl (G.qr1 (by decide +kernel) G.fs.fr_range rfl (G.qf2 (by decide +kernel) G.fs.fr_max (by kernel_rfl) rfl G.cmaxW rfl aB (G.qf2 (by decide +kernel) G.fs.fr_min (by kernel_rfl) rfl G.cminW rfl (G.qf1 (by decide +kernel) G.fs.fr_len (by kernel_rfl) rfl G.clenW rfl (G.qvar 0 (by decide +kernel))) aB))) (fun X G => (G.qtgt 1 (by decide +kernel))) .nil (fun X G => (G.qcal (by decide +kernel) G.fs.fn_law_right aAO rfl rfl (qac (G.qcal (by decide +kernel) G.fs.fn_law_source aAn rfl rfl (qac (G.qvar 0 (by decide +kernel)) (qac (G.qvar 1 (by decide +kernel)) aE rfl) rfl)) aE rfl)))))))
/-- the plain law: what the defs compute is True -/
def aAu : Prop := ∀ ns : List Int,ns.length <= 63 -> ∃ h,aM T 200 aAB [.fl (ns.map D.int)] [] = .ok (.bl true) h
end LW
end
section
namespace LW
open PV PySem PySem.Spec PyProof.Rows L2
theorem kQ (k : Nat) {h : Hh} {i c : Nat} {n : Int} (e : Sr h i c) (hn : 0 < n) (hn2 : n < 1073741824) (hc : c < 1000000000) :
  ∃ (r : Nat) (h' : Hh),(r : Int) < n /\ Sr h' i (c + 1) /\ Up [i] h h' /\ aM T (k + 1) aQ [.ref i, .int n] h = .ok (.int r) h' := by
 obtain ⟨a,b,d,e,hd,hd2⟩ := e
 have hl := aF e
 have hs : ∀ x,(h.set i x)[i]? = some x := fun x => List.getElem?_set_self hl
 rw [dF (d := ⟨7,2,gS⟩) rfl]
 by_cases ha : 0 < a
 ·have z := Int.emod_nonneg a (b := n) (by omega)
  obtain ⟨r,er⟩ := Int.eq_ofNat_of_zero_le z
  refine ⟨r,h.set i (.lst [.int (a / n), .int b, .int d]),by rw [<- er]; exact Int.emod_lt_of_pos _ hn,⟨_,_,_,hs _,hd,by omega⟩, .set (by simp), ?_⟩
  simp [gS,aT,ixW,asL,asT,atI,ixN,e,ha,hn,hn2,pO,fD,D.isTl,er]
 ·have m1 : CMul 15485863 (d + 1) := aAw (by decide) (by decide)
  have m2 : CMul 32452867 (d + 1) := aAw (by decide) (by decide)
  have m3 : CMul 6700417 (d + 1) := aAw (by decide) (by decide)
  have m4 : ∀ z : Int,CMul z (b % 7919 + 32452867 * (d + 1) + 29) := fun z => by
   have := Int.emod_nonneg b (b := 7919) (by decide)
   have := Int.emod_lt_of_pos b (b := 7919) (by decide)
   exact aAx (by omega) (by omega)
  have m5 : ∀ y z : Int,CMul z (y % 1000003 + 6700417 * (d + 1) + 5) := fun y z => by
   have := Int.emod_nonneg y (b := 1000003) (by decide)
   have := Int.emod_lt_of_pos y (b := 1000003) (by decide)
   exact aAx (by omega) (by omega)
  have key : ∃ y : Int,eV (gS (aM T k) (aT 7 [.ref i, .int n]) h) = .ok (.int (y % n)) (h.set i (.lst [.int a, .int b, .int (d + 1)])) := by
   refine ⟨?_, ?e⟩
   case e =>
    simp [gS,aT,ixW,asL,asT,atI,ixN,e,ha,hn,hn2,pO,fD,D.isTl,m1,m2,m3,m4,m5,hs]
    rfl
  obtain ⟨y,ey⟩ := key
  have z := Int.emod_nonneg y (b := n) (by omega)
  obtain ⟨r,er⟩ := Int.eq_ofNat_of_zero_le z
  refine ⟨r,h.set i (.lst [.int a, .int b, .int (d + 1)]),by rw [<- er]; exact Int.emod_lt_of_pos _ hn,⟨_,_,_,hs _,by omega,by omega⟩, .set (by simp), ?_⟩
  simp only [List.length_cons,List.length_nil,if_true]
  rw [ey,er]
theorem aIM (k : Nat) {h : Hh} {i j c : Nat} {ws : List D} (e : Sr h i c) (ej : h[j]? = some (.lst ws)) (hij : j ≠ i) (h0 : 0 < ws.length) (h1 : ws.length < 1073741824) (hc : c < 1000000000) :
  ∃ (r : Nat) (h' : Hh) (hr : r < ws.length),Sr h' i (c + 1) /\ Up [i] h h' /\ aM T (k + 2) bH [.ref i, .ref j] h = .ok ws[r] h' := by
 obtain ⟨r,h',r1,es,u,ed⟩ := kQ k (n := (ws.length : Int)) e (by omega) (by omega) hc
 have hlt : r < ws.length := by omega
 refine ⟨r,h',hlt,es,u, ?_⟩
 rw [dF (d := ⟨2,2,fL⟩) rfl]
 have e2 : h'[j]? = some (.lst ws) := u.get ej (by simpa using hij)
 have e3 : ixW (.ref j) (.int (r : Int)) h' = .ok ws[r] h' := nT e2 (by simp [List.getElem?_eq_getElem hlt])
 simp [fL,aT,vP ej,ed,e3,u.len]
/-- a pick from a list just written -/
theorem xI (k : Nat) {h : Hh} {i c : Nat} {ws : List D} (e : Sr h i c) (h0 : 0 < ws.length) (h1 : ws.length < 1073741824) (hc : c < 1000000000) (hw : ∀ w ∈ ws,∀ n,w.lim n = true) :
  ∃ (w : D) (h' : Hh),w ∈ ws /\ Sr h' i (c + 1) /\ Up [i] h h' /\ gcR h (aM T (k + 2) bH [.ref i, .ref h.length] (h ++ [.lst ws])) = .ok w h' := by
 obtain ⟨r,h',hr,es,u,ep⟩ := aIM k (j := h.length) (ws := ws) (e.app (e := [.lst ws])) aFD (by have := e.lt; omega) h0 h1 hc
 refine ⟨ws[r],h'.take h.length,List.getElem_mem hr,es.cut e.lt,u.cut, ?_⟩
 rw [ep,aHD u es (hw _ (List.getElem_mem hr) _)]
end LW
end
section
namespace LW
open PV PySem PySem.Spec PyProof.Rows L2
theorem aHt (k : Nat) {h : Hh} {i p c n : Nat} {pool : List Str} (e : Sr h i c) (ep : h[p]? = some (.lst (pool.map .str))) (hip : p ≠ i) (hn : n <= pool.length) (hl : pool.length < 1000000) (hc : c + n < 1000000000) :
  ∃ (ws pool' : List Str) (h' : Hh),ws.length = n /\ pool.Perm (ws ++ pool') /\ Sr h' i (c + n) /\ h'[p]? = some (.lst (pool'.map .str)) /\ Up [i,p] h h' /\ aM T (k + 2) pJ [.ref i, .int n, .ref p] h = .ok (.tup (ws.map .str)) h' := by
 rw [dF (d := ⟨4,3,jL⟩) rfl]
 have hlt := aF ep
 obtain ⟨acc,h',e1,hlen,ws,pool',rfl,hw,hp,hs,hpc,u⟩ := aEL (mi := iO (mV 1)) (t := .nm 3) (me := mM1 (on1 "list" lZ) (mV 2) (aR (aM T (k + 1)) aQ (aA [mV 0,mF1 bW (mV 2)]))) (vs := [3]) (σ := [some (.ref i),some (.int n),some (.ref p),none]) (h := h) (h1 := h) (src := pP 0 n) (ws := (List.range n).map fun (i : Nat) => D.int (0 + (i : Nat)))
  (fun j acc h' => ∃ ws pool',acc = ws.map D.str /\ ws.length = j /\ pool.Perm (ws ++ pool') /\ Sr h' i (c + j) /\ h'[p]? = some (.lst (pool'.map .str)) /\ Up [i,p] h h') (rQ (by simp) (by omega)) (fun j acc h' _ => qF j) (by simp [sizeLine]; omega)
  ⟨[],pool,rfl,rfl, .refl _,e,ep, .rfl'⟩ (by
   rintro j w acc h' ⟨ws,pool',rfl,hw,hp,hs,hpc,u⟩ _ ej
   have hj := aF ej
   simp at hj
   have hll := hp.length_eq
   simp only [List.length_append] at hll
   obtain ⟨r,h2,r1,es,u2,ed⟩ := kQ k (n := (pool'.length : Int)) hs (by omega) (by omega) (by omega)
   have hr : r < pool'.length := by omega
   have e2 : h2[p]? = some (.lst (pool'.map .str)) := u2.get hpc (by simpa using hip)
   have hp2 := aF e2
   refine ⟨_, .str pool'[r],h2.set p (.lst ((pool'.eraseIdx r).map .str)),rfl, ?_,ws ++ [pool'[r]],pool'.eraseIdx r,by simp,by simp [hw], ?_, ?_,kM hp2, ?_⟩
   ·rw [aG8 (p := p) (ws := pool'.map .str) (h1 := h') (by simp [cG]) hpc]
    have := aAb (r := r) e2 (by simpa using hr) (by simp; omega)
    simp [cG,vP hpc,ed,u2.len,this,mK]
   ·refine hp.trans ?_
    rw [List.append_assoc]
    exact (rE hr).append_left ws
   ·exact (es.up (Up.set (is := [p]) (by simp)) (by simpa using fun z => hip z.symm)).mono (by omega)
   ·exact u.trans ((u2.mono (by simp)).trans (.set (by simp)))
   )
 refine ⟨ws,pool',h',hw.trans (by simp),hp,by simpa using hs,hpc,u, ?_⟩
 simp [jL,aT,e1]
end LW
end
section
namespace LW
open PV PySem PySem.Spec PyProof.Rows L2
theorem aDl (k : Nat) {h : Hh} {i p s f c : Nat} {pool st fo : List Str} {ops : List Opr} (I : OpI pool (fun b => if b = true then st else fo) ops) (e : Sr h i c) (ep : h[p]? = some (.lst (pool.map .str))) (es : h[s]? = some (.lst (st.map .str))) (ef : h[f]? = some (.lst (fo.map .str)))
  (hd : [i,p,s,f].Nodup) (hl : 3 <= pool.length) (hl2 : pool.length < 1000) (hst : st.length < 1000) (hfo : fo.length < 1000) (hc : c + 7 < 1000000000) :
  ∃ (o : Opr) (pool' st' fo' : List Str) (h' : Hh),OpI pool' (fun b => if b = true then st' else fo') (ops ++ [o]) /\ pool.length <= pool'.length + 3 /\ pool'.length <= pool.length /\ st'.length <= st.length + 1 /\ fo'.length <= fo.length + 1 /\ Sr h' i (c + 7) /\ h'[p]? = some (.lst (pool'.map .str)) /\ h'[s]? = some (.lst (st'.map .str)) /\ h'[f]? = some (.lst (fo'.map .str)) /\ Up [i,p,s,f] h h' /\ aM T (k + 3) gE [.ref i, .ref p, .ref s, .ref f] h = .ok o.enc h' := by
 obtain ⟨hip,his,hif,hps,hpf,hsf⟩ : i ≠ p /\ i ≠ s /\ i ≠ f /\ p ≠ s /\ p ≠ f /\ s ≠ f := by simpa [and_assoc] using hd
 rw [dF (d := ⟨8,4,cW⟩) rfl]
 -- the kind
 obtain ⟨w1,h1,hw1,e1,u1,q1⟩ := xI k (ws := [.str "infix", .str "infix", .str "infix", .str "prefix", .str "prefix", .str "postfix", .str "closed"]) e (by decide) (by decide) (by omega) (fun w hw n => by
  simp at hw; rcases hw with rfl | rfl | rfl | rfl <;> rfl)
 obtain ⟨kd,rfl,hkd⟩ : ∃ kd,w1 = D.str kd /\ kd ∈ kinds := by
  simp at hw1; rcases hw1 with rfl | rfl | rfl | rfl
  ·exact ⟨_,rfl,by decide +kernel⟩
  ·exact ⟨_,rfl,by decide +kernel⟩
  ·exact ⟨_,rfl,by decide +kernel⟩
  ·exact ⟨_,rfl,by decide +kernel⟩
 have ep1 := u1.get ep (by simpa using fun z => hip z.symm)
 have es1 := u1.get es (by simpa using fun z => his z.symm)
 have ef1 := u1.get ef (by simpa using fun z => hif z.symm)
 -- how many words
 have heq : ∀ h,eqW (.str kd) (.str "closed") h = .ok (.bl (decide (kd = "closed"))) h := fun h => uK
 generalize hcb : decide (kd = "closed") = cb at heq
 obtain ⟨n,h2,hn1,hn3,hn2,e2,u2,q2⟩ : ∃ (n : Nat) (h2 : Hh),1 <= n /\ n <= 3 /\ (kd = "closed" -> 2 <= n) /\ Sr h2 i (c + 2) /\ Up [i] h1 h2 /\ (if cb = true then gcR h1 (aM T (k + 2) bH [.ref i, .ref h1.length] (h1 ++ [.lst [.int 2, .int 2, .int 3]])) else gcR h1 (aM T (k + 2) bH [.ref i, .ref h1.length] (h1 ++ [.lst [.int 1, .int 1, .int 1, .int 1, .int 2, .int 3]]))) = .ok (.int n) h2 := by
  by_cases hk : cb = true
  ·obtain ⟨w,h2,hw,e2,u2,q2⟩ := xI k (ws := [.int 2, .int 2, .int 3]) e1 (by decide) (by decide) (by omega) (fun w hw n => by
    simp at hw; rcases hw with rfl | rfl <;> rfl)
   simp at hw
   rcases hw with rfl | rfl
   ·exact ⟨2,h2,by omega,by omega,fun _ => by omega,e2,u2,by rw [if_pos hk]; exact q2⟩
   ·exact ⟨3,h2,by omega,by omega,fun _ => by omega,e2,u2,by rw [if_pos hk]; exact q2⟩
  ·obtain ⟨w,h2,hw,e2,u2,q2⟩ := xI k (ws := [.int 1, .int 1, .int 1, .int 1, .int 2, .int 3]) e1 (by decide) (by decide) (by omega) (fun w hw n => by
    simp at hw; rcases hw with rfl | rfl | rfl <;> rfl)
   simp at hw
   rcases hw with rfl | rfl | rfl
   ·exact ⟨1,h2,by omega,by omega,fun z => absurd (by rw [<- hcb,z]; exact decide_eq_true rfl) hk,e2,u2,by rw [if_neg hk]; exact q2⟩
   ·exact ⟨2,h2,by omega,by omega,fun z => absurd (by rw [<- hcb,z]; exact decide_eq_true rfl) hk,e2,u2,by rw [if_neg hk]; exact q2⟩
   ·exact ⟨3,h2,by omega,by omega,fun z => absurd (by rw [<- hcb,z]; exact decide_eq_true rfl) hk,e2,u2,by rw [if_neg hk]; exact q2⟩
 have ep2 := u2.get ep1 (by simpa using fun z => hip z.symm)
 have es2 := u2.get es1 (by simpa using fun z => his z.symm)
 have ef2 := u2.get ef1 (by simpa using fun z => hif z.symm)
 -- the words
 obtain ⟨ws,pool',h3,hwl,pm,e3,ep3,u3,q3⟩ := aHt k (n := n) e2 ep2 (fun z => hip z.symm) (by omega) (by omega) (by omega)
 have es3 := u3.get es2 (by simpa using ⟨fun z => his z.symm,fun z => hps z.symm⟩)
 have ef3 := u3.get ef2 (by simpa using ⟨fun z => hif z.symm,fun z => hpf z.symm⟩)
 have pl := pm.length_eq
 rw [List.length_append] at pl
 obtain ⟨x,r,rfl⟩ : ∃ x r,ws = x :: r := by
  cases ws with
  | nil => simp at hwl; omega
  | cons x r => exact ⟨x,r,rfl⟩
 have q3' := kF u3 (w := .tup ((x :: r).map .str)) (by simp)
 simp only [List.map_cons] at q3 q3'
 have hin : ∀ h3,_ := fun h3 => vN (h := h3) (x := kd) (ss := [("prefix" : Str),"closed"]) (iM kd hkd) (by decide +kernel)
 simp only [List.map_cons,List.map_nil] at hin
 have wi := (I.split pm).2.2.2.1
 have pw0 : ∀ y ∈ x :: r,y ∈ kZ := fun y hy => y0 (I.p0 y (wi y hy))
 have sto : ∀ y ∈ st,y ∈ kZ := fun y hy => by
  obtain ⟨o,ho,hw⟩ := lR (I.si true y (by simpa using hy)); exact (I.oo.ok o ho).w0 y hw
 have foo : ∀ y ∈ fo,y ∈ kZ := fun y hy => by
  obtain ⟨o,ho,hw⟩ := lR (I.si false y (by simpa using hy)); exact (I.oo.ok o ho).w0 y hw
 generalize hS : decide (kd ∈ [("prefix" : Str),"closed"]) = S at hin
 have okO : ∀ y,y ∈ kZ -> OprOk ⟨kd,y :: r⟩ := fun y hy => ⟨hkd,by simp,by simp at hwl ⊢; omega,fun z => by have := hn2 z; simp at hwl ⊢; omega,fun z hz => by
  rcases List.mem_cons.mp hz with hz | hz
  ·rw [hz]; exact hy
  ·exact pw0 z (by simp [hz])⟩
 have SS : ∀ y,Opr.S ⟨kd,y :: r⟩ = S := fun y => hS
 -- the words of the other role
 obtain ⟨g,shl,hg,esh,shok,hgi,hgp⟩ : ∃ (g : Nat) (shl : List Str),g = (if S = true then f else s) /\ h3[g]? = some (.lst (shl.map .str)) /\ shl = (if S = true then fo else st) /\ g ≠ i /\ g ≠ p := by
  cases S
  ·exact ⟨s,st,rfl,es3,rfl,fun z => his z.symm,fun z => hps z.symm⟩
  ·exact ⟨f,fo,rfl,ef3,rfl,fun z => hif z.symm,fun z => hpf z.symm⟩
 have sh0 : ∀ y ∈ shl,y ∈ kZ := by rw [shok]; split <;> assumption
 have hne := aHP esh fun y hy => rT y (sh0 y hy)
 have shl2 : shl.length < 1000 := by rw [shok]; split <;> assumption
 have hp' : p ∉ [i] := by simpa using fun z => hip z.symm
 have u03 : Up [i,p,s,f] h h3 := (u1.mono (by simp)).trans ((u2.mono (by simp)).trans (u3.mono (by simp)))
 have app : ∀ h4,Sr h4 i (c + 7) -> h4[p]? = some (.lst (pool'.map .str)) -> h4[s]? = some (.lst (st.map .str)) -> h4[f]? = some (.lst (fo.map .str)) -> Up [i,p,s,f] h h4 ->
   ∃ (st' fo' : List Str) (h' : Hh),OpI pool' (fun b => if b = true then st' else fo') (ops ++ [⟨kd,x :: r⟩]) /\ st'.length <= st.length + 1 /\ fo'.length <= fo.length + 1 /\ Sr h' i (c + 7) /\ h'[p]? = some (.lst (pool'.map .str)) /\ h'[s]? = some (.lst (st'.map .str)) /\ h'[f]? = some (.lst (fo'.map .str)) /\ Up [i,p,s,f] h h' /\ (if S = true then hW (.ref s) (.str x) h4 else hW (.ref f) (.str x) h4) = .ok .non h' := by
  intro h4 e4 ep4 es4 ef4 u4
  have I4 := I.add pm (okO x (pw0 x (by simp)))
  rw [SS x] at I4
  cases S with
  | true =>
   refine ⟨st ++ [x],fo,h4.set s (.lst ((st ++ [x]).map .str)), ?_,by simp,by simp,e4.up (Up.set (is := [s]) (by simp)) (by simpa using his),by rw [dY (fun z => hps z.symm)]; exact ep4,kM (aF es4),by rw [dY hsf]; exact ef4,u4.trans (.set (by simp)), ?_⟩
   ·exact I4.congr fun b => by cases b <;> rfl
   ·rw [if_pos rfl,qT es4 (by simp [sizeLine]; omega) rfl]
    simp
  | false =>
   refine ⟨st,fo ++ [x],h4.set f (.lst ((fo ++ [x]).map .str)), ?_,by simp,by simp,e4.up (Up.set (is := [f]) (by simp)) (by simpa using hif),by rw [dY (fun z => hpf z.symm)]; exact ep4,by rw [dY (fun z => hsf z.symm)]; exact es4,kM (aF ef4),u4.trans (.set (by simp)), ?_⟩
   ·exact I4.congr fun b => by cases b <;> rfl
   ·rw [if_neg (by simp),qT ef4 (by simp [sizeLine]; omega) rfl]
    simp
 have hgi' : ∀ h : Hh,(if S = true then R.ok (D.ref f) h else R.ok (D.ref s) h) = R.ok (D.ref g) h := fun h => by rw [hg]; cases S <;> rfl
 by_cases hemp : shl = []
 ·obtain ⟨st',fo',h',I',l1,l2,e',ep',es',ef',u',q'⟩ := app h3 (e3.mono (by omega)) ep3 es3 ef3 u03
  refine ⟨⟨kd,x :: r⟩,pool',st',fo',h',I',by simp at pl hwl; omega,by omega,l1,l2,e',ep',es',ef',u', ?_⟩
  have tm : tyM h3 (.ref s) = some "list" := nL es3
  have tf : tyM h3 (.ref f) = some "list" := nL ef3
  simp [-uK,cW,aT,heq,q1,q2,q3,q3',hin,hne,hemp,hgi']
  cases S
  ·simp at q'
   simp [q',tf,Opr.enc]
  ·simp at q'
   simp [q',tm,Opr.enc]
 ·obtain ⟨d4,h4,hd4,e4,u4,q4⟩ := kQ (k + 1) (n := 4) e3 (by decide) (by decide) (by omega)
  have ep4 := u4.get ep3 hp'
  have es4 := u4.get es3 (by simpa using fun z => his z.symm)
  have ef4 := u4.get ef3 (by simpa using fun z => hif z.symm)
  have u04 : Up [i,p,s,f] h h4 := u03.trans (u4.mono (by simp))
  have q4' := kF u4 (w := .int d4) (by simp)
  have heq2 : ∀ h,eqW (.int d4) (.int 0) h = .ok (.bl (decide (d4 = 0))) h := fun h => by rw [nB]; simp
  generalize hz : decide (d4 = 0) = z4 at heq2
  cases z4 with
  | false =>
   obtain ⟨st',fo',h',I',l1,l2,e',ep',es',ef',u',q'⟩ := app h4 (e4.mono (by omega)) ep4 es4 ef4 u04
   refine ⟨⟨kd,x :: r⟩,pool',st',fo',h',I',by simp at pl hwl; omega,by omega,l1,l2,e',ep',es',ef',u', ?_⟩
   have tm : tyM h4 (.ref s) = some "list" := nL es4
   have tf : tyM h4 (.ref f) = some "list" := nL ef4
   simp [-uK,cW,aT,heq,q1,q2,q3,q3',hin,hne,hemp,hgi',q4,q4',heq2]
   cases S
   ·simp at q'
    simp [q',tf,Opr.enc,hin]
   ·simp at q'
    simp [q',tm,Opr.enc,hin]
  | true =>
   have sh4 := u4.get esh (by simpa using hgi)
   obtain ⟨d5,h5,hd5,e5,u5,q5⟩ := kQ (k + 1) (n := (shl.length : Int)) e4 (by have := List.length_pos_iff.mpr hemp; omega) (by omega) (by omega)
   have hd5' : d5 < shl.length := by omega
   have sh5 := u5.get sh4 (by simpa using hgi)
   have q5' := kF u5 (w := .int d5) (by simp)
   have pq := aAb (r := d5) sh5 (by simpa using hd5') (by simp; omega)
   have tg : tyM h4 (.ref g) = some "list" := nL sh4
   have I5 := I.share (x := shl[d5]) (z := x) (rest := shl.eraseIdx d5) pm (okO _ (sh0 _ (List.getElem_mem _))) (by
    rw [SS]
    have e0 : (if (!S) = true then st else fo) = shl := by rw [shok]; cases S <;> rfl
    show (if (!S) = true then st else fo).Perm _
    rw [e0]
    exact rE hd5')
   rw [SS] at I5
   have hin5 : ∀ h3,inW (D.str kd) (D.tup [D.str "prefix",D.str "closed"]) h3 = R.ok (D.bl S) h3 := hin
   have fin : aM T (k + 3) gE [.ref i, .ref p, .ref s, .ref f] h = .ok (Opr.enc ⟨kd,shl[d5] :: r⟩) (h5.set g (.lst ((shl.eraseIdx d5).map .str))) := by
    rw [dF (d := ⟨8,4,cW⟩) rfl]
    simp [-uK,cW,aT,heq,q1,q2,q3,q3',hin,hne,hemp,hgi',q4,q4',heq2,tg,q5,q5',vP sh4,pq,mK]
    have hr3 : r.length <= 3 := by simp at hwl; omega
    simp [aLG,aFC (xs := [D.str shl[d5]]) (ys := r.map .str) (by simp; omega),Opr.enc]
   have g5 : g = s \/ g = f := by rw [hg]; cases S <;> simp
   have u05 : Up [i,p,s,f] h (h5.set g (.lst ((shl.eraseIdx d5).map .str))) := u04.trans ((u5.mono (by simp)).trans (.set (by rcases g5 with z | z <;> simp [z])))
   have e5' : Sr (h5.set g (.lst ((shl.eraseIdx d5).map .str))) i (c + 7) := (e5.up (Up.set (is := [g]) (by simp)) (by simpa using fun z => hgi z.symm)).mono (by omega)
   have ep5 := u5.get ep4 hp'
   have es5 := u5.get es4 (by simpa using fun z => his z.symm)
   have ef5 := u5.get ef4 (by simpa using fun z => hif z.symm)
   have ll : (shl.eraseIdx d5).length <= shl.length := by rw [List.length_eraseIdx]; split <;> omega
   cases S with
   | true =>
    have hg' : g = f := hg
    have sk' : shl = fo := shok
    refine ⟨⟨kd,shl[d5] :: r⟩,pool',st,shl.eraseIdx d5,_, ?_,by simp at pl hwl; omega,by omega,by omega,by rw [<- sk']; omega,e5', ?_, ?_, ?_,u05,fin⟩
    ·exact I5.congr fun b => by cases b <;> rfl
    ·rw [dY hgp]; exact ep5
    ·rw [hg',dY (fun z => hsf z.symm)]; exact es5
    ·rw [<- hg']; exact kM (aF sh5)
   | false =>
    have hg' : g = s := hg
    have sk' : shl = st := shok
    refine ⟨⟨kd,shl[d5] :: r⟩,pool',shl.eraseIdx d5,fo,_, ?_,by simp at pl hwl; omega,by omega,by rw [<- sk']; omega,by omega,e5', ?_, ?_, ?_,u05,fin⟩
    ·exact I5.congr fun b => by cases b <;> rfl
    ·rw [dY hgp]; exact ep5
    ·rw [<- hg']; exact kM (aF sh5)
    ·rw [hg',dY hsf]; exact ef5
end LW
end
section
namespace LW
open PV PySem PySem.Spec PyProof.Rows L2
theorem aAR (k : Nat) {h : Hh} {i c most : Nat} (e : Sr h i c) (hm : most <= 12) (hc : c + 100 < 1000000000) :
  ∃ (ops : List Opr) (h' : Hh),(∀ o ∈ ops,∀ x ∈ o.words,x ∈ iZ) /\ OpsOk ops /\ ops.length <= most /\ Sr h' i (c + 100) /\ Ux [i] h h' /\ aM T (k + 4) dB [.ref i, .int most] h = .ok (.tup (ops.map Opr.enc)) h' := by
 rw [dF (d := ⟨6,2,fK⟩) rfl]
 have el := e.lt
 generalize hB : h ++ [Cl.lst (((jQ ++ jR) ++ mX).map .str), .lst (iZ.map .str), .lst [], .lst []] = B
 have lB : B.length = h.length + 4 := by rw [<- hB]; simp
 have eB : Sr B i c := by rw [<- hB]; exact e.app
 have eBp : B[h.length + 1]? = some (.lst (iZ.map .str)) := by rw [<- hB]; exact aFE
 have eBs : B[h.length + 2]? = some (.lst []) := by rw [<- hB]; exact aEm
 have eBf : B[h.length + 3]? = some (.lst []) := by rw [<- hB]; simp [List.getElem?_append_right]
 obtain ⟨n,h1,hn,e1,u1,q1⟩ := kQ (k + 2) (n := (most : Int) + 1) eB (by omega) (by omega) (by omega)
 have q1' := kF u1 (w := .int n) (by simp)
 have ep1 := u1.get eBp (by simp; omega)
 have es1 := u1.get eBs (by simp; omega)
 have ef1 := u1.get eBf (by simp; omega)
 have l1 := u1.len
 obtain ⟨acc,h2,q2,hlen,ops,pool,st,fo,rfl,hol,I,hpl,hpl2,hst,hfo,e2,ep2,es2,ef2,u2⟩ := aEL (mi := iO (aR (aM T (k + 3)) aQ (aA [(mV 0),(mOp bP (mV 1) (mC (.int 1)))]))) (t := .nm 5) (me := aR (aM T (k + 3)) gE (aA [(mV 0),(mV 2),(mV 3),(mV 4)])) (vs := [5])
  (σ := [some (.ref i),some (.int most),some (.ref (h.length + 1)),some (.ref (h.length + 2)),some (.ref (h.length + 3)),none]) (h := B) (h1 := h1) (src := pP 0 n) (ws := (List.range n).map fun (i : Nat) => D.int (0 + (i : Nat)))
  (fun j acc h' => ∃ ops pool st fo,acc = ops.map Opr.enc /\ ops.length = j /\ OpI pool (fun b => if b = true then st else fo) ops /\ 44 <= pool.length + 3 * j /\ pool.length <= 44 /\ st.length <= j /\ fo.length <= j /\ Sr h' i (c + 1 + 7 * j) /\ h'[h.length + 1]? = some (.lst (pool.map .str)) /\ h'[h.length + 2]? = some (.lst (st.map .str)) /\ h'[h.length + 3]? = some (.lst (fo.map .str)) /\ Up [i,h.length + 1,h.length + 2,h.length + 3] h1 h')
  (rQ (by simp [q1,q1']) (by omega)) (fun j acc h' _ => qF j) (by simp only [List.length_map,List.length_range]; exact szl (by omega))
  ⟨[],iZ,[],[],rfl,rfl,OpI.start.congr fun b => by cases b <;> rfl,by decide,by decide,by simp,by simp,e1,ep1,es1,ef1, .rfl'⟩ (by
   rintro j w acc h' ⟨ops,pool,st,fo,rfl,hol,I,hpl,hpl2,hst,hfo,e2,ep2,es2,ef2,u2⟩ _ ej
   have hj := aF ej
   simp at hj
   obtain ⟨o,pool',st',fo',h3,I3,hp3,hp3',hst3,hfo3,e3,ep3,es3,ef3,u3,q3⟩ := aDl k I e2 ep2 es2 ef2 (by simp; omega) (by omega) (by omega) (by omega) (by omega) (by omega)
   have q3' := kF u3 (w := o.enc) o.enc_lim
   refine ⟨_,o.enc,h3,rfl, ?_,ops ++ [o],pool',st',fo',by simp,by simp [hol],I3,by omega,by omega,by omega,by omega,e3.mono (by omega),ep3,es3,ef3,u2.trans u3⟩
   simp [cG,q3,q3'])
 simp only [List.length_map,List.length_range] at hol hpl hst hfo e2 q2
 refine ⟨ops,h2,I.wy,I.oo,by omega,e2.mono (by omega), ?_, ?_⟩
 ·have ub : Ux [i] h B := by rw [<- hB]; exact .app
  refine ⟨by have := u2.len; omega,fun j hj hm => ?_⟩
  rw [u2.same j (by simp at hm ⊢; omega),u1.same j hm,ub.same j hj hm]
 ·have elist : ∀ h : Hh,jO (.str "!\u0023$&*+,-./:;<=>?\u0040[]^_{|}~") h = .ok (.tl ((jQ ++ jR).map .str)) h := fun h => by rfl
  have a1 : ∀ h : Hh,bP (.tl ((jQ ++ jR).map .str)) (.tl [D.str "if",D.str "then",D.str "else",D.str "and",D.str "or",D.str "not",D.str "is",D.str "z9"]) h = .ok (.tl (((jQ ++ jR) ++ mX).map .str)) h := fun h => by rfl
  have a2 : ∀ h : Hh,bP (.ref h.length) (.tl [D.str "--",D.str "**",D.str "lengthy8",D.str "of",D.str "in",D.str "to",D.str "by",D.str "=>",D.str "((",D.str "f(",D.str ")x"]) (h ++ [.lst (((jQ ++ jR) ++ mX).map .str)]) = .ok (.tl (iZ.map .str)) (h ++ [.lst (((jQ ++ jR) ++ mX).map .str)]) := fun h => by
   have eh : (h ++ [Cl.lst (((jQ ++ jR) ++ mX).map .str)])[h.length]? = some (Cl.lst (((jQ ++ jR) ++ mX).map .str)) := by simp
   have l0 : ((((jQ ++ jR) ++ mX).map D.str).length + [D.str "--",D.str "**",D.str "lengthy8",D.str "of",D.str "in",D.str "to",D.str "by",D.str "=>",D.str "((",D.str "f(",D.str ")x"].length <= sizeLine) := sz (by decide)
   simp only [bP,asT,asM,eh,l0,if_true]
   rfl
  generalize (jQ ++ jR).map D.str = L1 at elist a1
  generalize ((jQ ++ jR) ++ mX).map D.str = L2 at a1 a2 hB
  generalize iZ.map D.str = L3 at a2 hB
  simp [fK,aT,elist,a1,a2,hB,q2]
end LW
end
section
namespace LW
open PV PySem PySem.Spec PyProof.Rows L2
theorem aFJ (k : Nat) {h : Hh} {ns : List Int} {j : Nat} (hj : j <= 3) : ∃ a b : Int,aM T (k + 1) kU [.fl (ns.map .int), .int j] h = .ok (.tl [.int a, .int b, .int 0]) h := by
 rw [dF (d := ⟨4,2,iN⟩) rfl]
 obtain ⟨z,hz,ez,y,hy,ey⟩ := aLm (h := h)
 have m1 : ∀ x : Int,CMul x 1000003 := fun x => aAx (by decide) (by decide)
 have m2 : ∀ x : Int,CMul 7919 x := fun x => aAw (by decide) (by decide)
 have m3 : ∀ x : Int,CMul x (j : Int) := fun x => aAx (by omega) (by omega)
 obtain ⟨cell,ec⟩ : ∃ cell : Int,(if j < ns.length then ixW (.fl (ns.map .int)) (.int j) h else .ok (.int 0) h) = .ok (.int cell) h := by
  split
  ·rename_i hl
   refine ⟨ns[j],aI9 (by simp [hl])⟩
  ·exact ⟨0,rfl⟩
 obtain ⟨ab,eab⟩ : ∃ ab : Int,∀ h,vC (.int cell) h = .ok (.int ab) h := ⟨_,fun h => rfl⟩
 obtain ⟨d,ed⟩ : ∃ d : Int,(if 1000000000000000000 <= ab then R.ok (D.int (ab % y)) h else .ok (.int 0) h) = .ok (.int d) h := by
  split
  ·exact ⟨_,rfl⟩
  ·exact ⟨_,rfl⟩
 refine ⟨d,(cell % 2305843009213693951 * 1000003 + 7919 * j * j + 97) % 2305843009213693921, ?_⟩
 simp [-aIE,iN,aT,ec,eab,aLl,ez,ey,hy,ed,m1,m2,m3]
end LW
end
section
namespace LW
open PV PySem PySem.Spec PyProof.Rows L2
theorem aIL (k : Nat) (o : Opr) (ho : o.kind ∈ kinds) (h : Hh) : aM T (k + 1) gJ [o.enc] h = .ok (.tup [.bl o.L, .bl o.Rr]) h := by
 rw [dF (d := ⟨1,1,gK⟩) rfl]
 have e := vN (h := h) (x := o.kind) (ss := [("infix" : Str),"postfix"]) (iM _ ho) (by decide +kernel)
 have e2 := vN (h := h) (x := o.kind) (ss := [("infix" : Str),"prefix"]) (iM _ ho) (by decide +kernel)
 have ei : ixW o.enc (.int 0) h = .ok (.str o.kind) h := by simp [Opr.enc]
 simp only [List.map_cons,List.map_nil] at e e2
 simp [gK,aT,ei,e,e2,Opr.L,Opr.Rr]
theorem aFI (k : Nat) (o : Opr) (ho : OprOk o) (h : Hh) : aM T (k + 2) cP [o.enc] h = .ok (.int o.holes) h := by
 rw [dF (d := ⟨2,1,eC⟩) rfl]
 have e1 := aIL k o ho.kd h
 have g1 := qA (h := h) (h' := h) (w := .tup [.bl o.L, .bl o.Rr]) rfl (by simp)
 have ei : ixW o.enc (.int 1) h = .ok (.tup (o.words.map .str)) h := by simp [Opr.enc]
 have lc := aBg (mi := miE (aR (aM T (k + 1)) gJ (aA [(mV 0)]))) (t := .nm 1) (me := mF1 nS (mV 1)) (vs := [1]) (σ := [some o.enc,none]) (h := h) (h1 := h) (src := zE [.bl o.L, .bl o.Rr]) (ws := [.bl o.L, .bl o.Rr]) (fun w => match w with | .bl b => .int (if b then 1 else 0) | w => w)
  (by simp [miE,e1,g1,lD,asT]) (fun j => rfl) (by simp; exact szl (by omega)) (fun w hw => by
   simp at hw
   rcases hw with rfl | rfl
   ·exact ⟨_,rfl,by simp [cG],rfl⟩
   ·exact ⟨_,rfl,by simp [cG],rfl⟩)
 simp only [List.map_cons,List.map_nil] at lc
 have l1 := ho.l1
 have es : ∀ a b : Int,tY (.tl [.int a, .int b]) h = .ok (.int (a + b)) h := fun a b => by simp [tY,asL,aK,toI]
 simp only [eC,aT,List.map_cons,List.map_nil,List.length_cons,List.length_nil,if_true,vV,aEN,tN,aJe,aDJ,R.bind_ok,ei,aGb,aKv,List.replicate,List.cons_append,List.nil_append,Nat.reduceAdd,Nat.reduceSub,List.length_map]
 erw [lc]
 simp only [R.bind_ok,es,aIF,R.then_ok,aGn,Opr.holes]
 congr 2
 split <;> split <;> omega
end LW
end
section
namespace LW
open PV PySem PySem.Spec PyProof.Rows L2
def hE (cl : Cll) : MS :=
 (aN (dD (gR (mB (mOp eqW (mV 1) (bM (aA [])))) (gR (mB (mOp leW (mOp ixW (mV 2) (mC (.int 0))) (mC (.int 0)))) (gR (mB (mOp eqW (mV 3) (mC (.int 0)))) (mB (mOp eqW (aR cl aQ (aA [(mV 0),(mC (.int 4))])) (mC (.int 0))))))) (bA (aR cl bH (aA [(mV 0),(dJ (aA [(mC (.str "a")),(mC (.str "b")),(mC (.str "x1")),(mC (.str "7")),(mC (.str "abcdefgh"))]))]))) cJ)
  (aN (lS (mOp kD (mOp ixW (mV 2) (mC (.int 0))) (mC (.int 1))) (mV 2) (mC (.int 0)))
  (aN (bI (.tu [(.nm 4),(.nm 5)]) (bM (aA [(aR cl aQ (aA [(mV 0),(mF1 bW (mV 1))])),(dJ (aA []))])))
  (aN (kY (iO (aR cl cP (aA [(mOp ixW (mV 1) (mV 4))]))) (.nm 6) (jN cl))
  (bA (mOp bP (bM (aA [(mV 4)])) (mF1 hV (mV 5))))))))
def nE (cl : Cll) : MS := (dD (kW (mB (mOp gtW (mOp ixW (mV 2) (mC (.int 1))) (mC (.int 0)))) (kW (mB (mOp gtW (mV 3) (mC (.int 0)))) (mB (mOp eqW (aR cl aQ (aA [(mV 0),(mC (.int 6))])) (mC (.int 0)))))) (aN (lS (mOp kD (mOp ixW (mV 2) (mC (.int 1))) (mC (.int 1))) (mV 2) (mC (.int 1)))
  (bA (bM (aA [(mC (.str "(")),(aR cl gA (aA [(mV 0),(mV 1),(mV 2),(mOp kD (mV 3) (mC (.int 1)))]))])))) cJ)
theorem jK (cl : Cll) : iD cl = aN (nE cl) (hE cl) := rfl
abbrev idp (s : Str) : Prop := s ∈ dW
theorem aAD {ops : List Opr} {s : Str} {a b : Nat} (h : s ∈ dW) : (Tr.leaf s).okG ops a b := ⟨h,by simp [Tr.nds],by simp [Tr.grs]⟩
/-- what one call of grown does -/
def uI (ops : List Opr) (d m : Nat) : Prop := ∀ ⦃h : Hh⦄ ⦃i q c N G : Nat⦄,Sr h i c -> h[q]? = some (.lst [.int N, .int G]) -> i ≠ q -> c + 3 * (1 + G + 4 * N) < 1000000000 ->
 ∃ (t : Tr) (N' G' : Nat) (h' : Hh),N' <= N /\ G' <= G /\ t.okG ops (N - N') (G - G') /\ t.depth <= d /\ Sr h' i (c + 3 * (1 + (G - G') + 4 * (N - N'))) /\ h'[q]? = some (.lst [.int N', .int G']) /\ Ux [i,q] h h' /\ aM T m gA [.ref i, .tup (ops.map Opr.enc), .ref q, .int d] h = .ok t.enc h'
theorem xK (k : Nat) {h : Hh} {i c : Nat} (e : Sr h i c) (hc : c < 1000000000) : ∃ s h',s ∈ dW /\ Sr h' i (c + 1) /\ Up [i] h h' /\ gcR h (aM T (k + 2) bH [.ref i, .ref h.length] (h ++ [.lst [.str "a", .str "b", .str "x1", .str "7", .str "abcdefgh"]])) = .ok (.str s) h' := by
 obtain ⟨w,h',hw,e',u,q⟩ := xI k (ws := [.str "a", .str "b", .str "x1", .str "7", .str "abcdefgh"]) e (by decide) (by decide) hc (fun w hw n => by
  simp at hw; rcases hw with rfl | rfl | rfl | rfl | rfl <;> rfl)
 simp only [List.mem_cons,List.not_mem_nil,or_false] at hw
 rcases hw with rfl | rfl | rfl | rfl | rfl
 ·exact ⟨_,h',by decide +kernel,e',u,q⟩
 ·exact ⟨_,h',by decide +kernel,e',u,q⟩
 ·exact ⟨_,h',by decide +kernel,e',u,q⟩
 ·exact ⟨_,h',by decide +kernel,e',u,q⟩
 ·exact ⟨_,h',by decide +kernel,e',u,q⟩
/-- a leaf -/
theorem rH (k : Nat) {ops : List Opr} (O : OpsOk ops) {d : Nat} {h : Hh} {i q c N G : Nat} (e : Sr h i c) (eq : h[q]? = some (.lst [.int N, .int G])) (hiq : i ≠ q) (hc : c + 2 < 1000000000) (hz : ops = [] \/ N = 0 \/ d = 0) :
  ∃ s h',s ∈ dW /\ Sr h' i (c + 2) /\ h'[q]? = some (.lst [.int N, .int G]) /\ Up [i,q] h h' /\ hE (aM T (k + 2)) [some (.ref i),some (.tup (ops.map Opr.enc)),some (.ref q),some (.int d),none,none,none] h = .ret (.str s) h' := by
 obtain ⟨s,h',hs,e',u,qp⟩ := xK k e (by omega)
 refine ⟨s,h',hs,e'.mono (by omega),u.get eq (by simpa using fun z => hiq z.symm),u.mono (by simp), ?_⟩
 have e0 := aA0 (h := h) O
 have ix : ixW (.ref q) (.int 0) h = .ok (.int N) h := nT (n := 0) eq rfl
 have ed : eqW (.int (d : Int)) (.int 0) h = .ok (.bl (decide (d = 0))) h := by rw [nB]; congr 2; simp
 rcases hz with hz | hz | hz
 ·subst hz
  simp at e0
  simp [hE,e0,qp]
 ·subst hz
  cases ho : ops.isEmpty <;> simp [hE,e0,ho,ix,qp]
 ·subst hz
  simp only [decide_true] at ed
  have hN : ¬ (N = 0) \/ N = 0 := by omega
  cases ho : ops.isEmpty
  ·rcases hN with hN | hN
   ·simp [hE,e0,ho,ix,qp,nB,hN]
   ·simp [hE,e0,ho,ix,qp,hN]
  ·simp [hE,e0,ho,ix,qp]
/-- a node or a leaf,in the middle of the body -/
theorem aDz (k : Nat) {ops : List Opr} (O : OpsOk ops) (hol : ops.length <= 12) {d : Nat} (ih : uI ops d (k + 2)) {h : Hh} {i q c N G : Nat} (e : Sr h i c) (eq : h[q]? = some (.lst [.int (N + 1 : Nat), .int G])) (hiq : i ≠ q) (hne : ops ≠ []) (hc : c + 2 + 3 * (G + 4 * (N + 1)) < 1000000000) :
  ∃ (t : Tr) (N' G' : Nat) (h' : Hh),N' <= N + 1 /\ G' <= G /\ t.okG ops (N + 1 - N') (G - G') /\ t.depth <= d + 1 /\ Sr h' i (c + 2 + 3 * ((G - G') + 4 * (N + 1 - N'))) /\ h'[q]? = some (.lst [.int N', .int G']) /\ Ux [i,q] h h' /\ hE (aM T (k + 2)) [some (.ref i),some (.tup (ops.map Opr.enc)),some (.ref q),some (.int (d + 1 : Nat)),none,none,none] h = .ret t.enc h' := by
 have e0 := aA0 (h := h) O
 have ho : ops.isEmpty = false := by cases ops <;> simp_all
 rw [ho] at e0
 have ix : ixW (.ref q) (.int 0) h = .ok (.int (N + 1 : Nat)) h := nT (n := 0) eq rfl
 have le0 : leW (.int ((N + 1 : Nat) : Int)) (.int 0) h = .ok (.bl false) h := by rw [aG6]; congr 2
 have ed : eqW (.int ((d + 1 : Nat) : Int)) (.int 0) h = .ok (.bl false) h := by rw [nB]; congr 2
 obtain ⟨r,h1,hr,e1,u1,q1⟩ := kQ (k + 1) (n := 4) e (by decide) (by decide) (by omega)
 have g1 := kF u1 (w := .int r) (by simp)
 have eq1 := u1.get eq (by simpa using fun z => hiq z.symm)
 have er : eqW (.int (r : Int)) (.int 0) h1 = .ok (.bl (decide (r = 0))) h1 := by rw [nB]; congr 2; simp
 generalize hz : decide (r = 0) = z at er
 generalize hd1 : ((d + 1 : Nat) : Int) = d1 at ed
 generalize hN1 : ((N + 1 : Nat) : Int) = n1 at ix le0 eq1 eq
 cases z with
 | true =>
  obtain ⟨s,h2,hs,e2,u2,q2⟩ := xK k e1 (by omega)
  refine ⟨.leaf s,N + 1,G,h2,by omega,by omega,aAD hs,by simp [Tr.depth],e2.mono (by omega),by rw [hN1]; exact u2.get eq1 (by simpa using fun z => hiq z.symm),((u1.trans u2).mono (by simp)).ux, ?_⟩
  simp [hE,e0,ix,le0,ed,q1,g1,er,q2,Tr.enc]
 | false =>
  -- the node
  have hlen : 0 < ops.length := List.length_pos_iff.mpr hne
  have l1 := aF eq1
  have set1 : pO (.ref q) (.int 0) (.int (n1 - 1)) h1 = some (h1.set q (.lst [.int (n1 - 1), .int G])) := by
   simp [pO,fD,eq1,ixN,D.isTl]
  have ix1 : ixW (.ref q) (.int 0) h1 = .ok (.int n1) h1 := nT (n := 0) eq1 rfl
  have nn : n1 - 1 = (N : Int) := by omega
  have e2 : Sr (h1.set q (.lst [.int (n1 - 1), .int G])) i (c + 1) := e1.up (Up.set (is := [q]) (by simp)) (by simpa using hiq)
  have eq2 : (h1.set q (.lst [.int (n1 - 1), .int G]))[q]? = some (.lst [.int (N : Nat), .int G]) := by rw [nn]; exact kM l1
  have u2 : Up [i,q] h (h1.set q (.lst [.int (n1 - 1), .int G])) := (u1.mono (by simp)).trans (.set (by simp))
  generalize h1.set q (.lst [.int (n1 - 1), .int G]) = h2 at set1 e2 eq2 u2
  obtain ⟨n,h3,hn,e3,u3,q3⟩ := kQ (k + 1) (n := (ops.length : Int)) e2 (by omega) (by omega) (by omega)
  have g3 := kF u3 (w := .int n) (by simp)
  have hn' : n < ops.length := by omega
  obtain ⟨o,eo⟩ : ∃ o,ops[n]? = some o := ⟨_,List.getElem?_eq_getElem hn'⟩
  have ho1 := O.ok o (List.mem_of_getElem? eo)
  have eq3 := u3.get eq2 (by simpa using fun z => hiq z.symm)
  have hh := vM ho1
  have u03 : Up [i,q] h h3 := u2.trans (u3.mono (by simp))
  have l3 := aF eq3
  have li3 := e3.lt
  -- the parts
  have ixn : ∀ h,ixW (.tup (ops.map Opr.enc)) (.int (n : Int)) h = .ok o.enc h := fun h => aJb (by rw [List.getElem?_map,eo]; rfl)
  have hol4 := aFI k o ho1 (h3 ++ [.lst []])
  obtain ⟨σ4,h4,q4,a6,ts,N',G',es,htl,hN',hG',tok,tnd,tgr,tdp,sr4,eq4,ep4,u4⟩ := aGe (mi := iO (aR (aM T (k + 2)) cP (aA [(mOp ixW (mV 1) (mV 4))]))) (src := pP 0 o.holes) (t := .nm 6) (b := jN (aM T (k + 2))) (ws := (List.range o.holes).map fun (i : Nat) => D.int (0 + (i : Nat)))
   (σ := [some (.ref i),some (.tup (ops.map Opr.enc)),some (.ref q),some (.int d1),some (.int n),some (.ref h3.length),none]) (h := h3 ++ [.lst []]) (h1 := h3 ++ [.lst []])
   (fun j σ h' => ∃ a6 ts N' G',σ = [some (.ref i),some (.tup (ops.map Opr.enc)),some (.ref q),some (.int d1),some (.int n),some (.ref h3.length),a6] /\ ts.length = j /\ N' <= N /\ G' <= G /\ Tr.oks ops idp ts /\ Tr.ndss ts + N' <= N /\ Tr.grss ts + G' <= G /\ Tr.depths ts <= d /\ Sr h' i (c + 2 + 3 * (j + (G - G') + 4 * (N - N'))) /\ h'[q]? = some (.lst [.int (N' : Nat), .int (G' : Nat)]) /\ h'[h3.length]? = some (.lst (Tr.encs ts)) /\ Up [i,q,h3.length] (h3 ++ [.lst []]) h')
   (rQ (n := o.holes) (by simp [ixn,hol4]) (by omega)) (fun j σ h' _ => qF j)
   (by
    rintro j w σ h' ⟨a6,ts,N',G',rfl,htl,hN',hG',tok,tnd,tgr,tdp,sr,eq',ep,u⟩ ej
    have hj := aF ej
    simp at hj
    obtain ⟨t,N2,G2,h5,hN2,hG2,tk,td,sr5,eq5,u5,q5⟩ := ih sr eq' hiq (by omega)
    have lp := aF ep
    obtain ⟨h6,g6,u6,sr6,eq6⟩ := aG2 (e := []) (w := t.enc) (by rw [List.append_nil]; exact u5) sr5 eq5 (by simp) (Tr.lim t) sr.lt (aF eq')
    have ep6 := u6.get ep (by simp; omega)
    have dd : d1 - 1 = (d : Int) := by omega
    refine ⟨_,_,h6.set h3.length (.lst (Tr.encs ts ++ [t.enc])),rfl, .inl ?_,some w,ts ++ [t],N2,G2,rfl,by simp [htl],by omega,by omega,aGk tok tk.1,by rw [zY]; have := tk.2.1; omega,by rw [zS]; have := tk.2.2; omega, ?_, ?_, ?_, ?_, ?_⟩
    ·have ap := qT (y := t.enc) ep6 (by rw [aAZ]; exact szl (by omega)) rD
     rw [jN,aEQ,aG8 (p := h3.length) (h1 := h') (by simp) ep]
     simp [dd,q5,g6,ap]
    ·rw [oG] at tdp ⊢
     intro x hx
     rcases List.mem_append.mp hx with hx | hx
     ·exact tdp x hx
     ·have : x = t := by simpa using hx
      subst this; exact td
    ·exact (sr6.up (Up.set (is := [h3.length]) (by simp)) (by simp; omega)).mono (by omega)
    ·rw [dY (by omega)]; exact eq6
    ·rw [aEx]; exact kM (aF ep6)
    ·exact u.trans ((u6.mono (by simp)).trans (.set (by simp))))
   ⟨none,[],N,G,rfl,rfl,by omega,by omega,by simp [Tr.oks],by simp [Tr.ndss],by simp [Tr.grss],by simp [Tr.depths],e3.app.mono (by omega),aCO eq3,by simp [Tr.encs], .rfl'⟩ (by simp; omega)
  simp only [List.length_map,List.length_range] at htl sr4
  have tp := aEi ep4
  refine ⟨.nd n ts,N',G',h4,by omega,by omega,⟨⟨⟨o,eo,htl⟩,tok⟩,by simp only [Tr.nds]; omega,by simp only [Tr.grs]; omega⟩,by simp only [Tr.depth]; omega,sr4.mono (by omega),eq4, ?_, ?_⟩
  ·refine ⟨by have := u03.len; have := u4.len; simp at this; omega,fun j hj hm => ?_⟩
   have := u03.len
   rw [u4.same j (by simp at hm ⊢; omega),List.getElem?_append_left (by omega),u03.same j hm]
  ·have at1 := aFC (h := h4) (xs := [.int (n : Int)]) (ys := Tr.encs ts) (by rw [aAZ]; simp; omega)
   subst es
   simp [hE,e0,ix,le0,ed,q1,g1,er,ix1,set1,q3,g3,q4,tp,at1,Tr.enc]
/-- the middle of the body,whatever is left -/
theorem zR (k : Nat) {ops : List Opr} (O : OpsOk ops) (hol : ops.length <= 12) {d : Nat} (ih : uI ops d (k + 2)) {h : Hh} {i q c N G : Nat} (e : Sr h i c) (eq : h[q]? = some (.lst [.int N, .int G])) (hiq : i ≠ q) (hc : c + 2 + 3 * (G + 4 * N) < 1000000000) :
  ∃ (t : Tr) (N' G' : Nat) (h' : Hh),N' <= N /\ G' <= G /\ t.okG ops (N - N') (G - G') /\ t.depth <= d + 1 /\ Sr h' i (c + 2 + 3 * ((G - G') + 4 * (N - N'))) /\ h'[q]? = some (.lst [.int N', .int G']) /\ Ux [i,q] h h' /\ hE (aM T (k + 2)) [some (.ref i),some (.tup (ops.map Opr.enc)),some (.ref q),some (.int (d + 1 : Nat)),none,none,none] h = .ret t.enc h' := by
 by_cases hne : ops = []
 ·obtain ⟨s,h',hs,e',eq',u,q'⟩ := rH k O (d := d + 1) e eq hiq (by omega) (.inl hne)
  exact ⟨.leaf s,N,G,h',by omega,by omega,aAD hs,by simp [Tr.depth],e'.mono (by omega),eq',u.ux,by rw [q']; simp only [Tr.enc]⟩
 ·cases N with
  | zero =>
   obtain ⟨s,h',hs,e',eq',u,q'⟩ := rH k O (d := d + 1) e eq hiq (by omega) (.inr (.inl rfl))
   exact ⟨.leaf s,0,G,h',by omega,by omega,aAD hs,by simp [Tr.depth],e'.mono (by omega),eq',u.ux,by rw [q']; simp only [Tr.enc]⟩
  | succ N => exact aDz k O hol ih e eq hiq hne hc
theorem aHs {ops : List Opr} (O : OpsOk ops) (hol : ops.length <= 12) : ∀ (d k : Nat),uI ops d (k + 3 + d) := by
 intro d
 induction d with
 | zero =>
  intro k h i q c N G e eq hiq hc
  obtain ⟨s,h',hs,e',eq',u,q'⟩ := rH k O (d := 0) e eq hiq (by omega) (.inr (.inr rfl))
  refine ⟨.leaf s,N,G,h',by omega,by omega,aAD hs,by simp [Tr.depth],e'.mono (by omega),eq',u.ux, ?_⟩
  rw [show k + 3 + 0 = k + 2 + 1 from rfl,dF (d := ⟨7,4,iD⟩) rfl]
  have ix : ixW (.ref q) (.int 1) h = .ok (.int G) h := nT (n := 1) eq rfl
  have q2 : hE (aM T (k + 2)) [some (.ref i),some (.tup (ops.map Opr.enc)),some (.ref q),some (.int 0),none,none,none] h = .ret (.str s) h' := q'
  by_cases hG : 0 < G
  ·simp [jK,nE,aT,ix,hG,q2,Tr.enc]
  ·simp [jK,nE,aT,ix,hG,q2,Tr.enc]
 | succ d ihd =>
  intro k h i q c N G e eq hiq hc
  have ih : uI ops d (k + 1 + d + 2) := by rw [show k + 1 + d + 2 = k + 3 + d by omega]; exact ihd k
  rw [show k + 3 + (d + 1) = (k + 1 + d + 2) + 1 by omega,dF (d := ⟨7,4,iD⟩) rfl]
  have ix : ixW (.ref q) (.int 1) h = .ok (.int G) h := nT (n := 1) eq rfl
  have hd1 : (0 : Int) < ((d + 1 : Nat) : Int) := by omega
  have hsub : ((d + 1 : Nat) : Int) - 1 = (d : Int) := by omega
  by_cases hG : 0 < G
  ·obtain ⟨r,h1,hr,e1,u1,q1⟩ := kQ (k + 1 + d + 1) (n := 6) e (by decide) (by decide) (by omega)
   have g1 := kF u1 (w := .int r) (by simp)
   have eq1 := u1.get eq (by simpa using fun z => hiq z.symm)
   have er : eqW (.int (r : Int)) (.int 0) h1 = .ok (.bl (decide (r = 0))) h1 := by rw [nB]; congr 2; simp
   generalize hz : decide (r = 0) = z at er
   cases z with
   | true =>
    have ix1 : ixW (.ref q) (.int 1) h1 = .ok (.int G) h1 := nT (n := 1) eq1 rfl
    have set1 : pO (.ref q) (.int 1) (.int ((G : Int) - 1)) h1 = some (h1.set q (.lst [.int N, .int ((G : Int) - 1)])) := by
     simp [pO,fD,eq1,ixN,D.isTl]
    have gg : (G : Int) - 1 = ((G - 1 : Nat) : Int) := by omega
    have e2 : Sr (h1.set q (.lst [.int N, .int ((G : Int) - 1)])) i (c + 1) := e1.up (Up.set (is := [q]) (by simp)) (by simpa using hiq)
    have eq2 : (h1.set q (.lst [.int N, .int ((G : Int) - 1)]))[q]? = some (.lst [.int (N : Nat), .int (G - 1 : Nat)]) := by rw [gg]; exact kM (aF eq1)
    have u2 : Up [i,q] h (h1.set q (.lst [.int N, .int ((G : Int) - 1)])) := (u1.mono (by simp)).trans (.set (by simp))
    generalize h1.set q (.lst [.int N, .int ((G : Int) - 1)]) = h2 at set1 e2 eq2 u2
    obtain ⟨t,N',G',h3,hN',hG',tk,td,sr3,eq3,u3,q3⟩ := ih e2 eq2 hiq (by omega)
    obtain ⟨h4,g4,u4,sr4,eq4⟩ := aG2 (e := []) (w := t.enc) (by rw [List.append_nil]; exact u3) sr3 eq3 (by simp) (Tr.lim t) e2.lt (aF eq2)
    refine ⟨.grp t,N',G',h4,hN',by omega,⟨tk.1,tk.2.1,by simp only [Tr.grs]; have := tk.2.2; omega⟩,by simp only [Tr.depth]; omega,sr4.mono (by omega),eq4,(u2.trans u4).ux, ?_⟩
    generalize ((d + 1 : Nat) : Int) = d1 at hd1 hsub
    simp [jK,nE,aT,ix,hG,hd1,q1,g1,er,ix1,set1,hsub,q3,g4,Tr.enc]
   | false =>
    obtain ⟨t,N',G',h3,hN',hG',tk,td,sr3,eq3,u3,q3⟩ := zR (k + 1 + d) O hol ih e1 eq1 hiq (by omega)
    refine ⟨t,N',G',h3,hN',hG',tk,td,sr3.mono (by omega),eq3,(u1.mono (by simp)).ux.trans u3, ?_⟩
    generalize ((d + 1 : Nat) : Int) = d1 at hd1 hsub q3
    simp [jK,nE,aT,ix,hG,hd1,q1,g1,er,q3]
  ·obtain ⟨t,N',G',h3,hN',hG',tk,td,sr3,eq3,u3,q3⟩ := zR (k + 1 + d) O hol ih e eq hiq (by omega)
   refine ⟨t,N',G',h3,hN',hG',tk,td,sr3.mono (by omega),eq3,u3, ?_⟩
   generalize ((d + 1 : Nat) : Int) = d1 at hd1 hsub q3
   simp [jK,nE,aT,ix,hG,q3]
theorem aIO (k : Nat) {ops : List Opr} (O : OpsOk ops) (hol : ops.length <= 12) {h : Hh} {i c N G : Nat} (e : Sr h i c) (hc : c + 3 * (1 + G + 4 * N) < 1000000000) :
  ∃ (t : Tr) (h' : Hh),t.okG ops N G /\ t.depth <= 12 /\ Sr h' i (c + 3 * (1 + G + 4 * N)) /\ Ux [i] h h' /\ aM T (k + 16) fI [.ref i, .tup (ops.map Opr.enc), .int N, .int G] h = .ok t.enc h' := by
 have eq : (h ++ [Cl.lst [.int (N : Int), .int (G : Int)]])[h.length]? = some (.lst [.int N, .int G]) := by simp
 have li := e.lt
 obtain ⟨t,N',G',h1,hN',hG',tk,td,sr,eq1,u,q⟩ := aHs O hol 12 k (e.app (e := [Cl.lst [.int (N : Int), .int (G : Int)]])) eq (by omega) hc
 have u' : Ux [i] (h ++ [Cl.lst [.int (N : Int), .int (G : Int)]]) h1 \/ True := .inr trivial
 obtain ⟨h2,g2,u2,hs⟩ := wZ (w := t.enc) u (Tr.lim t) (fun j hj hl => by
  simp at hj
  rcases hj with rfl | rfl
  ·exact sr.cell h.length
  ·omega)
 refine ⟨t,h2,⟨tk.1,by have := tk.2.1; omega,by have := tk.2.2; omega⟩,td, ?_, ?_, ?_⟩
 ·obtain ⟨x,y,d,e2,h0,h1⟩ := sr
  exact ⟨x,y,d,(hs i li).trans e2,h0,by omega⟩
 ·exact u2.ux.mono (by
   intro j hj hl
   simp at hj ⊢
   omega)
 ·rw [dF (d := ⟨4,4,kX⟩) rfl]
  have q' : aM T (k + 15) gA [.ref i, .tup (ops.map Opr.enc), .ref h.length, .int 12] (h ++ [Cl.lst [.int (N : Int), .int (G : Int)]]) = .ok t.enc h1 := q
  simp [kX,aT,q',g2]
end LW
end
section
namespace LW
open PV PySem PySem.Spec PyProof.Rows L2
theorem aDm (k : Nat) {ops : List Opr} (O : OpsOk ops) (hol : ops.length <= 1000) (h : Hh) : aM T (k + 1) rL [.tup (ops.map Opr.enc)] h = .ok (.ref h.length) (h ++ [.dK (jX (gY ops))]) := by
 rw [dF (d := ⟨4,1,fM⟩) rfl]
 have key := aFN (K := kK) (mi := miE (mV 0)) (t := .tu [(.nm 1),(.nm 2)]) (mi1 := miE (mV 2)) (t1 := .nm 3) (mk := mV 3) (mv := mC (.bl true)) (vs := [1,2,3]) (vs1 := [3]) (σ := [some (.tup (ops.map Opr.enc)),none,none,none]) (h := h) (h1 := h) (src := zE (ops.map Opr.enc)) (ws := ops.map Opr.enc) usW gW 3
  (by simp [miE,lD,asT]) (fun j => rfl) (fun w hw => by
   obtain ⟨o,ho,rfl⟩ := List.mem_map.mp hw
   rw [zN,List.length_map]; exact (O.ok o ho).l3) (by rw [List.length_map]; exact szl (by omega)) (by rw [List.length_map]; exact szl (by omega)) (fun w hw => by
   obtain ⟨o,ho,rfl⟩ := List.mem_map.mp hw
   refine ⟨[some (.tup (ops.map Opr.enc)),some (.str o.kind),some (.tup (o.words.map .str)),none],zE (o.words.map .str),by simp [Opr.enc,cG],by simp [miE,lD,asT],fun j => rfl,fun u hu => ?_⟩
   rw [zN] at hu
   obtain ⟨x,hx,rfl⟩ := List.mem_map.mp hu
   exact ⟨_, .str x,rfl,by simp [cG],rfl,rfl,rfl⟩)
 have fl : (ops.map Opr.enc).flatMap (fun w => (usW w).map (gW w)) = (gY ops).map fun x => ((.inr x : Key),D.bl true) := by
  unfold gY
  rw [List.flatMap_map,List.map_flatMap]
  congr 1
  funext o
  rw [zN,List.map_map]
  rfl
 rw [fl,aBv] at key
 simp only [fM,aT,List.map_cons,List.map_nil,List.length_cons,List.length_nil,if_true,vV,List.replicate,List.cons_append,List.nil_append,Nat.reduceAdd,Nat.reduceSub]
 erw [key]
 rfl
end LW
end
section
namespace LW
open PV PySem PySem.Spec PyProof.Rows L2
theorem aGi : ((" " : Str)).cps.toList = [32] := by decide +kernel
theorem aGj : (("~" : Str)).cps.toList = [126] := by decide +kernel
theorem aDk (k : Nat) {z : Str} (hz : z.length <= 16777215) (h : Hh) : aM T (k + 1) rK [.str z] h = .ok (.bl (uM z)) h := by
 rw [dF (d := ⟨2,1,fJ⟩) rfl]
 have ln := aGa (h := h) (z := z) (by omega)
 have al := aEl (mi := miE (mV 0)) (t := .nm 1) (me := gG ltW leW (mC (.str " ")) (mV 1) (mC (.str "~"))) (vs := [1]) (σ := [some (.str z),none]) (h := h) (h1 := h) (src := pQ z) (ws := sP z) (gC okC) (aC0 (by simp)) (fun j => aC8 j) (by rw [aAf]; exact szl (by omega)) (fun w hw => by
  obtain ⟨c,hc,rfl⟩ := aAg hw
  refine ⟨[some (.str z),some (.str ⟨#[c]⟩)],rfl, ?_⟩
  have e1 : ltW (.str " ") (.str ⟨#[c]⟩) h = .ok (.bl (decide (32 < c))) h := by
   show R.ok (D.bl (decide (((" " : Str)).cps.toList < [c]))) h = _
   rw [aGi,lt1]
  have e2 : leW (.str ⟨#[c]⟩) (.str "~") h = .ok (.bl (decide (c <= 126))) h := by
   show R.ok (D.bl (!decide ((("~" : Str)).cps.toList < [c]))) h = _
   rw [aGj,lt1]
   congr 2
   rw [Bool.eq_iff_iff]
   simp
  have e3 : gC okC (.str ⟨#[c]⟩) = (decide (32 < c) && decide (c <= 126)) := rfl
  rw [e3]
  simp only [gG,aDJ,xD,List.getElem?_cons_succ,List.getElem?_cons_zero,R.bind_ok,e1]
  cases decide (32 < c)
  ·rfl
  ·simp only [Bool.true_and,R.bind_ok,e2])
 rw [aAe] at al
 unfold uM
 simp only [fJ,aT,List.map_cons,List.map_nil,List.length_cons,List.length_nil,if_true,vW,yO,yN,vQ,aDI,aEN,aDJ,aJe,R.bind_ok,aI8,List.replicate,List.cons_append,List.nil_append,Nat.reduceAdd,Nat.reduceSub,Bool.not_true,Bool.false_eq_true,if_false,gG,tN,ln,aG6]
 have i1 : decide ((1 : Int) <= (z.length : Int)) = decide (1 <= z.length) := by rw [decide_eq_decide]; omega
 have i2 : decide ((z.length : Int) <= 8) = decide (z.length <= 8) := by rw [decide_eq_decide]; omega
 rw [i1,i2]
 cases decide (1 <= z.length)
 ·simp
 ·cases decide (z.length <= 8)
  ·simp
  ·simp only [tN] at al
   simp [al]
end LW
end
section
namespace LW
open PV PySem PySem.Spec PyProof.Rows L2
theorem wR (k : Nat) {ops : List Opr} (O : OpsOk ops) (hol : ops.length <= 1000) {z : Str} (hz : z.length <= 16777215) (h : Hh) : ∃ h',Ux [] h h' /\ aM T (k + 2) cL [.tup (ops.map Opr.enc), .str z] h = .ok (.bl (dI ops z)) h' := by
 rw [dF (d := ⟨3,2,dC⟩) rfl]
 have tk := aDk k hz h
 have w := aDm k O hol h
 have gw := aF0 (h := h) (c := .dK (jX (gY ops))) aEM (by intro ws; simp)
 have nd := aGg (h := h ++ [.dK (jX (gY ops))]) (i := h.length) (x := z) (xs := gY ops) (by simp)
 have al := aEl (mi := miE (mV 1)) (t := .nm 2) (me := mOp inW (mV 2) (mC (.str "abcdefghijklmnopqrstuvwxyz0123456789"))) (vs := [2]) (σ := [some (.tup (ops.map Opr.enc)),some (.str z),none]) (h := h) (h1 := h) (src := pQ z) (ws := sP z) (gC iW) (aC0 (by simp)) (fun j => aC8 j) (by rw [aAf]; exact szl (by omega)) (fun w hw => by
  obtain ⟨c,hc,rfl⟩ := aAg hw
  exact ⟨[some (.tup (ops.map Opr.enc)),some (.str z),some (.str ⟨#[c]⟩)],rfl,rfl⟩)
 rw [aAe] at al
 unfold dI
 generalize uM z = b1 at tk
 generalize z.cps.toList.all iW = b2 at al
 cases b1
 ·refine ⟨h,⟨Nat.le_refl _,fun _ _ _ => rfl⟩, ?_⟩
  simp [dC,aT,tk]
 ·cases b2
  ·refine ⟨h,⟨Nat.le_refl _,fun _ _ _ => rfl⟩, ?_⟩
   simp only [dC,aT,List.map_cons,List.map_nil,List.length_cons,List.length_nil,if_true,vW,yO,yN,vQ,aDI,List.replicate,List.cons_append,List.nil_append,Nat.reduceAdd,Nat.reduceSub,aBk,xC,zV,xD,List.getElem?_cons_succ,List.getElem?_cons_zero,R.bind_ok,aAh,tk,qA,aBi,Bool.not_true,Bool.false_eq_true,if_false]
   erw [al]
   simp
  ·refine ⟨h ++ [.dK (jX (gY ops))], .app, ?_⟩
   simp only [dC,aT,List.map_cons,List.map_nil,List.length_cons,List.length_nil,if_true,vW,yO,yN,vQ,aDI,List.replicate,List.cons_append,List.nil_append,Nat.reduceAdd,Nat.reduceSub,aBk,xC,zV,xD,List.getElem?_cons_succ,List.getElem?_cons_zero,R.bind_ok,aAh,tk,qA,aBi,Bool.not_true,Bool.false_eq_true,if_false]
   erw [al]
   simp [w,gw,nd]
end LW
end
section
namespace LW
open PV PySem PySem.Spec PyProof.Rows L2
def jS (_ : Nat) : List Q -> Pm Q
 | [.src, .int n] => fun K c => (0 < n /\ n < 1073741824 /\ c < 1000000000) /\ ∀ r : Nat,(r : Int) < n -> K (.ok (.int r)) (c + 1)
 | _ => .bad
theorem aCH (k : Nat) : FnS false (aM T (k + 1) aQ) (jS k) := ⟨fun {F sa h c K qs ws} iv r hp => by
 unfold jS at hp
 split at hp
 ·rename_i n
  simp only [Reps] at r
  obtain ⟨w1,_,rfl,_,r1,w2,_,rfl,_,r2,rfl⟩ := r
  simp only [Rep] at r1 r2
  subst r1; subst r2
  obtain ⟨⟨h1,h2,h3⟩,h4⟩ := hp
  obtain ⟨r,h',hr,e,u,q⟩ := kQ k (n := n) iv.sr h1 h2 h3
  rw [q]
  obtain ⟨i2,g2⟩ := iv.ux u.ux e
  exact .ok (h4 r hr) i2 g2 (by simpa using cZ)
 ·exact hp.elim⟩
end LW
end
section
namespace LW
open PV PySem PySem.Spec PyProof.Rows L2
def fO (k : Nat) : List Q -> Pm Q
 | [.src, .int n] => fun K c => (0 <= n /\ n <= 12 /\ c + 100 < 1000000000 /\ 3 <= k) /\ ∀ ops : List Opr,(∀ o ∈ ops,∀ x ∈ o.words,x ∈ iZ) -> OpsOk ops -> (ops.length : Int) <= n -> K (.ok (bN ops)) (c + 100)
 | _ => .bad
theorem wK (k : Nat) : FnS false (aM T (k + 1) dB) (fO k) := ⟨fun {F sa h c K qs ws} iv r hp => by
 unfold fO at hp
 split at hp
 ·rename_i n
  simp only [Reps] at r
  obtain ⟨w1,_,rfl,_,r1,w2,_,rfl,_,r2,rfl⟩ := r
  simp only [Rep] at r1 r2
  subst r1; subst r2
  obtain ⟨⟨h1,h2,h3,h5⟩,h4⟩ := hp
  obtain ⟨k',rfl⟩ : ∃ k',k = k' + 3 := ⟨k - 3,by omega⟩
  obtain ⟨m,rfl⟩ := Int.eq_ofNat_of_zero_le h1
  obtain ⟨ops,h',y,O,l,e,u,q⟩ := aAR k' (most := m) iv.sr (by omega) h3
  rw [q]
  obtain ⟨i2,g2⟩ := iv.ux u e
  exact .ok (h4 ops y O (by omega)) i2 g2 (by simpa using aH9)
 ·exact hp.elim⟩
end LW
end
section
namespace LW
open PV PySem PySem.Spec PyProof.Rows L2
def jT (k : Nat) : List Q -> Pm Q := fun qs K c => ∃ (ops : List Opr) (N G : Nat),qs = [.src,bN ops, .int N, .int G] /\ OpsOk ops /\ ops.length <= 12 /\ c + 3 * (1 + G + 4 * N) < 1000000000 /\ 15 <= k /\
 ∀ t : Tr,t.okG ops N G -> t.depth <= 12 -> K (.ok t.q) (c + 3 * (1 + G + 4 * N))
theorem aCI (k : Nat) : FnS false (aM T (k + 1) fI) (jT k) := ⟨fun {F sa h c K qs ws} iv r hp => by
 obtain ⟨ops,N,G,rfl,O,hol,hc,hk,hp⟩ := hp
 simp only [Reps] at r
 obtain ⟨w1,_,rfl,_,r1,w2,_,rfl,_,r2,w3,_,rfl,_,r3,w4,_,rfl,_,r4,rfl⟩ := r
 have e2 := uZ r2
 simp only [Rep] at r1 r3 r4
 subst r1; subst r3; subst r4; subst e2
 obtain ⟨k',rfl⟩ : ∃ k',k = k' + 15 := ⟨k - 15,by omega⟩
 obtain ⟨t,h',ok,d,e,u,q⟩ := aIO k' O hol (N := N) (G := G) iv.sr hc
 rw [q]
 obtain ⟨i2,g2⟩ := iv.ux u e
 exact .ok (hp t ok d) i2 g2 (by simpa using aBH t)⟩
theorem aJH (k : Nat) {ops : List Opr} (O : OpsOk ops) (hol : ops.length <= 12) {N G c : Nat} {K : Rs Q -> Nat -> Prop} (hc : c + 3 * (1 + G + 4 * N) < 1000000000) (h : ∀ t : Tr,t.okG ops N G -> t.depth <= 12 -> K (.ok t.q) (c + 3 * (1 + G + 4 * N))) : jT (k + 15) [.src,bN ops, .int N, .int G] K c :=
 ⟨ops,N,G,rfl,O,hol,hc,by omega,h⟩
end LW
end
section
namespace LW
open PV PySem PySem.Spec PyProof.Rows L2
def fN (k : Nat) : List Q -> Pm Q := fun qs K c => ∃ (ops : List Opr) (z : Str),qs = [bN ops, .str z] /\ OpsOk ops /\ ops.length <= 1000 /\ z.length <= 16777215 /\ 1 <= k /\ K (.ok (.bl (dI ops z))) c
theorem wJ (k : Nat) : FnS false (aM T (k + 1) cL) (fN k) := ⟨fun {F sa h c K qs ws} iv r hp => by
 obtain ⟨ops,z,rfl,O,hol,hz,hk,hp⟩ := hp
 simp only [Reps] at r
 obtain ⟨w1,_,rfl,_,r1,w2,_,rfl,_,r2,rfl⟩ := r
 have e1 := uZ r1
 have e2 := pN r2
 subst e1; subst e2
 obtain ⟨k',rfl⟩ : ∃ k',k = k' + 1 := ⟨k - 1,by omega⟩
 obtain ⟨h',u,e⟩ := wR k' O hol hz h
 rw [show k' + 1 + 1 = k' + 2 from rfl,e]
 have sr' : Sr h' sa c := let ⟨a,b,d,e,x,y⟩ := iv.sr; ⟨a,b,d,u.get e (by simp),x,y⟩
 obtain ⟨i2,g2⟩ := iv.ux (u.mono (by simp)) sr'
 exact .ok hp i2 g2 (by simpa using cF)⟩
theorem aDQ {k : Nat} {ops : List Opr} (O : OpsOk ops) (hol : ops.length <= 1000) {z : Str} (hz : z.length <= 16777215) (hk : 1 <= k) : fN k [bN ops, .str z] = .ret (.bl (dI ops z)) := by
 funext K c
 refine propext ⟨fun h => ?_,fun h => ⟨ops,z,rfl,O,hol,hz,hk,h⟩⟩
 obtain ⟨ops',z',e,_,_,_,_,h⟩ := h
 simp only [List.cons.injEq,Q.str.injEq,and_true] at e
 obtain ⟨e1,e2⟩ := e
 rw [aGm e1,e2]
 exact h
end LW
end
section
namespace LW
open PV PySem PySem.Spec PyProof.Rows L2
def frT (f : Nat) : Bool := match f with
 | 4 => true
 | _ => false
def xH (pc : Nat -> List Q -> Pm Q) (a_0 : Q) : Pm (Fl Unit Unit) :=
 (Pm.seq (Pm.bind (Pm.bind (Pm.bind (Pm.bind (Pm.bind (Pm.ret a_0) fun x8 => Pm.bind (Pm.ret (Q.ty "str")) fun x9 => Pm.of (aV x8 x9)) fun x10 => Pm.of (cH x10)) fun x11 => Pm.ret (!x11)) fun x12 => if x12 = true then Pm.ret true else (Pm.bind (Pm.bind (Pm.bind (Pm.ret (Q.int 1)) fun x2 => Pm.bind (Pm.bind (Pm.ret a_0) fun x1 => Pm.of (dN x1)) fun x3 => Pm.bind (Pm.of (qLe x2 x3)) fun x5 => cQ x5 (Pm.bind (Pm.ret (Q.int 8)) fun x4 => Pm.of (qLe x3 x4))) fun x6 => Pm.of (cH x6)) fun x7 => Pm.ret (!x7))) fun x14 => if x14 = true then (Pm.bind (Pm.ret (Q.bl false)) fun x13 => Pm.ret (.ret x13)) else (Pm.ret (.nx ()))) (fun (x15 : Unit) => (Pm.bind (Pm.bind (Pm.bind (Pm.bind (Pm.ret a_0) fun x16 => Pm.of (iF x16)) fun x18 => lcP some (fun (x17 : Q) => (Pm.ret true)) (fun (x17 : Q) => (Pm.bind (Pm.ret (Q.str " ")) fun x19 => Pm.bind (Pm.ret x17) fun x20 => Pm.bind (Pm.of (qLt x19 x20)) fun x22 => cQ x22 (Pm.bind (Pm.ret (Q.str "~")) fun x21 => Pm.of (qLe x20 x21)))) x18) fun x23 => Pm.of (tR x23)) fun x24 => Pm.ret (.ret x24))))
def sV (pc : Nat -> List Q -> Pm Q) (qs : List Q) : Pm (Fl Unit Unit) := match qs with
 | [a_0] => xH pc a_0
 | _ => .bad
theorem aCK {cl : Cll} {pc : Nat -> List Q -> Pm Q} (ih : ∀ f,FnS (frT f) (cl f) (pc f)) (a_0 : Q) : SS' false (fun _ : Unit => []) none [.fz a_0, .no] (fJ cl) (xH pc a_0) (fun _ : Unit => [.no, .no]) :=
 (eZ (ΓM := fun (x15 : Unit) => [.fz a_0, .no]) (iK trivial (tZ (sT (t_b (aP jV (aD 0 rfl).toW mJ.toW).toW)) (sT (t_b (uJ aD0 aD0 aW.toW (dH iH (aD 0 rfl).toW).toW aW.toW).toW))) (cE trivial jH) (fH (z := ()) (.eq (.no .nil)))) (fun x15 => (cE trivial (dH aAH (vJ (vs := [1]) (i_e (aD 0 rfl)).toW (tg1 1) (fun x17 => mY) (fun x17 => (uJ aBL aD0 bE.toW (aD 1 rfl).toW bE.toW))).toW))))
theorem aCk {cl : Cll} {pc : Nat -> List Q -> Pm Q} (ih : ∀ f,FnS (frT f) (cl f) (pc f)) : FnS false (fun ws h => if ws.length = 1 then eV (fJ cl (aT 2 ws) h) else .bad) (fun qs => if qs.length = 1 then (sV pc qs).bind bV else .bad) :=
 hA (P := sV pc) (ΓL := fun _ : Unit => []) (ΓN := fun _ : Unit => [.no, .no]) fun qs hq => match qs,hq with
  | [a_0],_ => aCK ih a_0
def mU (pc : Nat -> List Q -> Pm Q) (a_0 : Q) : Pm (Fl Unit Unit) :=
 (Pm.bind (Pm.bind (Pm.bind (Pm.ret a_0) fun x1 => Pm.bind (Pm.ret (Q.int 0)) fun x2 => Pm.of (qIx x1 x2)) fun x8 => Pm.bind (Pm.bind (Pm.bind (Pm.ret (Q.str "infix")) fun x5 => Pm.bind (Pm.bind (Pm.ret (Q.str "postfix")) fun x3 => Pm.bind (Pm.ret []) fun x4 => Pm.ret (x3 :: x4)) fun x6 => Pm.ret (x5 :: x6)) fun x7 => Pm.ret (Q.tup x7)) fun x9 => Pm.of (qIn x8 x9)) fun x10 => Pm.ret (.ret x10))
def sU (pc : Nat -> List Q -> Pm Q) (qs : List Q) : Pm (Fl Unit Unit) := match qs with
 | [a_0] => mU pc a_0
 | _ => .bad
theorem aCJ {cl : Cll} {pc : Nat -> List Q -> Pm Q} (ih : ∀ f,FnS (frT f) (cl f) (pc f)) (a_0 : Q) : SS' false (fun _ : Unit => []) none [.fz a_0] (iY cl) (mU pc a_0) (fun _ : Unit => [.no]) :=
 (cE trivial (aP aBK (aP dS (aD 0 rfl).toW aW.toW).toW (cU (by decide) (aC bE (aC bE aX))).toW))
theorem aCj {cl : Cll} {pc : Nat -> List Q -> Pm Q} (ih : ∀ f,FnS (frT f) (cl f) (pc f)) : FnS false (fun ws h => if ws.length = 1 then eV (iY cl (aT 1 ws) h) else .bad) (fun qs => if qs.length = 1 then (sU pc qs).bind bV else .bad) :=
 hA (P := sU pc) (ΓL := fun _ : Unit => []) (ΓN := fun _ : Unit => [.no]) fun qs hq => match qs,hq with
  | [a_0],_ => aCJ ih a_0
def lT (pc : Nat -> List Q -> Pm Q) (a_0 : Q) : Pm (Fl Unit Unit) :=
 (Pm.bind (Pm.bind (Pm.bind (Pm.ret a_0) fun x1 => Pm.bind (Pm.ret (Q.int 0)) fun x2 => Pm.of (qIx x1 x2)) fun x8 => Pm.bind (Pm.bind (Pm.bind (Pm.ret (Q.str "infix")) fun x5 => Pm.bind (Pm.bind (Pm.ret (Q.str "prefix")) fun x3 => Pm.bind (Pm.ret []) fun x4 => Pm.ret (x3 :: x4)) fun x6 => Pm.ret (x5 :: x6)) fun x7 => Pm.ret (Q.tup x7)) fun x9 => Pm.of (qIn x8 x9)) fun x10 => Pm.ret (.ret x10))
def pR (pc : Nat -> List Q -> Pm Q) (qs : List Q) : Pm (Fl Unit Unit) := match qs with
 | [a_0] => lT pc a_0
 | _ => .bad
theorem aB2 {cl : Cll} {pc : Nat -> List Q -> Pm Q} (ih : ∀ f,FnS (frT f) (cl f) (pc f)) (a_0 : Q) : SS' false (fun _ : Unit => []) none [.fz a_0] (hZ cl) (lT pc a_0) (fun _ : Unit => [.no]) :=
 (cE trivial (aP aBK (aP dS (aD 0 rfl).toW aW.toW).toW (cU (by decide) (aC bE (aC bE aX))).toW))
theorem aA4 {cl : Cll} {pc : Nat -> List Q -> Pm Q} (ih : ∀ f,FnS (frT f) (cl f) (pc f)) : FnS false (fun ws h => if ws.length = 1 then eV (hZ cl (aT 1 ws) h) else .bad) (fun qs => if qs.length = 1 then (pR pc qs).bind bV else .bad) :=
 hA (P := pR pc) (ΓL := fun _ : Unit => []) (ΓN := fun _ : Unit => [.no]) fun qs hq => match qs,hq with
  | [a_0],_ => aB2 ih a_0
def uR (pc : Nat -> List Q -> Pm Q) (a_0 : Q) : Pm (Fl Unit Unit) :=
 (Pm.bind (Pm.bind (Pm.bind (Pm.bind (Pm.bind (Pm.bind (Pm.ret a_0) fun x1 => Pm.bind (Pm.ret (Q.int 1)) fun x2 => Pm.of (qIx x1 x2)) fun x3 => Pm.of (dN x3)) fun x4 => Pm.bind (Pm.ret (Q.int 1)) fun x5 => Pm.of (tT x4 x5)) fun x9 => Pm.bind (Pm.bind (Pm.bind (Pm.bind (Pm.ret a_0) fun x6 => Pm.bind (Pm.ret []) fun x7 => Pm.ret (x6 :: x7)) (pc iV)) fun x8 => Pm.of (rZ x8)) fun x10 => Pm.of (cR x9 x10)) fun x14 => Pm.bind (Pm.bind (Pm.bind (Pm.bind (Pm.ret a_0) fun x11 => Pm.bind (Pm.ret []) fun x12 => Pm.ret (x11 :: x12)) (pc hY)) fun x13 => Pm.of (rZ x13)) fun x15 => Pm.of (cR x14 x15)) fun x16 => Pm.ret (.ret x16))
def zO (pc : Nat -> List Q -> Pm Q) (qs : List Q) : Pm (Fl Unit Unit) := match qs with
 | [a_0] => uR pc a_0
 | _ => .bad
theorem aGN {cl : Cll} {pc : Nat -> List Q -> Pm Q} (ih : ∀ f,FnS (frT f) (cl f) (pc f)) (a_0 : Q) : SS' false (fun _ : Unit => []) none [.fz a_0] (nG cl) (uR pc a_0) (fun _ : Unit => [.no]) :=
 (cE trivial (aP fQ (aP fQ (aP aD1 (dH iH (aP dS (aD 0 rfl).toW aW.toW).toW).toW aW.toW).toW (dH aDZ (cI (ih iV) (aC (aD 0 rfl) aX)).toW).toW).toW (dH aDZ (cI (ih hY) (aC (aD 0 rfl) aX)).toW).toW))
theorem aFZ {cl : Cll} {pc : Nat -> List Q -> Pm Q} (ih : ∀ f,FnS (frT f) (cl f) (pc f)) : FnS false (fun ws h => if ws.length = 1 then eV (nG cl (aT 1 ws) h) else .bad) (fun qs => if qs.length = 1 then (zO pc qs).bind bV else .bad) :=
 hA (P := zO pc) (ΓL := fun _ : Unit => []) (ΓN := fun _ : Unit => [.no]) fun qs hq => match qs,hq with
  | [a_0],_ => aGN ih a_0
def xJ (pc : Nat -> List Q -> Pm Q) (a_0 : Q) : Pm (Fl Unit Unit) :=
 (Pm.bind (Pm.bind (Pm.bind (Pm.ret a_0) fun x1 => Pm.of (iF x1)) fun x3 => aDr zJ Q.dK un2 (fun (x2 : Q × Q) => (Pm.ret true)) (fun (x2 : Q × Q) => (Pm.bind (Pm.ret x2.2) fun x4 => Pm.of (iF x4))) some (fun (x2 : Q × Q) (x5 : Q) => (Pm.ret true)) (fun (x2 : Q × Q) (x5 : Q) => (Pm.ret x5)) (fun (x2 : Q × Q) (x5 : Q) => (Pm.ret (Q.bl true))) x3) fun x6 => Pm.ret (.ret x6))
def sX (pc : Nat -> List Q -> Pm Q) (qs : List Q) : Pm (Fl Unit Unit) := match qs with
 | [a_0] => xJ pc a_0
 | _ => .bad
theorem aCM {cl : Cll} {pc : Nat -> List Q -> Pm Q} (ih : ∀ f,FnS (frT f) (cl f) (pc f)) (a_0 : Q) : SS' true (fun _ : Unit => []) none [.fz a_0, .no, .no, .no] (fM cl) (xJ pc a_0) (fun _ : Unit => [.no, .no, .no, .no]) :=
 (aIN trivial (aIU (vs := [1,2,3]) (vs1 := [3]) (i_e (aD 0 rfl)).toW (tg2 1 2) (fun x2 => mY) (fun x2 => (i_e (aD 2 rfl)).toW) (tg1 3) (fun x2 x5 => mY) (fun x2 x5 => (aD 3 rfl)) (fun x2 x5 => jH)))
theorem aCm {cl : Cll} {pc : Nat -> List Q -> Pm Q} (ih : ∀ f,FnS (frT f) (cl f) (pc f)) : FnS true (fun ws h => if ws.length = 1 then eV (fM cl (aT 4 ws) h) else .bad) (fun qs => if qs.length = 1 then (sX pc qs).bind aDt else .bad) :=
 aHz (P := sX pc) (ΓL := fun _ : Unit => []) (ΓN := fun _ : Unit => [.no, .no, .no, .no]) fun qs hq => match qs,hq with
  | [a_0],_ => aCM ih a_0
def lU (pc : Nat -> List Q -> Pm Q) (a_0 : Q) : Pm (Fl Unit Unit) :=
 (Pm.bind (Pm.bind (Pm.bind (Pm.ret a_0) fun x7 => Pm.bind (Pm.ret (Q.ty "int")) fun x8 => Pm.of (aV x7 x8)) fun x9 => cQ x9 (Pm.bind (Pm.bind (Pm.bind (Pm.ret a_0) fun x3 => Pm.bind (Pm.ret (Q.ty "bool")) fun x4 => Pm.of (aV x3 x4)) fun x5 => Pm.of (aDW x5)) fun x6 => cQ x6 (Pm.bind (Pm.ret a_0) fun x1 => Pm.bind (Pm.ret (Q.int 0)) fun x2 => Pm.of (qGe x1 x2)))) fun x10 => Pm.ret (.ret x10))
def pS (pc : Nat -> List Q -> Pm Q) (qs : List Q) : Pm (Fl Unit Unit) := match qs with
 | [a_0] => lU pc a_0
 | _ => .bad
theorem aB3 {cl : Cll} {pc : Nat -> List Q -> Pm Q} (ih : ∀ f,FnS (frT f) (cl f) (pc f)) (a_0 : Q) : SS' false (fun _ : Unit => []) none [.fz a_0] (iC cl) (lU pc a_0) (fun _ : Unit => [.no]) :=
 (cE trivial (oH (aP jV (aD 0 rfl).toW mJ.toW).toW (oH (aKY (aP jV (aD 0 rfl).toW mJ.toW).toW).toW (aP aJM (aD 0 rfl).toW aW.toW))))
theorem aA5 {cl : Cll} {pc : Nat -> List Q -> Pm Q} (ih : ∀ f,FnS (frT f) (cl f) (pc f)) : FnS false (fun ws h => if ws.length = 1 then eV (iC cl (aT 1 ws) h) else .bad) (fun qs => if qs.length = 1 then (pS pc qs).bind bV else .bad) :=
 hA (P := pS pc) (ΓL := fun _ : Unit => []) (ΓN := fun _ : Unit => [.no]) fun qs hq => match qs,hq with
  | [a_0],_ => aB3 ih a_0
def oO (pc : Nat -> List Q -> Pm Q) (a_0 a_1 : Q) : Pm (Fl Unit Unit) :=
 (Pm.seq (Pm.bind (Pm.bind (Pm.bind (Pm.ret a_1) fun x1 => Pm.bind (Pm.ret (Q.ty "str")) fun x2 => Pm.of (aV x1 x2)) fun x3 => Pm.of (cH x3)) fun x9 => if x9 = true then (Pm.bind (Pm.bind (Pm.bind (Pm.ret a_0) fun x6 => Pm.bind (Pm.bind (Pm.ret a_1) fun x4 => Pm.bind (Pm.ret []) fun x5 => Pm.ret (x4 :: x5)) fun x7 => Pm.ret (x6 :: x7)) (pc cL)) fun x8 => Pm.ret (.ret x8)) else (Pm.ret (.nx ()))) (fun (x10 : Unit) => (Pm.seq (Pm.bind (Pm.bind (Pm.bind (Pm.bind (Pm.bind (Pm.ret a_1) fun x15 => Pm.bind (Pm.ret (Q.ty "tuple")) fun x16 => Pm.of (aV x15 x16)) fun x17 => Pm.of (cH x17)) fun x18 => Pm.ret (!x18)) fun x19 => if x19 = true then Pm.ret true else (Pm.bind (Pm.bind (Pm.bind (Pm.ret a_1) fun x11 => Pm.of (dN x11)) fun x12 => Pm.bind (Pm.ret (Q.int 2)) fun x13 => Pm.of (qLt x12 x13)) fun x14 => Pm.of (cH x14))) fun x21 => if x21 = true then (Pm.bind (Pm.ret (Q.bl false)) fun x20 => Pm.ret (.ret x20)) else (Pm.ret (.nx ()))) (fun (x22 : Unit) => (Pm.seq (Pm.bind (Pm.bind (Pm.bind (Pm.bind (Pm.ret a_1) fun x23 => Pm.bind (Pm.ret (Q.int 0)) fun x24 => Pm.of (qIx x23 x24)) fun x25 => Pm.bind (Pm.ret (Q.ty "str")) fun x26 => Pm.of (aV x25 x26)) fun x27 => Pm.of (cH x27)) fun x44 => if x44 = true then (Pm.bind (Pm.bind (Pm.bind (Pm.bind (Pm.ret a_1) fun x38 => Pm.bind (Pm.ret (Q.int 0)) fun x39 => Pm.of (qIx x38 x39)) fun x40 => Pm.bind (Pm.ret (Q.str "(")) fun x41 => Pm.of (qEq x40 x41)) fun x42 => cQ x42 (Pm.bind (Pm.bind (Pm.bind (Pm.ret a_1) fun x34 => Pm.of (dN x34)) fun x35 => Pm.bind (Pm.ret (Q.int 2)) fun x36 => Pm.of (qEq x35 x36)) fun x37 => cQ x37 (Pm.bind (Pm.bind (Pm.ret a_0) fun x32 => Pm.bind (Pm.bind (Pm.bind (Pm.ret a_1) fun x28 => Pm.bind (Pm.ret (Q.int 1)) fun x29 => Pm.of (qIx x28 x29)) fun x30 => Pm.bind (Pm.ret []) fun x31 => Pm.ret (x30 :: x31)) fun x33 => Pm.ret (x32 :: x33)) (pc bF)))) fun x43 => Pm.ret (.ret x43)) else (Pm.ret (.nx ()))) (fun (x45 : Unit) => (Pm.seq (Pm.bind (Pm.bind (Pm.bind (Pm.bind (Pm.bind (Pm.bind (Pm.bind (Pm.ret a_1) fun x65 => Pm.bind (Pm.ret (Q.int 0)) fun x66 => Pm.of (qIx x65 x66)) fun x67 => Pm.bind (Pm.ret []) fun x68 => Pm.ret (x67 :: x68)) (pc fZ)) fun x69 => Pm.of (cH x69)) fun x70 => Pm.ret (!x70)) fun x71 => if x71 = true then Pm.ret true else (Pm.bind (Pm.bind (Pm.bind (Pm.bind (Pm.ret a_1) fun x58 => Pm.bind (Pm.ret (Q.int 0)) fun x59 => Pm.of (qIx x58 x59)) fun x61 => Pm.bind (Pm.bind (Pm.ret a_0) fun x60 => Pm.of (dN x60)) fun x62 => Pm.of (qGe x61 x62)) fun x63 => Pm.of (cH x63)) fun x64 => if x64 = true then Pm.ret true else (Pm.bind (Pm.bind (Pm.bind (Pm.ret a_1) fun x46 => Pm.of (dN x46)) fun x55 => Pm.bind (Pm.bind (Pm.ret (Q.int 1)) fun x53 => Pm.bind (Pm.bind (Pm.bind (Pm.bind (Pm.ret a_0) fun x49 => Pm.bind (Pm.bind (Pm.ret a_1) fun x47 => Pm.bind (Pm.ret (Q.int 0)) fun x48 => Pm.of (qIx x47 x48)) fun x50 => Pm.of (qIx x49 x50)) fun x51 => Pm.bind (Pm.ret []) fun x52 => Pm.ret (x51 :: x52)) (pc nF)) fun x54 => Pm.of (cR x53 x54)) fun x56 => Pm.of (qNe x55 x56)) fun x57 => Pm.of (cH x57)))) fun x73 => if x73 = true then (Pm.bind (Pm.ret (Q.bl false)) fun x72 => Pm.ret (.ret x72)) else (Pm.ret (.nx ()))) (fun (x74 : Unit) => (Pm.bind (Pm.bind (Pm.bind (Pm.bind (Pm.bind (Pm.ret a_1) fun x77 => Pm.bind (Pm.bind (Pm.ret (Q.int 1)) fun x75 => Pm.bind (Pm.of (iG x75)) fun x76 => Pm.ret (some x76)) fun x78 => Pm.bind (Pm.ret none) fun x79 => Pm.of (qSl x77 x78 x79)) fun x80 => Pm.of (iF x80)) fun x82 => lcP some (fun (x81 : Q) => (Pm.ret true)) (fun (x81 : Q) => (Pm.bind (Pm.bind (Pm.ret a_0) fun x85 => Pm.bind (Pm.bind (Pm.ret x81) fun x83 => Pm.bind (Pm.ret []) fun x84 => Pm.ret (x83 :: x84)) fun x86 => Pm.ret (x85 :: x86)) (pc bF))) x82) fun x87 => Pm.of (tR x87)) fun x88 => Pm.ret (.ret x88))))))))))
def uE (pc : Nat -> List Q -> Pm Q) (qs : List Q) : Pm (Fl Unit Unit) := match qs with
 | [a_0,a_1] => oO pc a_0 a_1
 | _ => .bad
theorem aD9 {cl : Cll} {pc : Nat -> List Q -> Pm Q} (ih : ∀ f,FnS (frT f) (cl f) (pc f)) (a_0 a_1 : Q) : SS' false (fun _ : Unit => []) none [.fz a_0, .fz a_1, .no] (kG cl) (oO pc a_0 a_1) (fun _ : Unit => [.no, .no, .no]) :=
 (eZ (ΓM := fun (x10 : Unit) => [.fz a_0, .fz a_1, .no]) (iK trivial (t_b (aP jV (aD 1 rfl).toW mJ.toW).toW) (cE trivial (cI (ih cL) (aC (aD 0 rfl) (aC (aD 1 rfl) aX)))) (fH (z := ()) (.eq (.eq (.no .nil))))) (fun x10 => (eZ (ΓM := fun (x22 : Unit) => [.fz a_0, .fz a_1, .no]) (iK trivial (tZ (sT (t_b (aP jV (aD 1 rfl).toW mJ.toW).toW)) (t_b (aP aBL (dH iH (aD 1 rfl).toW).toW aW.toW).toW)) (cE trivial jH) (fH (z := ()) (.eq (.eq (.no .nil))))) (fun x22 => (eZ (ΓM := fun (x45 : Unit) => [.fz a_0, .fz a_1, .no]) (iK trivial (t_b (aP jV (aP dS (aD 1 rfl).toW aW.toW).toW mJ.toW).toW) (cE trivial (oH (aP wB (aP dS (aD 1 rfl).toW aW.toW).toW bE.toW).toW (oH (aP wB (dH iH (aD 1 rfl).toW).toW aW.toW).toW (cI (ih bF) (aC (aD 0 rfl) (aC (aP dS (aD 1 rfl).toW aW.toW) aX)))))) (fH (z := ()) (.eq (.eq (.no .nil))))) (fun x45 => (eZ (ΓM := fun (x74 : Unit) => [.fz a_0, .fz a_1, .no]) (iK trivial (tZ (sT (t_b (cI (ih fZ) (aC (aP dS (aD 1 rfl).toW aW.toW) aX)).toW)) (tZ (t_b (aP aJM (aP dS (aD 1 rfl).toW aW.toW).toW (dH iH (aD 0 rfl).toW).toW).toW) (t_b (aP aBM (dH iH (aD 1 rfl).toW).toW (aP fQ aW.toW (cI (ih nF) (aC (aP dS (aD 0 rfl).toW (aP dS (aD 1 rfl).toW aW.toW).toW) aX)).toW).toW).toW))) (cE trivial jH) (fH (z := ()) (.eq (.eq (.no .nil))))) (fun x74 => (cE trivial (dH aAH (vJ (vs := [2]) (i_e (rC (aD 1 rfl).toW (jM aW.toW) lY)).toW (tg1 2) (fun x81 => mY) (fun x81 => (cI (ih bF) (aC (aD 0 rfl) (aC (aD 2 rfl) aX))))).toW))))))))))
theorem aDv {cl : Cll} {pc : Nat -> List Q -> Pm Q} (ih : ∀ f,FnS (frT f) (cl f) (pc f)) : FnS false (fun ws h => if ws.length = 2 then eV (kG cl (aT 3 ws) h) else .bad) (fun qs => if qs.length = 2 then (uE pc qs).bind bV else .bad) :=
 hA (P := uE pc) (ΓL := fun _ : Unit => []) (ΓN := fun _ : Unit => [.no, .no, .no]) fun qs hq => match qs,hq with
  | [a_0,a_1],_ => aD9 ih a_0 a_1
def mW (pc : Nat -> List Q -> Pm Q) (a_0 a_1 : Q) : Pm (Fl Unit Unit) :=
 (Pm.bind (Pm.bind (Pm.ret a_1) fun x6 => Pm.bind (Pm.bind (Pm.bind (Pm.ret a_0) fun x4 => Pm.bind (Pm.bind (Pm.bind (Pm.ret a_1) fun x1 => Pm.of (dN x1)) fun x2 => Pm.bind (Pm.ret []) fun x3 => Pm.ret (x2 :: x3)) fun x5 => Pm.ret (x4 :: x5)) (pc aQ)) fun x7 => Pm.of (qIx x6 x7)) fun x8 => Pm.ret (.ret x8))
def sW (pc : Nat -> List Q -> Pm Q) (qs : List Q) : Pm (Fl Unit Unit) := match qs with
 | [a_0,a_1] => mW pc a_0 a_1
 | _ => .bad
theorem aCL {cl : Cll} {pc : Nat -> List Q -> Pm Q} (ih : ∀ f,FnS (frT f) (cl f) (pc f)) (a_0 a_1 : Q) : SS' false (fun _ : Unit => []) none [.fz a_0, .fz a_1] (fL cl) (mW pc a_0 a_1) (fun _ : Unit => [.no, .no]) :=
 (cE trivial (aP dS (aD 1 rfl).toW (cI (ih aQ) (aC (aD 0 rfl) (aC (dH iH (aD 1 rfl).toW) aX))).toW))
theorem aCl {cl : Cll} {pc : Nat -> List Q -> Pm Q} (ih : ∀ f,FnS (frT f) (cl f) (pc f)) : FnS false (fun ws h => if ws.length = 2 then eV (fL cl (aT 2 ws) h) else .bad) (fun qs => if qs.length = 2 then (sW pc qs).bind bV else .bad) :=
 hA (P := sW pc) (ΓL := fun _ : Unit => []) (ΓN := fun _ : Unit => [.no, .no]) fun qs hq => match qs,hq with
  | [a_0,a_1],_ => aCL ih a_0 a_1
def oP (pc : Nat -> List Q -> Pm Q) (a_0 : Q) : Pm (Fl Unit Unit) :=
 (Pm.bind (Pm.bind (Pm.bind (Pm.bind (Pm.bind (Pm.ret a_0) fun x12 => Pm.bind (Pm.ret (Q.int 0)) fun x13 => Pm.of (qIx x12 x13)) fun x19 => Pm.bind (Pm.bind (Pm.bind (Pm.ret (Q.str "infix")) fun x16 => Pm.bind (Pm.bind (Pm.ret (Q.str "postfix")) fun x14 => Pm.bind (Pm.ret []) fun x15 => Pm.ret (x14 :: x15)) fun x17 => Pm.ret (x16 :: x17)) fun x18 => Pm.ret (Q.tup x18)) fun x20 => Pm.of (qIn x19 x20)) fun x21 => Pm.bind (Pm.bind (Pm.bind (Pm.bind (Pm.ret a_0) fun x1 => Pm.bind (Pm.ret (Q.int 0)) fun x2 => Pm.of (qIx x1 x2)) fun x8 => Pm.bind (Pm.bind (Pm.bind (Pm.ret (Q.str "infix")) fun x5 => Pm.bind (Pm.bind (Pm.ret (Q.str "prefix")) fun x3 => Pm.bind (Pm.ret []) fun x4 => Pm.ret (x3 :: x4)) fun x6 => Pm.ret (x5 :: x6)) fun x7 => Pm.ret (Q.tup x7)) fun x9 => Pm.of (qIn x8 x9)) fun x10 => Pm.bind (Pm.ret []) fun x11 => Pm.ret (x10 :: x11)) fun x22 => Pm.ret (x21 :: x22)) fun x23 => Pm.ret (Q.tup x23)) fun x24 => Pm.ret (.ret x24))
def uG (pc : Nat -> List Q -> Pm Q) (qs : List Q) : Pm (Fl Unit Unit) := match qs with
 | [a_0] => oP pc a_0
 | _ => .bad
theorem aEb {cl : Cll} {pc : Nat -> List Q -> Pm Q} (ih : ∀ f,FnS (frT f) (cl f) (pc f)) (a_0 : Q) : SS' false (fun _ : Unit => []) none [.fz a_0] (gK cl) (oP pc a_0) (fun _ : Unit => [.no]) :=
 (cE trivial (cU (by decide) (aC (aP aBK (aP dS (aD 0 rfl).toW aW.toW).toW (cU (by decide) (aC bE (aC bE aX))).toW) (aC (aP aBK (aP dS (aD 0 rfl).toW aW.toW).toW (cU (by decide) (aC bE (aC bE aX))).toW) aX))))
theorem aDx {cl : Cll} {pc : Nat -> List Q -> Pm Q} (ih : ∀ f,FnS (frT f) (cl f) (pc f)) : FnS false (fun ws h => if ws.length = 1 then eV (gK cl (aT 1 ws) h) else .bad) (fun qs => if qs.length = 1 then (uG pc qs).bind bV else .bad) :=
 hA (P := uG pc) (ΓL := fun _ : Unit => []) (ΓN := fun _ : Unit => [.no]) fun qs hq => match qs,hq with
  | [a_0],_ => aEb ih a_0
def lV (pc : Nat -> List Q -> Pm Q) (a_0 : Q) : Pm (Fl Unit Unit) :=
 (Pm.bind (Pm.bind (Pm.bind (Pm.bind (Pm.bind (Pm.ret a_0) fun x1 => Pm.bind (Pm.ret (Q.int 1)) fun x2 => Pm.of (qIx x1 x2)) fun x3 => Pm.of (dN x3)) fun x4 => Pm.bind (Pm.ret (Q.int 1)) fun x5 => Pm.of (tT x4 x5)) fun x13 => Pm.bind (Pm.bind (Pm.bind (Pm.bind (Pm.bind (Pm.bind (Pm.ret a_0) fun x6 => Pm.bind (Pm.ret []) fun x7 => Pm.ret (x6 :: x7)) (pc gJ)) fun x8 => Pm.of (iF x8)) fun x10 => lcP some (fun (x9 : Q) => (Pm.ret true)) (fun (x9 : Q) => (Pm.bind (Pm.ret x9) fun x11 => Pm.of (rZ x11))) x10) fun x12 => Pm.of (aDX x12)) fun x14 => Pm.of (cR x13 x14)) fun x15 => Pm.ret (.ret x15))
def pT (pc : Nat -> List Q -> Pm Q) (qs : List Q) : Pm (Fl Unit Unit) := match qs with
 | [a_0] => lV pc a_0
 | _ => .bad
theorem aB4 {cl : Cll} {pc : Nat -> List Q -> Pm Q} (ih : ∀ f,FnS (frT f) (cl f) (pc f)) (a_0 : Q) : SS' false (fun _ : Unit => []) none [.fz a_0, .no] (eC cl) (lV pc a_0) (fun _ : Unit => [.no, .no]) :=
 (cE trivial (aP fQ (aP aD1 (dH iH (aP dS (aD 0 rfl).toW aW.toW).toW).toW aW.toW).toW (dH aLw (vJ (vs := [1]) (i_e (cI (ih gJ) (aC (aD 0 rfl) aX))).toW (tg1 1) (fun x9 => mY) (fun x9 => (dH aDZ (aD 1 rfl).toW))).toW).toW))
theorem aA6 {cl : Cll} {pc : Nat -> List Q -> Pm Q} (ih : ∀ f,FnS (frT f) (cl f) (pc f)) : FnS false (fun ws h => if ws.length = 1 then eV (eC cl (aT 2 ws) h) else .bad) (fun qs => if qs.length = 1 then (pT pc qs).bind bV else .bad) :=
 hA (P := pT pc) (ΓL := fun _ : Unit => []) (ΓN := fun _ : Unit => [.no, .no]) fun qs hq => match qs,hq with
  | [a_0],_ => aB4 ih a_0
def nU (pc : Nat -> List Q -> Pm Q) (x8 : Q × Q) (x6 : Q) : Pm (Fl (Q) (Q)) :=
 (Pm.bind (nX "list" x6 (Pm.bind (Pm.bind (Pm.ret x8.2) fun x9 => Pm.of (sL x9)) fun x10 => Pm.of (nK x6 x10))) fun (x11 : Q) => Pm.ret (.nx x11))
def cX (pc : Nat -> List Q -> Pm Q) (a_0 a_1 : Q) : Pm (Fl Unit Unit) :=
 (Pm.seq (Pm.bind (Pm.bind (Pm.bind (Pm.ret a_1) fun x1 => Pm.bind (Pm.ret (Q.ty "str")) fun x2 => Pm.of (aV x1 x2)) fun x3 => Pm.of (cH x3)) fun x31 => if x31 = true then (Pm.bind (Pm.bind (Pm.ret []) fun x4 => Pm.ret (Q.lst x4)) fun (x5 : Q) => (Pm.seq (Pm.bind (Pm.bind (Pm.ret a_0) fun x7 => Pm.of (iF x7)) fun x12 => mL un2 (nU pc) x12 x5) (fun (x13 : Q) => (Pm.bind (Pm.ret (Q.str "abcdefghijklmnopqrstuvwxyz0123456789")) fun (x14 : Q) => (Pm.bind (Pm.bind (Pm.bind (Pm.ret (Q.int 0)) fun x25 => Pm.bind (Pm.bind (Pm.ret a_1) fun x24 => Pm.of (dN x24)) fun x26 => Pm.bind (Pm.of (qLt x25 x26)) fun x28 => cQ x28 (Pm.bind (Pm.ret (Q.int 9)) fun x27 => Pm.of (qLt x26 x27))) fun x29 => cQ x29 (Pm.bind (Pm.bind (Pm.bind (Pm.bind (Pm.ret a_1) fun x17 => Pm.of (iF x17)) fun x19 => lcP some (fun (x18 : Q) => (Pm.ret true)) (fun (x18 : Q) => (Pm.bind (Pm.ret x18) fun x20 => Pm.bind (Pm.ret x14) fun x21 => Pm.of (qIn x20 x21))) x19) fun x22 => Pm.of (tR x22)) fun x23 => cQ x23 (Pm.bind (Pm.ret a_1) fun x15 => Pm.bind (Pm.ret x13) fun x16 => Pm.of (qNi x15 x16)))) fun x30 => Pm.ret (.ret x30)))))) else (Pm.ret (.nx ()))) (fun (x32 : Unit) => (Pm.seq (Pm.bind (Pm.bind (Pm.bind (Pm.bind (Pm.bind (Pm.ret a_1) fun x37 => Pm.bind (Pm.ret (Q.ty "tuple")) fun x38 => Pm.of (aV x37 x38)) fun x39 => Pm.of (cH x39)) fun x40 => Pm.ret (!x40)) fun x41 => if x41 = true then Pm.ret true else (Pm.bind (Pm.bind (Pm.ret a_1) fun x34 => Pm.bind (Pm.bind (Pm.ret []) fun x33 => Pm.ret (Q.tup x33)) fun x35 => Pm.of (aBz x34 x35)) fun x36 => Pm.of (cH x36))) fun x43 => if x43 = true then (Pm.bind (Pm.ret (Q.bl false)) fun x42 => Pm.ret (.ret x42)) else (Pm.ret (.nx ()))) (fun (x44 : Unit) => (Pm.seq (Pm.bind (Pm.bind (Pm.bind (Pm.bind (Pm.ret a_1) fun x45 => Pm.bind (Pm.ret (Q.int 0)) fun x46 => Pm.of (qIx x45 x46)) fun x47 => Pm.bind (Pm.ret (Q.ty "str")) fun x48 => Pm.of (aV x47 x48)) fun x49 => Pm.of (cH x49)) fun x66 => if x66 = true then (Pm.bind (Pm.bind (Pm.bind (Pm.bind (Pm.ret a_1) fun x60 => Pm.bind (Pm.ret (Q.int 0)) fun x61 => Pm.of (qIx x60 x61)) fun x62 => Pm.bind (Pm.ret (Q.str "(")) fun x63 => Pm.of (qEq x62 x63)) fun x64 => cQ x64 (Pm.bind (Pm.bind (Pm.bind (Pm.ret a_1) fun x56 => Pm.of (dN x56)) fun x57 => Pm.bind (Pm.ret (Q.int 2)) fun x58 => Pm.of (qEq x57 x58)) fun x59 => cQ x59 (Pm.bind (Pm.bind (Pm.ret a_0) fun x54 => Pm.bind (Pm.bind (Pm.bind (Pm.ret a_1) fun x50 => Pm.bind (Pm.ret (Q.int 1)) fun x51 => Pm.of (qIx x50 x51)) fun x52 => Pm.bind (Pm.ret []) fun x53 => Pm.ret (x52 :: x53)) fun x55 => Pm.ret (x54 :: x55)) (pc bY)))) fun x65 => Pm.ret (.ret x65)) else (Pm.ret (.nx ()))) (fun (x67 : Unit) => (Pm.seq (Pm.bind (Pm.bind (Pm.bind (Pm.bind (Pm.bind (Pm.bind (Pm.ret a_1) fun x83 => Pm.bind (Pm.ret (Q.int 0)) fun x84 => Pm.of (qIx x83 x84)) fun x85 => Pm.bind (Pm.ret (Q.ty "int")) fun x86 => Pm.of (aV x85 x86)) fun x87 => Pm.of (cH x87)) fun x88 => Pm.ret (!x88)) fun x89 => if x89 = true then Pm.ret true else (Pm.bind (Pm.bind (Pm.bind (Pm.bind (Pm.ret a_1) fun x77 => Pm.bind (Pm.ret (Q.int 0)) fun x78 => Pm.of (qIx x77 x78)) fun x79 => Pm.bind (Pm.ret (Q.ty "bool")) fun x80 => Pm.of (aV x79 x80)) fun x81 => Pm.of (cH x81)) fun x82 => if x82 = true then Pm.ret true else (Pm.bind (Pm.bind (Pm.bind (Pm.ret (Q.int 0)) fun x71 => Pm.bind (Pm.bind (Pm.ret a_1) fun x68 => Pm.bind (Pm.ret (Q.int 0)) fun x69 => Pm.of (qIx x68 x69)) fun x72 => Pm.bind (Pm.of (qLe x71 x72)) fun x74 => cQ x74 (Pm.bind (Pm.bind (Pm.ret a_0) fun x70 => Pm.of (dN x70)) fun x73 => Pm.of (qLt x72 x73))) fun x75 => Pm.of (cH x75)) fun x76 => Pm.ret (!x76)))) fun x91 => if x91 = true then (Pm.bind (Pm.ret (Q.bl false)) fun x90 => Pm.ret (.ret x90)) else (Pm.ret (.nx ()))) (fun (x92 : Unit) => (Pm.seq (Pm.bind (Pm.bind (Pm.bind (Pm.bind (Pm.ret a_1) fun x93 => Pm.of (dN x93)) fun x102 => Pm.bind (Pm.bind (Pm.ret (Q.int 1)) fun x100 => Pm.bind (Pm.bind (Pm.bind (Pm.bind (Pm.ret a_0) fun x96 => Pm.bind (Pm.bind (Pm.ret a_1) fun x94 => Pm.bind (Pm.ret (Q.int 0)) fun x95 => Pm.of (qIx x94 x95)) fun x97 => Pm.of (qIx x96 x97)) fun x98 => Pm.bind (Pm.ret []) fun x99 => Pm.ret (x98 :: x99)) (pc cP)) fun x101 => Pm.of (cR x100 x101)) fun x103 => Pm.of (qNe x102 x103)) fun x104 => Pm.of (cH x104)) fun x106 => if x106 = true then (Pm.bind (Pm.ret (Q.bl false)) fun x105 => Pm.ret (.ret x105)) else (Pm.ret (.nx ()))) (fun (x107 : Unit) => (Pm.bind (Pm.bind (Pm.bind (Pm.bind (Pm.bind (Pm.ret a_1) fun x110 => Pm.bind (Pm.bind (Pm.ret (Q.int 1)) fun x108 => Pm.bind (Pm.of (iG x108)) fun x109 => Pm.ret (some x109)) fun x111 => Pm.bind (Pm.ret none) fun x112 => Pm.of (qSl x110 x111 x112)) fun x113 => Pm.of (iF x113)) fun x115 => lcP some (fun (x114 : Q) => (Pm.ret true)) (fun (x114 : Q) => (Pm.bind (Pm.bind (Pm.ret a_0) fun x118 => Pm.bind (Pm.bind (Pm.ret x114) fun x116 => Pm.bind (Pm.ret []) fun x117 => Pm.ret (x116 :: x117)) fun x119 => Pm.ret (x118 :: x119)) (pc bY))) x115) fun x120 => Pm.of (tR x120)) fun x121 => Pm.ret (.ret x121))))))))))))
def uF (pc : Nat -> List Q -> Pm Q) (qs : List Q) : Pm (Fl Unit Unit) := match qs with
 | [a_0,a_1] => cX pc a_0 a_1
 | _ => .bad
theorem aEa {cl : Cll} {pc : Nat -> List Q -> Pm Q} (ih : ∀ f,FnS (frT f) (cl f) (pc f)) (a_0 a_1 : Q) : SS' false (fun _ : Unit => []) none [.fz a_0, .fz a_1, .no, .no, .no, .no, .no, .no] (kH cl) (cX pc a_0 a_1) (fun _ : Unit => [.no, .no, .no, .no, .no, .no, .no, .no]) :=
 (eZ (ΓM := fun (x32 : Unit) => [.fz a_0, .fz a_1, .no, .no, .no, .no, .no, .no]) (iK trivial (t_b (aP jV (aD 1 rfl).toW mJ.toW).toW) (gZ (aFf 2 trivial (oI (by decide) aX)) (fun x5 => (eZ (aDj (Γ0 := fun (x6 : Q) => [.fz a_0, .fz a_1, .ow x6, .no, .no, .no, .no, .no]) (z := x5) trivial (i_e (aD 0 rfl)) (.eq (.eq (.eq (.no (.no (.no (.no (.no .nil)))))))) (tg2 3 4) (fun x8 x6 => (aKX (f := fun (x11 : Q) => x11) (aBJ 2 rfl trivial (aG0 aFh (aD 4 rfl).toW).toS) (fun x11 => (.eq (.eq (.eq (.no (.no (.no (.no (.no .nil)))))))))))) (fun x13 => (aGX 2 rfl (gZ (sN 5 trivial bE) (fun x14 => (cE trivial (oH (uJ aBL aBL aW.toW (dH iH (aD 1 rfl).toW).toW aW.toW).toW (oH (dH aAH (vJ (vs := [6]) (i_e (aD 1 rfl)).toW (tg1 6) (fun x18 => mY) (fun x18 => (aP aBK (aD 6 rfl).toW (aD 5 rfl).toW))).toW).toW (aP aM6 (aD 1 rfl).toW (aD 2 rfl).toW))))))))))) (fH (z := ()) (.eq (.eq (.no (.no (.no (.no (.no (.no .nil)))))))))) (fun x32 => (eZ (ΓM := fun (x44 : Unit) => [.fz a_0, .fz a_1, .no, .no, .no, .no, .no, .no]) (iK trivial (tZ (sT (t_b (aP jV (aD 1 rfl).toW mJ.toW).toW)) (t_b (aP aLt (aD 1 rfl).toW (cU (by decide) aX).toW).toW)) (cE trivial jH) (fH (z := ()) (.eq (.eq (.no (.no (.no (.no (.no (.no .nil)))))))))) (fun x44 => (eZ (ΓM := fun (x67 : Unit) => [.fz a_0, .fz a_1, .no, .no, .no, .no, .no, .no]) (iK trivial (t_b (aP jV (aP dS (aD 1 rfl).toW aW.toW).toW mJ.toW).toW) (cE trivial (oH (aP wB (aP dS (aD 1 rfl).toW aW.toW).toW bE.toW).toW (oH (aP wB (dH iH (aD 1 rfl).toW).toW aW.toW).toW (cI (ih bY) (aC (aD 0 rfl) (aC (aP dS (aD 1 rfl).toW aW.toW) aX)))))) (fH (z := ()) (.eq (.eq (.no (.no (.no (.no (.no (.no .nil)))))))))) (fun x67 => (eZ (ΓM := fun (x92 : Unit) => [.fz a_0, .fz a_1, .no, .no, .no, .no, .no, .no]) (iK trivial (tZ (sT (t_b (aP jV (aP dS (aD 1 rfl).toW aW.toW).toW mJ.toW).toW)) (tZ (t_b (aP jV (aP dS (aD 1 rfl).toW aW.toW).toW mJ.toW).toW) (sT (t_b (uJ aD0 aBL aW.toW (aP dS (aD 1 rfl).toW aW.toW).toW (dH iH (aD 0 rfl).toW).toW).toW)))) (cE trivial jH) (fH (z := ()) (.eq (.eq (.no (.no (.no (.no (.no (.no .nil)))))))))) (fun x92 => (eZ (ΓM := fun (x107 : Unit) => [.fz a_0, .fz a_1, .no, .no, .no, .no, .no, .no]) (iK trivial (t_b (aP aBM (dH iH (aD 1 rfl).toW).toW (aP fQ aW.toW (cI (ih cP) (aC (aP dS (aD 0 rfl).toW (aP dS (aD 1 rfl).toW aW.toW).toW) aX)).toW).toW).toW) (cE trivial jH) (fH (z := ()) (.eq (.eq (.no (.no (.no (.no (.no (.no .nil)))))))))) (fun x107 => (cE trivial (dH aAH (vJ (vs := [7]) (i_e (rC (aD 1 rfl).toW (jM aW.toW) lY)).toW (tg1 7) (fun x114 => mY) (fun x114 => (cI (ih bY) (aC (aD 0 rfl) (aC (aD 7 rfl) aX))))).toW))))))))))))
theorem aDw {cl : Cll} {pc : Nat -> List Q -> Pm Q} (ih : ∀ f,FnS (frT f) (cl f) (pc f)) : FnS false (fun ws h => if ws.length = 2 then eV (kH cl (aT 8 ws) h) else .bad) (fun qs => if qs.length = 2 then (uF pc qs).bind bV else .bad) :=
 hA (P := uF pc) (ΓL := fun _ : Unit => []) (ΓN := fun _ : Unit => [.no, .no, .no, .no, .no, .no, .no, .no]) fun qs hq => match qs,hq with
  | [a_0,a_1],_ => aEa ih a_0 a_1
def hM (pc : Nat -> List Q -> Pm Q) (a_0 a_1 a_2 a_3 : Q) : Pm (Fl Unit Unit) :=
 (Pm.bind (Pm.bind (Pm.bind (Pm.bind (Pm.ret (Q.str "")) fun x17 => Pm.bind (Pm.bind (Pm.ret (Q.str "ninechars")) fun x15 => Pm.bind (Pm.bind (Pm.ret (Q.str "a b")) fun x13 => Pm.bind (Pm.bind (Pm.ret (Q.str "A")) fun x11 => Pm.bind (Pm.bind (Pm.ret (Q.str "(")) fun x9 => Pm.bind (Pm.bind (Pm.ret (Q.str ")")) fun x7 => Pm.bind (Pm.bind (Pm.ret (Q.str "a(")) fun x5 => Pm.bind (Pm.bind (Pm.ret (Q.str "0")) fun x3 => Pm.bind (Pm.bind (Pm.ret (Q.str "x")) fun x1 => Pm.bind (Pm.ret []) fun x2 => Pm.ret (x1 :: x2)) fun x4 => Pm.ret (x3 :: x4)) fun x6 => Pm.ret (x5 :: x6)) fun x8 => Pm.ret (x7 :: x8)) fun x10 => Pm.ret (x9 :: x10)) fun x12 => Pm.ret (x11 :: x12)) fun x14 => Pm.ret (x13 :: x14)) fun x16 => Pm.ret (x15 :: x16)) fun x18 => Pm.ret (x17 :: x18)) fun x19 => Pm.ret (Q.lst x19)) fun x27 => Pm.bind (Pm.bind (Pm.bind (Pm.ret a_1) fun x20 => Pm.of (iF x20)) fun x22 => lcP some (fun (x21 : Q) => (Pm.ret true)) (fun (x21 : Q) => (Pm.bind (Pm.bind (Pm.ret x21) fun x23 => Pm.bind (Pm.ret (Q.int 1)) fun x24 => Pm.of (qIx x23 x24)) fun x25 => Pm.bind (Pm.ret (Q.int 0)) fun x26 => Pm.of (qIx x25 x26))) x22) fun x28 => Pm.of (cR x27 x28)) fun (x29 : Q) => (Pm.bind (Pm.bind (Pm.ret x29) fun x72 => Pm.bind (Pm.bind (Pm.bind (Pm.ret Q.non) fun x69 => Pm.bind (Pm.bind (Pm.ret (Q.bl true)) fun x67 => Pm.bind (Pm.bind (Pm.ret (Q.int 0)) fun x65 => Pm.bind (Pm.bind (Pm.bind (Pm.ret (Q.int 1)) fun x62 => Pm.of (aDV x62)) fun x63 => Pm.bind (Pm.bind (Pm.bind (Pm.ret a_1) fun x59 => Pm.of (dN x59)) fun x60 => Pm.bind (Pm.bind (Pm.bind (Pm.ret []) fun x56 => Pm.ret (Q.tup x56)) fun x57 => Pm.bind (Pm.bind (Pm.bind (Pm.ret []) fun x53 => Pm.ret (Q.lst x53)) fun x54 => Pm.bind (Pm.bind (Pm.ret (Q.dK [])) fun x51 => Pm.bind (Pm.bind (Pm.bind (Pm.bind (Pm.ret (Q.str "(")) fun x46 => Pm.bind (Pm.ret []) fun x47 => Pm.ret (x46 :: x47)) fun x48 => Pm.ret (Q.tup x48)) fun x49 => Pm.bind (Pm.bind (Pm.bind (Pm.bind (Pm.ret (Q.str "(")) fun x41 => Pm.bind (Pm.bind (Pm.ret (Q.str "a")) fun x39 => Pm.bind (Pm.bind (Pm.ret (Q.str "b")) fun x37 => Pm.bind (Pm.ret []) fun x38 => Pm.ret (x37 :: x38)) fun x40 => Pm.ret (x39 :: x40)) fun x42 => Pm.ret (x41 :: x42)) fun x43 => Pm.ret (Q.tup x43)) fun x44 => Pm.bind (Pm.bind (Pm.bind (Pm.bind (Pm.ret (Q.str "(")) fun x32 => Pm.bind (Pm.bind (Pm.ret (Q.str "")) fun x30 => Pm.bind (Pm.ret []) fun x31 => Pm.ret (x30 :: x31)) fun x33 => Pm.ret (x32 :: x33)) fun x34 => Pm.ret (Q.tup x34)) fun x35 => Pm.bind (Pm.ret []) fun x36 => Pm.ret (x35 :: x36)) fun x45 => Pm.ret (x44 :: x45)) fun x50 => Pm.ret (x49 :: x50)) fun x52 => Pm.ret (x51 :: x52)) fun x55 => Pm.ret (x54 :: x55)) fun x58 => Pm.ret (x57 :: x58)) fun x61 => Pm.ret (x60 :: x61)) fun x64 => Pm.ret (x63 :: x64)) fun x66 => Pm.ret (x65 :: x66)) fun x68 => Pm.ret (x67 :: x68)) fun x70 => Pm.ret (x69 :: x70)) fun x71 => Pm.ret (Q.lst x71)) fun x73 => Pm.of (cR x72 x73)) fun (x74 : Q) => (Pm.bind (Pm.bind (Pm.ret x74) fun x106 => Pm.bind (Pm.bind (Pm.bind (Pm.bind (Pm.bind (Pm.ret (Q.int 0)) fun x100 => Pm.bind (Pm.ret []) fun x101 => Pm.ret (x100 :: x101)) fun x102 => Pm.ret (Q.tup x102)) fun x103 => Pm.bind (Pm.bind (Pm.bind (Pm.bind (Pm.ret (Q.bl true)) fun x95 => Pm.bind (Pm.bind (Pm.ret (Q.str "a")) fun x93 => Pm.bind (Pm.bind (Pm.ret (Q.str "b")) fun x91 => Pm.bind (Pm.ret []) fun x92 => Pm.ret (x91 :: x92)) fun x94 => Pm.ret (x93 :: x94)) fun x96 => Pm.ret (x95 :: x96)) fun x97 => Pm.ret (Q.tup x97)) fun x98 => Pm.bind (Pm.bind (Pm.bind (Pm.bind (Pm.ret (Q.bl true)) fun x86 => Pm.bind (Pm.bind (Pm.ret (Q.str "a")) fun x84 => Pm.bind (Pm.ret []) fun x85 => Pm.ret (x84 :: x85)) fun x87 => Pm.ret (x86 :: x87)) fun x88 => Pm.ret (Q.tup x88)) fun x89 => Pm.bind (Pm.bind (Pm.bind (Pm.bind (Pm.ret (Q.int 0)) fun x79 => Pm.bind (Pm.bind (Pm.ret (Q.str "a")) fun x77 => Pm.bind (Pm.bind (Pm.ret (Q.str "b")) fun x75 => Pm.bind (Pm.ret []) fun x76 => Pm.ret (x75 :: x76)) fun x78 => Pm.ret (x77 :: x78)) fun x80 => Pm.ret (x79 :: x80)) fun x81 => Pm.ret (Q.tup x81)) fun x82 => Pm.bind (Pm.ret []) fun x83 => Pm.ret (x82 :: x83)) fun x90 => Pm.ret (x89 :: x90)) fun x99 => Pm.ret (x98 :: x99)) fun x104 => Pm.ret (x103 :: x104)) fun x105 => Pm.ret (Q.lst x105)) fun x107 => Pm.of (cR x106 x107)) fun (x108 : Q) => (Pm.seq (Pm.bind (Pm.bind (Pm.bind (Pm.bind (Pm.ret a_2) fun x120 => Pm.bind (Pm.ret (Q.ty "tuple")) fun x121 => Pm.of (aV x120 x121)) fun x122 => Pm.of (cH x122)) fun x123 => if x123 = true then (Pm.bind (Pm.bind (Pm.bind (Pm.ret a_3) fun x116 => Pm.bind (Pm.ret (Q.int 0)) fun x117 => Pm.of (qGt x116 x117)) fun x118 => Pm.of (cH x118)) fun x119 => if x119 = true then (Pm.bind (Pm.bind (Pm.bind (Pm.bind (Pm.ret a_0) fun x111 => Pm.bind (Pm.bind (Pm.ret (Q.int 5)) fun x109 => Pm.bind (Pm.ret []) fun x110 => Pm.ret (x109 :: x110)) fun x112 => Pm.ret (x111 :: x112)) (pc aQ)) fun x113 => Pm.bind (Pm.ret (Q.int 0)) fun x114 => Pm.of (qGt x113 x114)) fun x115 => Pm.of (cH x115)) else Pm.ret false) else Pm.ret false) fun x229 => if x229 = true then (Pm.bind (Pm.bind (Pm.bind (Pm.bind (Pm.bind (Pm.bind (Pm.ret a_0) fun x133 => Pm.bind (Pm.bind (Pm.bind (Pm.ret a_2) fun x130 => Pm.of (dN x130)) fun x131 => Pm.bind (Pm.ret []) fun x132 => Pm.ret (x131 :: x132)) fun x134 => Pm.ret (x133 :: x134)) (pc aQ)) fun x135 => Pm.bind (Pm.bind (Pm.bind (Pm.bind (Pm.ret a_0) fun x126 => Pm.bind (Pm.bind (Pm.ret (Q.int 8)) fun x124 => Pm.bind (Pm.ret []) fun x125 => Pm.ret (x124 :: x125)) fun x127 => Pm.ret (x126 :: x127)) (pc aQ)) fun x128 => Pm.bind (Pm.ret []) fun x129 => Pm.ret (x128 :: x129)) fun x136 => Pm.ret (x135 :: x136)) fun x137 => Pm.ret (Q.tup x137)) fun x138 => Pm.of (un2 x138)) fun (x139 : Q × Q) => (Pm.seq (Pm.bind (Pm.bind (Pm.bind (Pm.ret x139.2) fun x140 => Pm.bind (Pm.ret (Q.int 0)) fun x141 => Pm.of (qEq x140 x141)) fun x142 => Pm.of (cH x142)) fun x158 => if x158 = true then (Pm.bind (Pm.bind (Pm.bind (Pm.ret a_2) fun x145 => Pm.bind (Pm.ret none) fun x146 => Pm.bind (Pm.bind (Pm.ret x139.1) fun x143 => Pm.bind (Pm.of (iG x143)) fun x144 => Pm.ret (some x144)) fun x147 => Pm.of (qSl x145 x146 x147)) fun x155 => Pm.bind (Pm.bind (Pm.ret a_2) fun x152 => Pm.bind (Pm.bind (Pm.bind (Pm.ret x139.1) fun x148 => Pm.bind (Pm.ret (Q.int 1)) fun x149 => Pm.of (cR x148 x149)) fun x150 => Pm.bind (Pm.of (iG x150)) fun x151 => Pm.ret (some x151)) fun x153 => Pm.bind (Pm.ret none) fun x154 => Pm.of (qSl x152 x153 x154)) fun x156 => Pm.of (cR x155 x156)) fun x157 => Pm.ret (.ret x157)) else (Pm.ret (.nx ()))) (fun (x159 : Unit) => (Pm.seq (Pm.bind (Pm.bind (Pm.bind (Pm.ret x139.2) fun x160 => Pm.bind (Pm.ret (Q.int 1)) fun x161 => Pm.of (qEq x160 x161)) fun x162 => Pm.of (cH x162)) fun x187 => if x187 = true then (Pm.bind (Pm.bind (Pm.bind (Pm.bind (Pm.ret a_2) fun x165 => Pm.bind (Pm.ret none) fun x166 => Pm.bind (Pm.bind (Pm.ret x139.1) fun x163 => Pm.bind (Pm.of (iG x163)) fun x164 => Pm.ret (some x164)) fun x167 => Pm.of (qSl x165 x166 x167)) fun x177 => Pm.bind (Pm.bind (Pm.ret a_2) fun x174 => Pm.bind (Pm.bind (Pm.ret x139.1) fun x168 => Pm.bind (Pm.of (iG x168)) fun x169 => Pm.ret (some x169)) fun x175 => Pm.bind (Pm.bind (Pm.bind (Pm.ret x139.1) fun x170 => Pm.bind (Pm.ret (Q.int 1)) fun x171 => Pm.of (cR x170 x171)) fun x172 => Pm.bind (Pm.of (iG x172)) fun x173 => Pm.ret (some x173)) fun x176 => Pm.of (qSl x174 x175 x176)) fun x178 => Pm.of (cR x177 x178)) fun x184 => Pm.bind (Pm.bind (Pm.ret a_2) fun x181 => Pm.bind (Pm.bind (Pm.ret x139.1) fun x179 => Pm.bind (Pm.of (iG x179)) fun x180 => Pm.ret (some x180)) fun x182 => Pm.bind (Pm.ret none) fun x183 => Pm.of (qSl x181 x182 x183)) fun x185 => Pm.of (cR x184 x185)) fun x186 => Pm.ret (.ret x186)) else (Pm.ret (.nx ()))) (fun (x188 : Unit) => (Pm.seq (Pm.bind (Pm.bind (Pm.bind (Pm.ret x139.2) fun x189 => Pm.bind (Pm.ret (Q.int 2)) fun x190 => Pm.of (qEq x189 x190)) fun x191 => Pm.of (cH x191)) fun x194 => if x194 = true then (Pm.bind (Pm.bind (Pm.ret a_2) fun x192 => Pm.of (sL x192)) fun x193 => Pm.ret (.ret x193)) else (Pm.ret (.nx ()))) (fun (x195 : Unit) => (Pm.bind (Pm.bind (Pm.bind (Pm.ret a_0) fun x206 => Pm.bind (Pm.bind (Pm.ret a_1) fun x204 => Pm.bind (Pm.bind (Pm.bind (Pm.ret a_2) fun x200 => Pm.bind (Pm.ret x139.1) fun x201 => Pm.of (qIx x200 x201)) fun x202 => Pm.bind (Pm.bind (Pm.bind (Pm.ret a_3) fun x196 => Pm.bind (Pm.ret (Q.int 1)) fun x197 => Pm.of (tT x196 x197)) fun x198 => Pm.bind (Pm.ret []) fun x199 => Pm.ret (x198 :: x199)) fun x203 => Pm.ret (x202 :: x203)) fun x205 => Pm.ret (x204 :: x205)) fun x207 => Pm.ret (x206 :: x207)) (pc cC)) fun (x208 : Q) => (Pm.bind (Pm.bind (Pm.bind (Pm.bind (Pm.ret a_2) fun x211 => Pm.bind (Pm.ret none) fun x212 => Pm.bind (Pm.bind (Pm.ret x139.1) fun x209 => Pm.bind (Pm.of (iG x209)) fun x210 => Pm.ret (some x210)) fun x213 => Pm.of (qSl x211 x212 x213)) fun x217 => Pm.bind (Pm.bind (Pm.bind (Pm.ret x208) fun x214 => Pm.bind (Pm.ret []) fun x215 => Pm.ret (x214 :: x215)) fun x216 => Pm.ret (Q.tup x216)) fun x218 => Pm.of (cR x217 x218)) fun x226 => Pm.bind (Pm.bind (Pm.ret a_2) fun x223 => Pm.bind (Pm.bind (Pm.bind (Pm.ret x139.1) fun x219 => Pm.bind (Pm.ret (Q.int 1)) fun x220 => Pm.of (cR x219 x220)) fun x221 => Pm.bind (Pm.of (iG x221)) fun x222 => Pm.ret (some x222)) fun x224 => Pm.bind (Pm.ret none) fun x225 => Pm.of (qSl x223 x224 x225)) fun x227 => Pm.of (cR x226 x227)) fun x228 => Pm.ret (.ret x228)))))))))) else (Pm.ret (.nx ()))) (fun (x230 : Unit) => (Pm.bind (Pm.bind (Pm.bind (Pm.ret a_0) fun x233 => Pm.bind (Pm.bind (Pm.ret x108) fun x231 => Pm.bind (Pm.ret []) fun x232 => Pm.ret (x231 :: x232)) fun x234 => Pm.ret (x233 :: x234)) (pc bH)) fun x235 => Pm.ret (.ret x235)))))))
def mP (pc : Nat -> List Q -> Pm Q) (qs : List Q) : Pm (Fl Unit Unit) := match qs with
 | [a_0,a_1,a_2,a_3] => hM pc a_0 a_1 a_2 a_3
 | _ => .bad
theorem zF {cl : Cll} {pc : Nat -> List Q -> Pm Q} (ih : ∀ f,FnS (frT f) (cl f) (pc f)) (a_0 a_1 a_2 a_3 : Q) : SS' false (fun _ : Unit => []) none [.fz a_0, .fz a_1, .fz a_2, .fz a_3, .no, .no, .no, .no, .no, .no] (fE cl) (hM pc a_0 a_1 a_2 a_3) (fun _ : Unit => [.no, .no, .no, .no, .no, .no, .no, .no, .no, .no]) :=
 (gZ (sN 4 trivial (aP fQ (oI (by decide) (aC bE (aC bE (aC bE (aC bE (aC bE (aC bE (aC bE (aC bE (aC bE aX)))))))))).toW (vJ (vs := [5]) (i_e (aD 1 rfl)).toW (tg1 5) (fun x21 => mY) (fun x21 => (aP dS (aP dS (aD 5 rfl).toW aW.toW).toW aW.toW))).toW)) (fun x29 => (gZ (sN 6 trivial (aP fQ (aD 4 rfl).toW (oI (by decide) (aC aG1 (aC jH (aC aW (aC (dH aLv aW.toW) (aC (dH iH (aD 1 rfl).toW) (aC (cU (by decide) aX) (aC (oI (by decide) aX).toS (aC aGZ.toS (aC (cU (by decide) (aC bE aX)) (aC (cU (by decide) (aC bE (aC bE (aC bE aX)))) (aC (cU (by decide) (aC bE (aC bE aX))) aX)))))))))))).toW)) (fun x74 => (gZ (sN 6 trivial (aP fQ (aD 6 rfl).toW (oI (by decide) (aC (cU (by decide) (aC aW aX)) (aC (cU (by decide) (aC jH (aC bE (aC bE aX)))) (aC (cU (by decide) (aC jH (aC bE aX))) (aC (cU (by decide) (aC aW (aC bE (aC bE aX)))) aX))))).toW)) (fun x108 => (eZ (ΓM := fun (x230 : Unit) => [.fz a_0, .no, .no, .no, .no, .no, .fz x108, .no, .no, .no]) (iK trivial (aHp (t_b (aP jV (aD 2 rfl).toW mJ.toW).toW) (aHp (t_b (aP aJN (aD 3 rfl).toW aW.toW).toW) (t_b (aP aJN (cI (ih aQ) (aC (aD 0 rfl) (aC aW aX))).toW aW.toW).toW))) (gZ (aFg (tg2 7 8) trivial (cU (by decide) (aC (cI (ih aQ) (aC (aD 0 rfl) (aC (dH iH (aD 2 rfl).toW) aX))) (aC (cI (ih aQ) (aC (aD 0 rfl) (aC aW aX))) aX)))) (fun x139 => (eZ (ΓM := fun (x159 : Unit) => [.fz a_0, .fz a_1, .fz a_2, .fz a_3, .no, .no, .fz x108, .fz x139.1, .fz x139.2, .no]) (iK trivial (t_b (aP wB (aD 8 rfl).toW aW.toW).toW) (cE trivial (aP fQ (rC (aD 2 rfl).toW lY (jM (aD 7 rfl).toW)).toW (rC (aD 2 rfl).toW (jM (aP fQ (aD 7 rfl).toW aW.toW).toW) lY).toW)) (fH (z := ()) (.eq (.eq (.eq (.eq (.no (.no (.eq (.eq (.eq (.no .nil)))))))))))) (fun x159 => (eZ (ΓM := fun (x188 : Unit) => [.fz a_0, .fz a_1, .fz a_2, .fz a_3, .no, .no, .fz x108, .fz x139.1, .fz x139.2, .no]) (iK trivial (t_b (aP wB (aD 8 rfl).toW aW.toW).toW) (cE trivial (aP fQ (aP fQ (rC (aD 2 rfl).toW lY (jM (aD 7 rfl).toW)).toW (rC (aD 2 rfl).toW (jM (aD 7 rfl).toW) (jM (aP fQ (aD 7 rfl).toW aW.toW).toW)).toW).toW (rC (aD 2 rfl).toW (jM (aD 7 rfl).toW) lY).toW)) (fH (z := ()) (.eq (.eq (.eq (.eq (.no (.no (.eq (.eq (.eq (.no .nil)))))))))))) (fun x188 => (eZ (ΓM := fun (x195 : Unit) => [.fz a_0, .fz a_1, .fz a_2, .fz a_3, .no, .no, .fz x108, .fz x139.1, .no, .no]) (iK trivial (t_b (aP wB (aD 8 rfl).toW aW.toW).toW) (cE trivial (aG0 aFh (aD 2 rfl).toW).toS) (fH (z := ()) (.eq (.eq (.eq (.eq (.no (.no (.eq (.eq (.no (.no .nil)))))))))))) (fun x195 => (gZ (sN 9 trivial (cI (ih cC) (aC (aD 0 rfl) (aC (aD 1 rfl) (aC (aP dS (aD 2 rfl).toW (aD 7 rfl).toW) (aC (aP aD1 (aD 3 rfl).toW aW.toW) aX)))))) (fun x208 => (cE trivial (aP fQ (aP fQ (rC (aD 2 rfl).toW lY (jM (aD 7 rfl).toW)).toW (cU (by decide) (aC (aD 9 rfl) aX)).toW).toW (rC (aD 2 rfl).toW (jM (aP fQ (aD 7 rfl).toW aW.toW).toW) lY).toW)))))))))))) (fH (z := ()) (.eq (.no (.no (.no (.no (.no (.eq (.no (.no (.no .nil)))))))))))) (fun x230 => (cE trivial (cI (ih bH) (aC (aD 0 rfl) (aC (aD 6 rfl) aX))))))))))))
theorem yJ {cl : Cll} {pc : Nat -> List Q -> Pm Q} (ih : ∀ f,FnS (frT f) (cl f) (pc f)) : FnS false (fun ws h => if ws.length = 4 then eV (fE cl (aT 10 ws) h) else .bad) (fun qs => if qs.length = 4 then (mP pc qs).bind bV else .bad) :=
 hA (P := mP pc) (ΓL := fun _ : Unit => []) (ΓN := fun _ : Unit => [.no, .no, .no, .no, .no, .no, .no, .no, .no, .no]) fun qs hq => match qs,hq with
  | [a_0,a_1,a_2,a_3],_ => zF ih a_0 a_1 a_2 a_3
def qB (pc : Nat -> List Q -> Pm Q) (a_0 : Q) (x5 : Q) (x71 : Q) (x69 : Q) : Pm (Fl (Q) (Q)) :=
 (Pm.bind (Pm.bind (Pm.bind (Pm.ret a_0) fun x78 => Pm.bind (Pm.bind (Pm.ret x5) fun x76 => Pm.bind (Pm.bind (Pm.ret (Q.int 8)) fun x74 => Pm.bind (Pm.bind (Pm.ret (Q.int 3)) fun x72 => Pm.bind (Pm.ret []) fun x73 => Pm.ret (x72 :: x73)) fun x75 => Pm.ret (x74 :: x75)) fun x77 => Pm.ret (x76 :: x77)) fun x79 => Pm.ret (x78 :: x79)) (pc fI)) fun (x80 : Q) => (Pm.bind (nX "list" x69 (Pm.bind (Pm.bind (Pm.bind (Pm.bind (Pm.ret x80) fun x81 => Pm.bind (Pm.ret []) fun x82 => Pm.ret (x81 :: x82)) fun x83 => Pm.ret (Q.lst x83)) fun x95 => Pm.bind (Pm.bind (Pm.bind (Pm.ret (Q.int 15)) fun x84 => Pm.of (oQ x84)) fun x86 => lcP some (fun (x85 : Q) => (Pm.ret true)) (fun (x85 : Q) => (Pm.bind (Pm.bind (Pm.ret a_0) fun x93 => Pm.bind (Pm.bind (Pm.ret x5) fun x91 => Pm.bind (Pm.bind (Pm.ret x80) fun x89 => Pm.bind (Pm.bind (Pm.ret (Q.int 8)) fun x87 => Pm.bind (Pm.ret []) fun x88 => Pm.ret (x87 :: x88)) fun x90 => Pm.ret (x89 :: x90)) fun x92 => Pm.ret (x91 :: x92)) fun x94 => Pm.ret (x93 :: x94)) (pc cC))) x86) fun x96 => Pm.of (cR x95 x96)) fun x97 => Pm.of (nK x69 x97))) fun (x98 : Q) => (Pm.bind (Pm.bind (Pm.bind (Pm.bind (Pm.bind (Pm.ret x5) fun x101 => Pm.bind (Pm.bind (Pm.ret x80) fun x99 => Pm.bind (Pm.ret []) fun x100 => Pm.ret (x99 :: x100)) fun x102 => Pm.ret (x101 :: x102)) (pc bF)) fun x103 => Pm.bind (Pm.ret (Q.bl true)) fun x104 => Pm.of (aBA x103 x104)) fun x105 => Pm.of (cH x105)) fun x107 => if x107 = true then (Pm.bind (Pm.ret (Q.bl false)) fun x106 => Pm.ret (.ret x106)) else (Pm.ret (.nx x98)))))
def gF (pc : Nat -> List Q -> Pm Q) (x5 : Q) (x112 : Q) (x110 : Unit) : Pm (Fl (Unit) (Unit)) :=
 (Pm.bind (Pm.bind (Pm.bind (Pm.bind (Pm.bind (Pm.ret x112) fun x120 => Pm.of (hU x120)) fun x121 => Pm.bind (Pm.bind (Pm.bind (Pm.bind (Pm.bind (Pm.ret x5) fun x115 => Pm.bind (Pm.bind (Pm.ret x112) fun x113 => Pm.bind (Pm.ret []) fun x114 => Pm.ret (x113 :: x114)) fun x116 => Pm.ret (x115 :: x116)) (pc bY)) fun x117 => Pm.of (hU x117)) fun x118 => Pm.bind (Pm.ret []) fun x119 => Pm.ret (x118 :: x119)) fun x122 => Pm.ret (x121 :: x122)) fun x123 => Pm.ret (Q.tup x123)) fun x124 => Pm.of (un2 x124)) fun (x125 : Q × Q) => (Pm.seq (Pm.bind (Pm.bind (Pm.bind (Pm.bind (Pm.bind (Pm.bind (Pm.bind (Pm.ret x5) fun x137 => Pm.bind (Pm.bind (Pm.ret x112) fun x135 => Pm.bind (Pm.ret []) fun x136 => Pm.ret (x135 :: x136)) fun x138 => Pm.ret (x137 :: x138)) (pc bF)) fun x139 => Pm.of (hU x139)) fun x140 => Pm.bind (Pm.ret x125.2) fun x141 => Pm.of (qNe x140 x141)) fun x142 => Pm.of (cH x142)) fun x143 => if x143 = true then Pm.ret true else (Pm.bind (Pm.bind (Pm.bind (Pm.bind (Pm.bind (Pm.ret x112) fun x128 => Pm.bind (Pm.bind (Pm.ret x5) fun x126 => Pm.bind (Pm.ret []) fun x127 => Pm.ret (x126 :: x127)) fun x129 => Pm.ret (x128 :: x129)) fun x130 => Pm.bind (Pm.of (dQ [1,0] x130)) (pc bF)) fun x131 => Pm.of (hU x131)) fun x132 => Pm.bind (Pm.ret x125.2) fun x133 => Pm.of (qNe x132 x133)) fun x134 => Pm.of (cH x134))) fun x145 => if x145 = true then (Pm.bind (Pm.ret (Q.bl false)) fun x144 => Pm.ret (.ret x144)) else (Pm.ret (.nx ()))) (fun (x146 : Unit) => (Pm.bind (Pm.bind (Pm.bind (Pm.bind (Pm.ret x112) fun x147 => Pm.of (hU x147)) fun x148 => Pm.bind (Pm.ret x125.1) fun x149 => Pm.of (qNe x148 x149)) fun x150 => Pm.of (cH x150)) fun x152 => if x152 = true then (Pm.bind (Pm.ret (Q.bl false)) fun x151 => Pm.ret (.ret x151)) else (Pm.ret (.nx ()))))))
def lW (pc : Nat -> List Q -> Pm Q) (a_0 : Q) : Pm (Fl Unit Unit) :=
 (Pm.bind (Pm.bind (Pm.bind (Pm.ret a_0) fun x3 => Pm.bind (Pm.bind (Pm.ret (Q.int 6)) fun x1 => Pm.bind (Pm.ret []) fun x2 => Pm.ret (x1 :: x2)) fun x4 => Pm.ret (x3 :: x4)) (pc dB)) fun (x5 : Q) => (Pm.bind (Pm.bind (Pm.bind (Pm.ret Q.non) fun x65 => Pm.bind (Pm.bind (Pm.ret (Q.bl true)) fun x63 => Pm.bind (Pm.bind (Pm.ret (Q.int 0)) fun x61 => Pm.bind (Pm.bind (Pm.ret (Q.str "")) fun x59 => Pm.bind (Pm.bind (Pm.ret (Q.str "a")) fun x57 => Pm.bind (Pm.bind (Pm.ret (Q.str "(")) fun x55 => Pm.bind (Pm.bind (Pm.bind (Pm.ret []) fun x52 => Pm.ret (Q.tup x52)) fun x53 => Pm.bind (Pm.bind (Pm.bind (Pm.ret []) fun x49 => Pm.ret (Q.lst x49)) fun x50 => Pm.bind (Pm.bind (Pm.ret (Q.dK [])) fun x47 => Pm.bind (Pm.bind (Pm.bind (Pm.bind (Pm.ret (Q.str "a")) fun x42 => Pm.bind (Pm.ret []) fun x43 => Pm.ret (x42 :: x43)) fun x44 => Pm.ret (Q.tup x44)) fun x45 => Pm.bind (Pm.bind (Pm.bind (Pm.bind (Pm.ret (Q.str "(")) fun x37 => Pm.bind (Pm.bind (Pm.ret (Q.str "a")) fun x35 => Pm.bind (Pm.ret []) fun x36 => Pm.ret (x35 :: x36)) fun x38 => Pm.ret (x37 :: x38)) fun x39 => Pm.ret (Q.tup x39)) fun x40 => Pm.bind (Pm.bind (Pm.bind (Pm.bind (Pm.bind (Pm.bind (Pm.ret (Q.str "(")) fun x27 => Pm.bind (Pm.bind (Pm.ret (Q.str "a")) fun x25 => Pm.bind (Pm.ret []) fun x26 => Pm.ret (x25 :: x26)) fun x28 => Pm.ret (x27 :: x28)) fun x29 => Pm.ret (Q.tup x29)) fun x30 => Pm.bind (Pm.ret []) fun x31 => Pm.ret (x30 :: x31)) fun x32 => Pm.ret (Q.tup x32)) fun x33 => Pm.bind (Pm.bind (Pm.bind (Pm.bind (Pm.ret (Q.str "(")) fun x20 => Pm.bind (Pm.bind (Pm.bind (Pm.bind (Pm.ret (Q.str "(")) fun x15 => Pm.bind (Pm.bind (Pm.ret (Q.str "a")) fun x13 => Pm.bind (Pm.ret []) fun x14 => Pm.ret (x13 :: x14)) fun x16 => Pm.ret (x15 :: x16)) fun x17 => Pm.ret (Q.tup x17)) fun x18 => Pm.bind (Pm.ret []) fun x19 => Pm.ret (x18 :: x19)) fun x21 => Pm.ret (x20 :: x21)) fun x22 => Pm.ret (Q.tup x22)) fun x23 => Pm.bind (Pm.bind (Pm.bind (Pm.bind (Pm.ret (Q.str "a")) fun x8 => Pm.bind (Pm.bind (Pm.ret (Q.str "b")) fun x6 => Pm.bind (Pm.ret []) fun x7 => Pm.ret (x6 :: x7)) fun x9 => Pm.ret (x8 :: x9)) fun x10 => Pm.ret (Q.tup x10)) fun x11 => Pm.bind (Pm.ret []) fun x12 => Pm.ret (x11 :: x12)) fun x24 => Pm.ret (x23 :: x24)) fun x34 => Pm.ret (x33 :: x34)) fun x41 => Pm.ret (x40 :: x41)) fun x46 => Pm.ret (x45 :: x46)) fun x48 => Pm.ret (x47 :: x48)) fun x51 => Pm.ret (x50 :: x51)) fun x54 => Pm.ret (x53 :: x54)) fun x56 => Pm.ret (x55 :: x56)) fun x58 => Pm.ret (x57 :: x58)) fun x60 => Pm.ret (x59 :: x60)) fun x62 => Pm.ret (x61 :: x62)) fun x64 => Pm.ret (x63 :: x64)) fun x66 => Pm.ret (x65 :: x66)) fun x67 => Pm.ret (Q.lst x67)) fun (x68 : Q) => (Pm.seq (Pm.bind (Pm.bind (Pm.ret (Q.int 5)) fun x70 => Pm.of (oQ x70)) fun x108 => mL some (qB pc a_0 x5) x108 x68) (fun (x109 : Q) => (Pm.seq (Pm.bind (Pm.bind (Pm.ret x109) fun x111 => Pm.of (iF x111)) fun x153 => mL some (gF pc x5) x153 ()) (fun (x154 : Unit) => (Pm.bind (Pm.ret (Q.bl true)) fun x155 => Pm.ret (.ret x155))))))))
def pU (pc : Nat -> List Q -> Pm Q) (qs : List Q) : Pm (Fl Unit Unit) := match qs with
 | [a_0] => lW pc a_0
 | _ => .bad
theorem aB5 {cl : Cll} {pc : Nat -> List Q -> Pm Q} (ih : ∀ f,FnS (frT f) (cl f) (pc f)) (a_0 : Q) : SS' false (fun _ : Unit => []) none [.fz a_0, .no, .no, .no, .no, .no, .no, .no, .no] (iE cl) (lW pc a_0) (fun _ : Unit => [.no, .no, .no, .no, .no, .no, .no, .no, .no]) :=
 (gZ (sN 1 trivial (cI (ih dB) (aC (aD 0 rfl) (aC aW aX)))) (fun x5 => (gZ (aFf 2 trivial (oI (by decide) (aC aG1 (aC jH (aC aW (aC bE (aC bE (aC bE (aC (cU (by decide) aX) (aC (oI (by decide) aX).toS (aC aGZ.toS (aC (cU (by decide) (aC bE aX)) (aC (cU (by decide) (aC bE (aC bE aX))) (aC (cU (by decide) (aC (cU (by decide) (aC bE (aC bE aX))) aX)) (aC (cU (by decide) (aC bE (aC (cU (by decide) (aC bE (aC bE aX))) aX))) (aC (cU (by decide) (aC bE (aC bE aX))) aX)))))))))))))))) (fun x68 => (eZ (aDj (Γ0 := fun (x69 : Q) => [.fz a_0, .fz x5, .ow x69, .no, .no, .no, .no, .no, .no]) (z := x68) trivial (aI4 aW.toW) (.eq (.eq (.eq (.no (.no (.no (.no (.no (.no .nil))))))))) (tg1 3) (fun x71 x69 => (gZ (sN 4 trivial (cI (ih fI) (aC (aD 0 rfl) (aC (aD 1 rfl) (aC aW (aC aW aX)))))) (fun x80 => (gZ (aBJ 2 rfl trivial (aP fQ (oI (by decide) (aC (aD 4 rfl) aX)).toW (vJ (vs := [5]) (aI4 aW.toW).toW (tg1 5) (fun x85 => mY) (fun x85 => (cI (ih cC) (aC (aD 0 rfl) (aC (aD 1 rfl) (aC (aD 4 rfl) (aC aW aX))))))).toW)) (fun x98 => (iK trivial (t_b (aP aLu (cI (ih bF) (aC (aD 1 rfl) (aC (aD 4 rfl) aX))).toW jH.toW).toW) (cE trivial jH) (fH (z := x98) (.eq (.eq (.eq (.no (.no (.no (.no (.no (.no .nil))))))))))))))))) (fun x109 => (aGX 2 rfl (eZ (aDj (Γ0 := fun (x110 : Unit) => [.no, .fz x5, .no, .no, .no, .no, .no, .no, .no]) (z := ()) trivial (i_e (aD 2 rfl)) (.no (.eq (.no (.no (.no (.no (.no (.no (.no .nil))))))))) (tg1 6) (fun x112 x110 => (gZ (aFg (tg2 7 8) trivial (cU (by decide) (aC (dH qE (aD 6 rfl).toW) (aC (dH qE (cI (ih bY) (aC (aD 1 rfl) (aC (aD 6 rfl) aX))).toW) aX)))) (fun x125 => (eZ (ΓM := fun (x146 : Unit) => [.no, .fz x5, .no, .no, .no, .no, .fz x112, .fz x125.1, .fz x125.2]) (iK trivial (tZ (t_b (aP aBM (dH qE (cI (ih bF) (aC (aD 1 rfl) (aC (aD 6 rfl) aX))).toW).toW (aD 8 rfl).toW).toW) (t_b (aP aBM (dH qE (aHy (ih bF) (aC (aD 6 rfl) (aC (aD 1 rfl) aX))).toW).toW (aD 8 rfl).toW).toW)) (cE trivial jH) (fH (z := ()) (.no (.eq (.no (.no (.no (.no (.eq (.eq (.eq .nil))))))))))) (fun x146 => (iK trivial (t_b (aP aBM (dH qE (aD 6 rfl).toW).toW (aD 7 rfl).toW).toW) (cE trivial jH) (fH (z := ()) (.no (.eq (.no (.no (.no (.no (.no (.no (.no .nil))))))))))))))))) (fun x154 => (cE trivial jH))))))))))
theorem aA7 {cl : Cll} {pc : Nat -> List Q -> Pm Q} (ih : ∀ f,FnS (frT f) (cl f) (pc f)) : FnS false (fun ws h => if ws.length = 1 then eV (iE cl (aT 9 ws) h) else .bad) (fun qs => if qs.length = 1 then (pU pc qs).bind bV else .bad) :=
 hA (P := pU pc) (ΓL := fun _ : Unit => []) (ΓN := fun _ : Unit => [.no, .no, .no, .no, .no, .no, .no, .no, .no]) fun qs hq => match qs,hq with
  | [a_0],_ => aB5 ih a_0
def PT : vB := fun f => match f with
 | 0 => some (fun pc _ qs => if qs.length = 1 then (sV pc qs).bind bV else .bad)
 | 1 => some (fun pc _ qs => if qs.length = 1 then (sU pc qs).bind bV else .bad)
 | 2 => some (fun pc _ qs => if qs.length = 1 then (pR pc qs).bind bV else .bad)
 | 3 => some (fun pc _ qs => if qs.length = 1 then (zO pc qs).bind bV else .bad)
 | 4 => some (fun pc _ qs => if qs.length = 1 then (sX pc qs).bind aDt else .bad)
 | 5 => some (fun pc _ qs => if qs.length = 1 then (pS pc qs).bind bV else .bad)
 | 6 => some (fun _ => fN)
 | 7 => some (fun pc _ qs => if qs.length = 2 then (uE pc qs).bind bV else .bad)
 | 9 => some (fun _ => jS)
 | 10 => some (fun pc _ qs => if qs.length = 2 then (sW pc qs).bind bV else .bad)
 | 13 => some (fun _ => fO)
 | 14 => some (fun pc _ qs => if qs.length = 1 then (uG pc qs).bind bV else .bad)
 | 15 => some (fun pc _ qs => if qs.length = 1 then (pT pc qs).bind bV else .bad)
 | 16 => some (fun _ => jT)
 | 18 => some (fun pc _ qs => if qs.length = 2 then (uF pc qs).bind bV else .bad)
 | 19 => some (fun pc _ qs => if qs.length = 4 then (mP pc qs).bind bV else .bad)
 | 20 => some (fun pc _ qs => if qs.length = 1 then (pU pc qs).bind bV else .bad)
 | _ => none
theorem lC : ∀ (k f : Nat),FnS (frT f) (aM T k f) (aO PT k f)
 | 0,f => aFW
 | k + 1,f => match f with
  | 0 => cV (n := 2) (np := 1) (m := fJ) rfl rfl (aCk (lC k))
  | 1 => cV (n := 1) (np := 1) (m := iY) rfl rfl (aCj (lC k))
  | 2 => cV (n := 1) (np := 1) (m := hZ) rfl rfl (aA4 (lC k))
  | 3 => cV (n := 1) (np := 1) (m := nG) rfl rfl (aFZ (lC k))
  | 4 => cV (n := 4) (np := 1) (m := fM) rfl rfl (aCm (lC k))
  | 5 => cV (n := 1) (np := 1) (m := iC) rfl rfl (aA5 (lC k))
  | 6 => rG rfl (wJ k)
  | 7 => cV (n := 3) (np := 2) (m := kG) rfl rfl (aDv (lC k))
  | 8 => lH rfl
  | 9 => rG rfl (aCH k)
  | 10 => cV (n := 2) (np := 2) (m := fL) rfl rfl (aCl (lC k))
  | 11 => lH rfl
  | 12 => lH rfl
  | 13 => rG rfl (wK k)
  | 14 => cV (n := 1) (np := 1) (m := gK) rfl rfl (aDx (lC k))
  | 15 => cV (n := 2) (np := 1) (m := eC) rfl rfl (aA6 (lC k))
  | 16 => rG rfl (aCI k)
  | 17 => lH rfl
  | 18 => cV (n := 8) (np := 2) (m := kH) rfl rfl (aDw (lC k))
  | 19 => cV (n := 10) (np := 4) (m := fE) rfl rfl (yJ (lC k))
  | 20 => cV (n := 9) (np := 1) (m := iE) rfl rfl (aA7 (lC k))
  | 21 => lH rfl
  | f + 22 => lH rfl
theorem aCf {k : Nat} {a_0 : Q} : aO PT (k + 1) iV [a_0] = (mU (aO PT k) a_0).bind bV := rfl
theorem aAS {k : Nat} {a_0 : Q} : aO PT (k + 1) hY [a_0] = (lT (aO PT k) a_0).bind bV := rfl
theorem aFL {k : Nat} {a_0 : Q} : aO PT (k + 1) nF [a_0] = (uR (aO PT k) a_0).bind bV := rfl
theorem aAT {k : Nat} {a_0 : Q} : aO PT (k + 1) fZ [a_0] = (lU (aO PT k) a_0).bind bV := rfl
theorem aDo {k : Nat} {a_0 a_1 : Q} : aO PT (k + 1) bF [a_0,a_1] = (oO (aO PT k) a_0 a_1).bind bV := rfl
theorem aCh {k : Nat} {a_0 a_1 : Q} : aO PT (k + 1) bH [a_0,a_1] = (mW (aO PT k) a_0 a_1).bind bV := rfl
theorem aDp {k : Nat} {a_0 : Q} : aO PT (k + 1) gJ [a_0] = (oP (aO PT k) a_0).bind bV := rfl
theorem aAU {k : Nat} {a_0 : Q} : aO PT (k + 1) cP [a_0] = (lV (aO PT k) a_0).bind bV := rfl
theorem wU {k : Nat} {a_0 a_1 : Q} : aO PT (k + 1) bY [a_0,a_1] = (cX (aO PT k) a_0 a_1).bind bV := rfl
theorem pX {k : Nat} {a_0 a_1 a_2 a_3 : Q} : aO PT (k + 1) cC [a_0,a_1,a_2,a_3] = (hM (aO PT k) a_0 a_1 a_2 a_3).bind bV := rfl
theorem aAV {k : Nat} {a_0 : Q} : aO PT (k + 1) dZ [a_0] = (lW (aO PT k) a_0).bind bV := rfl
theorem aCg {k : Nat} {qs : List Q} : aO PT (k + 1) aQ qs = jS k qs := rfl
theorem vI {k : Nat} {qs : List Q} : aO PT (k + 1) dB qs = fO k qs := rfl
theorem aCi {k : Nat} {qs : List Q} : aO PT (k + 1) fI qs = jT k qs := rfl
theorem vH {k : Nat} {qs : List Q} : aO PT (k + 1) cL qs = fN k qs := rfl
end LW
end
section
namespace LW
open PV PySem PySem.Spec PyProof.Rows L2
theorem aBb : ∀ s ∈ [("infix" : Str),"postfix"],PyData.strOk s = true := by decide +kernel
theorem zU : ∀ s ∈ [("infix" : Str),"prefix"],PyData.strOk s = true := by decide +kernel
theorem aJG (k : Nat) {o : Opr} (ho : o.kind ∈ kinds) : aO PT (k + 1) gJ [o.q] = .ret (.tup [.bl o.L, .bl o.Rr]) := by
 have e1 := rY (x := o.kind) (ss := [("infix" : Str),"postfix"]) (iM _ ho) aBb
 have e2 := rY (x := o.kind) (ss := [("infix" : Str),"prefix"]) (iM _ ho) zU
 simp only [List.map_cons,List.map_nil] at e1 e2
 rw [aDp]
 simp only [oP,Opr.q,aG,bL,xO,aI,e1,e2,eO,Opr.L,Opr.Rr]
theorem aDY (k : Nat) {o : Opr} (ho : o.kind ∈ kinds) : aO PT (k + 1) iV [o.q] = .ret (.bl o.L) := by
 have e1 := rY (x := o.kind) (ss := [("infix" : Str),"postfix"]) (iM _ ho) aBb
 simp only [List.map_cons,List.map_nil] at e1
 rw [aCf]
 simp only [mU,Opr.q,aG,bL,xO,aI,e1,eO,Opr.L]
theorem aCr (k : Nat) {o : Opr} (ho : o.kind ∈ kinds) : aO PT (k + 1) hY [o.q] = .ret (.bl o.Rr) := by
 have e1 := rY (x := o.kind) (ss := [("infix" : Str),"prefix"]) (iM _ ho) zU
 simp only [List.map_cons,List.map_nil] at e1
 rw [aAS]
 simp only [lT,Opr.q,aG,bL,xO,aI,e1,eO,Opr.Rr]
end LW
end
section
namespace LW
open PV PySem PySem.Spec PyProof.Rows L2
theorem aBC (k : Nat) {n : Int} {K : Rs Q -> Nat -> Prop} {c : Nat} (h1 : 0 < n) (h2 : n < 1073741824) (hc : c < 1000000000) (h : ∀ r : Nat,(r : Int) < n -> K (.ok (.int r)) (c + 1)) : aO PT (k + 1) aQ [.src, .int n] K c := by
 rw [aCg]
 exact ⟨⟨h1,h2,hc⟩,h⟩
theorem aE9 (k : Nat) {l : List Q} {K : Rs Q -> Nat -> Prop} {c : Nat} (h1 : 0 < l.length) (h2 : l.length < 1073741824) (hc : c < 1000000000) (h : ∀ x ∈ l,K (.ok x) (c + 1)) : aO PT (k + 2) bH [.src, .lst l] K c := by
 rw [aCh]
 simp only [mW,aG,bL,aGt,aI]
 refine aBC k (by omega) (by omega) hc fun r hr => ?_
 have hr' : r < l.length := by omega
 simp only [eY,aJB (List.getElem?_eq_getElem hr'),aI,aG,eO]
 exact h _ (List.getElem_mem hr')
end LW
end
section
namespace LW
open PV PySem PySem.Spec PyProof.Rows L2
theorem aH7 (k : Nat) {o : Opr} (h : OprOk o) : aO PT (k + 2) nF [o.q] = .ret (.int (o.holes : Nat)) := by
 have e1 := aDY k h.kd
 have e2 := aCr k h.kd
 have l1 := h.l1
 have ix : qIx o.q (.int 1) = some (.tup (o.words.map .str)) := xP
 rw [show k + 2 = k + 1 + 1 from rfl,aFL]
 unfold uR
 simp only [aG,bL,e1,e2,ix,vZ,aI,List.length_map]
 unfold Opr.holes
 cases o.L <;> cases o.Rr <;> simp [tT,cR,rZ] <;> (refine congrArg (fun i => Pm.ret (Q.int i)) ?_; omega)
theorem aBD (k : Nat) {o : Opr} (h : OprOk o) : aO PT (k + 2) cP [o.q] = .ret (.int (o.holes : Nat)) := by
 have e1 := aJG k h.kd
 have l1 := h.l1
 have ix : qIx o.q (.int 1) = some (.tup (o.words.map .str)) := xP
 rw [show k + 2 = k + 1 + 1 from rfl,aAU]
 unfold lV
 simp only [aG,bL,e1,ix,vZ,aI,List.length_map,aGy]
 have e : ([.bl o.L, .bl o.Rr] : List Q) = ([o.L,o.Rr] : List Bool).map .bl := rfl
 rw [e,qC (xs := [o.L,o.Rr]) Q.bl (fun b => .int (if b then 1 else 0)) (by simp) fun b _ => ⟨_,rfl,rfl,by simp [rZ]⟩]
 unfold Opr.holes
 cases o.L <;> cases o.Rr <;> simp [tT,cR,aDX] <;> (refine congrArg (fun i => Pm.ret (Q.int i)) ?_; simp only [List.sum_cons,List.sum_nil]; omega)
end LW
end
section
namespace LW
open PV PySem PySem.Spec PyProof.Rows L2
theorem aGq (hr : ∀ {h : Hh} {i : Nat},Sr h i 0 -> ∃ h',Ux [i] h h' /\ aM T 199 dZ [.ref i] h = .ok (.bl true) h') : aAu := by
 intro ns _
 refine ⟨[], ?_⟩
 rw [dF (d := ⟨2,1,uO⟩) rfl]
 obtain ⟨n,hn,en⟩ : ∃ n : Nat,n <= 3 /\ ∀ h,(mOp vT (mC (.int 1)) (mOp vU (mF1 bW (mV 0)) (mC (.int 3)))) [some (.fl (ns.map .int)),none] h = .ok (.int n) h := by
  refine ⟨(if (if (3 : Int) < ns.length then 3 else (ns.length : Int)) > 1 then (if (3 : Int) < ns.length then 3 else (ns.length : Int)) else 1).toNat, ?_,fun h => ?_⟩
  ·split <;> (try split) <;> omega
  ·simp
   split <;> (try split) <;> omega
 have key := aBg (mi := iO (mOp vT (mC (.int 1)) (mOp vU (mF1 bW (mV 0)) (mC (.int 3))))) (t := .nm 1) (me := aR (aM T 199) dZ (aA [(aR (aM T 199) kU (aA [(mV 0),(mV 1)]))])) (vs := [1]) (σ := [some (.fl (ns.map .int)),none]) (h := []) (h1 := []) (src := pP 0 n) (ws := (List.range n).map fun (i : Nat) => D.int (0 + (i : Nat))) (fun _ => .bl true)
  (rQ (en []) (by omega)) (fun j => qF j) (by simp only [List.length_map,List.length_range]; exact szl (by omega)) (fun w hw => by
   obtain ⟨j,hj,rfl⟩ := List.mem_map.mp hw
   have hj := List.mem_range.mp hj
   obtain ⟨a,b,es⟩ := aFJ 198 (h := []) (ns := ns) (j := j) (by omega)
   refine ⟨_,rfl, ?_,rfl⟩
   obtain ⟨h',u,er⟩ := hr (h := [] ++ [.lst [.int a, .int b, .int 0]]) (i := 0) ⟨a,b,0,rfl,by omega,by omega⟩
   have gl := aF1 (h := []) u (w := .bl true) (by simp)
   have es' := aIZ (h := []) (h' := []) (ws := [.int a, .int b, .int 0]) (by simp) rfl
   simp [cG,es,es'] 
   simp at er gl
   rw [er,gl])
 have ea : ∀ l : List D,jD (.tl (l.map fun _ => D.bl true)) [] = .ok (.bl true) [] := fun l => aDf
 simp only [uO,aT,vV,tN]
 simp only [List.map_cons,List.map_nil,List.length_cons,List.length_nil,if_true]
 erw [key]
 rw [R.bind_ok,ea]
 rfl
end LW
end
section
namespace LW
open PV PySem PySem.Spec PyProof.Rows L2
theorem aHX (hp : aO PT 199 dZ [.src] (fun r _ => r = .ok (.bl true)) 0) : aAu := aGq fun e => aEZ (lC 199 dZ) hp e
end LW
end
section
namespace LW
open PV PySem PySem.Spec PyProof.Rows L2
def isT (ops : List Opr) : Nat -> Q -> Bool
 | 0,q => (match q with | .str s => dI ops s | _ => false)
 | n + 1,q => (match q with
  | .str s => dI ops s
  | .tup (.str s :: rest) => (match rest with | [x] => decide (s = "(") && isT ops n x | _ => false)
  | .tup (.int i :: qs) => decide (0 <= i) && (match ops[i.toNat]? with | some o => decide (qs.length = o.holes) && qs.all (isT ops n) | none => false)
  | _ => false)
def jE : Q -> Prop
 | .non => True
 | .bl _ => True
 | .int i => i.natAbs <= 1000
 | .str s => s.length <= 9 /\ PyData.strOk s = true
 | .tup [] => True
 | _ => False
def e06 (L : Bool) : Q := if L = true then .lst [] else .dK []
def v06 (L : Bool) : Nat -> Q -> Prop
 | 0,q => jE q \/ q = e06 L
 | n + 1,q => v06 L 0 q \/ ∃ qs,(q = .tup qs \/ (L = true /\ q = .lst qs)) /\ qs.length <= 7 /\ ∀ x ∈ qs,v06 L n x
theorem mZ {L : Bool} {q : Q} : v06 L 0 q ↔ (jE q \/ q = e06 L) := by rw [v06]
theorem jC {L : Bool} {n : Nat} {q : Q} : v06 L (n + 1) q ↔ (v06 L 0 q \/ ∃ qs,(q = .tup qs \/ (L = true /\ q = .lst qs)) /\ qs.length <= 7 /\ ∀ x ∈ qs,v06 L n x) := by
 conv => lhs; rw [v06]
theorem iR {L : Bool} {n : Nat} {q : Q} (h : v06 L n q) : q = .non \/ (∃ b,q = .bl b) \/ (∃ i,q = .int i /\ i.natAbs <= 1000) \/ (∃ s,q = .str s /\ s.length <= 9 /\ PyData.strOk s = true) \/ (∃ qs,q = .lst qs) \/ q = .dK [] \/ (∃ qs,q = .tup qs /\ qs.length <= 7 /\ (qs = [] \/ ∃ m,n = m + 1 /\ ∀ x ∈ qs,v06 L m x)) := by
 have z : ∀ q,v06 L 0 q -> q = .non \/ (∃ b,q = .bl b) \/ (∃ i,q = .int i /\ i.natAbs <= 1000) \/ (∃ s,q = .str s /\ s.length <= 9 /\ PyData.strOk s = true) \/ (∃ qs,q = .lst qs) \/ q = .dK [] \/ (∃ qs,q = .tup qs /\ qs.length <= 7 /\ (qs = [] \/ ∃ m,n = m + 1 /\ ∀ x ∈ qs,v06 L m x)) := by
  intro q h
  rcases mZ.mp h with h | h
  ·unfold jE at h
   split at h
   ·exact .inl rfl
   ·exact .inr (.inl ⟨_,rfl⟩)
   ·exact .inr (.inr (.inl ⟨_,rfl,h⟩))
   ·exact .inr (.inr (.inr (.inl ⟨_,rfl,h⟩)))
   ·exact .inr (.inr (.inr (.inr (.inr (.inr ⟨[],rfl,by simp, .inl rfl⟩)))))
   ·exact h.elim
  ·subst h
   unfold e06
   split
   ·exact .inr (.inr (.inr (.inr (.inl ⟨[],rfl⟩))))
   ·exact .inr (.inr (.inr (.inr (.inr (.inl rfl)))))
 cases n with
 | zero => exact z q h
 | succ n =>
  rcases jC.mp h with h | ⟨qs,h1 | ⟨_,h1⟩,h2,h3⟩
  ·exact z q h
  ·exact .inr (.inr (.inr (.inr (.inr (.inr ⟨qs,h1,h2, .inr ⟨n,rfl,h3⟩⟩)))))
  ·exact .inr (.inr (.inr (.inr (.inl ⟨qs,h1⟩))))
theorem aKH {L : Bool} {n : Nat} {q : Q} (h : v06 L n q) : v06 L (n + 1) q := by
 induction n generalizing q with
 | zero => exact jC.mpr (.inl h)
 | succ n ih =>
  rcases jC.mp h with h | ⟨qs,h1,h2,h3⟩
  ·exact jC.mpr (.inl h)
  ·exact jC.mpr (.inr ⟨qs,h1,h2,fun x hx => ih (h3 x hx)⟩)
theorem jW {L : Bool} {q : Q} (h : jE q) : ∀ n,v06 L n q
 | 0 => mZ.mpr (.inl h)
 | n + 1 => jC.mpr (.inl (mZ.mpr (.inl h)))
theorem aAK {L : Bool} : ∀ n,v06 L n (e06 L)
 | 0 => mZ.mpr (.inr rfl)
 | n + 1 => jC.mpr (.inl (mZ.mpr (.inr rfl)))
theorem aAq (k : Nat) {L : Bool} {n : Nat} {q : Q} (h : v06 L n q) : aO PT (k + 1) fZ [q] = .ret (.bl (match q with | .int i => decide (0 <= i) | _ => false)) := by
 rw [aAT]
 unfold lU
 rcases iR h with rfl | ⟨b,rfl⟩ | ⟨i,rfl,_⟩ | ⟨s,rfl,_⟩ | ⟨qs,rfl⟩ | rfl | ⟨qs,rfl,_⟩
 ·have a1 : aV .non (.ty "int") = some (.bl false) := rfl
  simp [a1]
 ·have a1 : aV (.bl b) (.ty "int") = some (.bl true) := rfl
  have a2 : aV (.bl b) (.ty "bool") = some (.bl true) := rfl
  simp [a1,a2]
 ·have a1 : aV (.int i) (.ty "int") = some (.bl true) := rfl
  have a2 : aV (.int i) (.ty "bool") = some (.bl false) := rfl
  simp [a1,a2]
 ·have a1 : aV (.str s) (.ty "int") = some (.bl false) := rfl
  simp [a1]
 ·have a1 : aV (.lst qs) (.ty "int") = some (.bl false) := rfl
  simp [a1]
 ·have a1 : aV (.dK []) (.ty "int") = some (.bl false) := rfl
  simp [a1]
 ·have a1 : aV (.tup qs) (.ty "int") = some (.bl false) := rfl
  simp [a1]
section
variable {ops : List Opr}
theorem zT {o : Opr} (h : OprOk o) : 1 <= o.holes := by
 have h1 := h.l1
 unfold Opr.holes
 by_cases c : o.kind = "closed"
 ·have := h.l2 c; omega
 ·have kd := h.kd
  have key : ∀ k ∈ kinds,k ≠ "closed" -> ((k = "infix" \/ k = "postfix") \/ (k = "infix" \/ k = "prefix")) := by decide +kernel
  rcases key o.kind kd c with q | q
  ·have : o.L = true := by unfold Opr.L; simpa using q
   rw [this]; simp; omega
  ·have : o.Rr = true := by unfold Opr.Rr; simpa using q
   rw [this]; simp
theorem qD (O : OpsOk ops) (hol : ops.length <= 12) {L : Bool} (n k : Nat) {q : Q} (h : v06 L n q) (ih : ∀ m,n = m + 1 -> ∀ x,v06 L m x -> aO PT (k + 3 + n) bF [bN ops,x] = .ret (.bl (isT ops m x))) : aO PT (k + 4 + n) bF [bN ops,q] = .ret (.bl (isT ops n q)) := by
 have nf : ∀ q : Q,(∀ s,q ≠ .str s) -> (∀ qs,q ≠ .tup qs) -> isT ops n q = false := fun q h1 h2 => by
  cases n <;> unfold isT <;> split <;> first | rfl | exact absurd rfl (h1 _) | exact absurd rfl (h2 _)
 rw [show k + 4 + n = k + 3 + n + 1 by omega,aDo]
 unfold oO
 rcases iR h with rfl | ⟨b,rfl⟩ | ⟨i,rfl,_⟩ | ⟨s,rfl,hs,_⟩ | ⟨qs,rfl⟩ | rfl | ⟨qs,rfl,hl,hq⟩
 ·have a1 : aV .non (.ty "str") = some (.bl false) := rfl
  have a2 : aV .non (.ty "tuple") = some (.bl false) := rfl
  rw [nf _ (by simp) (by simp)]; simp [a1,a2]
 ·have a1 : aV (.bl b) (.ty "str") = some (.bl false) := rfl
  have a2 : aV (.bl b) (.ty "tuple") = some (.bl false) := rfl
  rw [nf _ (by simp) (by simp)]; simp [a1,a2]
 ·have a1 : aV (.int i) (.ty "str") = some (.bl false) := rfl
  have a2 : aV (.int i) (.ty "tuple") = some (.bl false) := rfl
  rw [nf _ (by simp) (by simp)]; simp [a1,a2]
 ·have a1 : aV (.str s) (.ty "str") = some (.bl true) := rfl
  have e : isT ops n (.str s) = dI ops s := by cases n <;> rfl
  have c : aO PT (k + 3 + n) cL [bN ops, .str s] = .ret (.bl (dI ops s)) := by
   rw [show k + 3 + n = k + 2 + n + 1 by omega,vH,aDQ O (by omega) (by omega) (by omega)]
  rw [e]; simp [a1,c]
 ·have a1 : aV (.lst qs) (.ty "str") = some (.bl false) := rfl
  have a2 : aV (.lst qs) (.ty "tuple") = some (.bl false) := rfl
  rw [nf _ (by simp) (by simp)]; simp [a1,a2]
 ·have a1 : aV (.dK []) (.ty "str") = some (.bl false) := rfl
  have a2 : aV (.dK []) (.ty "tuple") = some (.bl false) := rfl
  rw [nf _ (by simp) (by simp)]; simp [a1,a2]
 ·have a1 : aV (.tup qs) (.ty "str") = some (.bl false) := rfl
  have a2 : aV (.tup qs) (.ty "tuple") = some (.bl true) := rfl
  cases qs with
  | nil =>
   have e : isT ops n (.tup []) = false := by cases n <;> rfl
   rw [e]; simp [a1,a2]
  | cons x r =>
   obtain ⟨m,rfl,hv⟩ : ∃ m,n = m + 1 /\ ∀ y ∈ x :: r,v06 L m y := by
    rcases hq with h0 | h0
    ·cases h0
    ·exact h0
   have ih := ih m rfl
   have vx := hv x (by simp)
   simp only [List.length_cons] at hl
   cases r with
   | nil =>
    have e : isT ops (m + 1) (.tup [x]) = false := by
     rcases iR vx with rfl | ⟨b,rfl⟩ | ⟨i,rfl,_⟩ | ⟨s,rfl,_⟩ | ⟨qs,rfl⟩ | rfl | ⟨qs,rfl,_⟩
     ·rfl
     ·rfl
     ·unfold isT
      simp only
      cases eo : ops[i.toNat]? with
      | none => simp
      | some o =>
       have hp := zT (O.ok o (List.mem_of_getElem? eo))
       simp
       omega
     ·rfl
     ·rfl
     ·rfl
     ·rfl
    rw [e]; simp [a1,a2]
   | cons y r =>
    have l2 : decide ((r.length : Int) + 1 + 1 < 2) = false := by simp; omega
    by_cases xs : ∃ s,x = .str s
    ·obtain ⟨s,rfl⟩ := xs
     have b1 : aV (.str s) (.ty "str") = some (.bl true) := rfl
     have e : isT ops (m + 1) (.tup (.str s :: y :: r)) = (decide (s = "(") && (decide (r.length = 0) && isT ops m y)) := by
      cases r with
      | nil => conv => lhs; rw [isT]
               simp
      | cons z r => unfold isT; simp
     rw [e]
     by_cases hs : s = "("
     ·by_cases hr : r.length = 0
      ·have l3 : decide ((r.length : Int) + 1 + 1 = 2) = true := by simp; omega
       have iy := ih y (hv y (by simp))
       simp [a1,a2,l2,b1,hs,hr,iy]
      ·have l3 : ¬ ((r.length : Int) + 1 + 1 = 2) := by omega
       simp [a1,a2,l2,b1,hs,hr,l3]
     ·simp [a1,a2,l2,b1,hs]
    ·have b1 : aV x (.ty "str") = some (.bl false) := by
      rcases iR vx with rfl | ⟨b,rfl⟩ | ⟨i,rfl,_⟩ | ⟨s,rfl,_⟩ | ⟨qs,rfl⟩ | rfl | ⟨qs,rfl,_⟩ <;> first | rfl | exact absurd ⟨_,rfl⟩ xs
     have c1 := aAq (k + 2 + (m + 1)) vx
     rw [show k + 2 + (m + 1) + 1 = k + 3 + (m + 1) by omega] at c1
     by_cases xi : ∃ i,x = .int i
     ·obtain ⟨i,rfl⟩ := xi
      simp only at c1
      have e : isT ops (m + 1) (.tup (.int i :: y :: r)) = (decide (0 <= i) && (match ops[i.toNat]? with | some o => decide ((y :: r).length = o.holes) && (y :: r).all (isT ops m) | none => false)) := by
       unfold isT; rfl
      rw [e]
      have lo : dN (bN ops) = some (.int (ops.length : Nat)) := by simp [bN]
      by_cases h0 : 0 <= i
      ·obtain ⟨j,rfl⟩ := Int.eq_ofNat_of_zero_le h0
       by_cases hj : j < ops.length
       ·obtain ⟨o,eo⟩ : ∃ o,ops[j]? = some o := ⟨_,List.getElem?_eq_getElem hj⟩
        have ok := O.ok o (List.mem_of_getElem? eo)
        have ix : qIx (bN ops) (.int (j : Nat)) = some o.q := aBB (by rw [List.getElem?_map,eo]; rfl)
        have ar := aH7 (k + 1 + (m + 1)) ok
        rw [show k + 1 + (m + 1) + 2 = k + 3 + (m + 1) by omega] at ar
        have sl : qSl (.tup (.int (j : Nat) :: y :: r)) (some 1) none = some (.tup (y :: r)) := aE5
        have hp := zT ok
        have lc : lcP some (fun _ => Pm.ret true) (fun a => aO PT (k + 3 + (m + 1)) bF [bN ops,a]) (y :: r) = .ret (.lst ((y :: r).map fun x => .bl (isT ops m x))) := by
         have := qC (un := some) (pt := fun _ => Pm.ret true) (pe := fun a => aO PT (k + 3 + (m + 1)) bF [bN ops,a]) (xs := y :: r) (fun x => x) (fun x => .bl (isT ops m x)) (by omega) fun x hx => ⟨x,rfl,rfl,ih x (hv x (by simp only [List.mem_cons] at hx ⊢; exact .inr hx))⟩
         rwa [List.map_id'] at this
        have nj : ¬ ((ops.length : Int) <= (j : Int)) := by omega
        by_cases hh : (y :: r).length = o.holes
        ·have l4 : ((r.length : Int) + 1 + 1 = 1 + (o.holes : Int)) := by simp only [List.length_cons] at hh; omega
         simp [a1,a2,l2,b1,c1,lo,nj,ix,ar,eo,sl,lc,l4,hh,cR]
         have g1 : ¬ ((o.holes : Int) + 1 < 2) := by omega
         have g2 : (o.holes : Int) + 1 = 1 + (o.holes : Int) := by omega
         have qa := vY (f := isT ops m) (l := y :: r)
         simp only [List.map_cons,List.all_cons] at qa
         rw [if_neg g1,if_pos g2,qa]
         simp
        ·have l4 : ¬ ((r.length : Int) + 1 + 1 = 1 + (o.holes : Int)) := by simp only [List.length_cons] at hh; omega
         simp only [List.length_cons] at hh
         simp [a1,a2,l2,b1,c1,lo,nj,ix,ar,eo,l4,hh,cR]
       ·have en : ops[j]? = none := List.getElem?_eq_none (by omega)
        have nj : (ops.length : Int) <= (j : Int) := by omega
        simp [a1,a2,l2,b1,c1,lo,nj,en]
      ·simp [a1,a2,l2,b1,c1,h0]
     ·have c2 : aO PT (k + 3 + (m + 1)) fZ [x] = .ret (.bl false) := by
       rw [c1]
       cases x <;> first | rfl | exact absurd ⟨_,rfl⟩ xi
      have e : isT ops (m + 1) (.tup (x :: y :: r)) = false := by
       cases x <;> first | rfl | exact absurd ⟨_,rfl⟩ xi | exact absurd ⟨_,rfl⟩ xs
      rw [e]; simp [a1,a2,l2,b1,c2]
end
mutual
def aZ : Q -> Nat
 | .tup qs => wts06 qs + 1
 | .lst qs => wts06 qs + 1
 | _ => 1
def wts06 : List Q -> Nat
 | [] => 0
 | q :: qs => aZ q + wts06 qs
end
theorem qK : ∀ {a b : List Q},wts06 (a ++ b) = wts06 a + wts06 b
 | [],b => by simp [wts06]
 | q :: a,b => by simp only [List.cons_append,wts06,qK (a := a)]; omega
theorem aFz {qs : List Q} (i : Nat) : wts06 qs = wts06 (qs.take i) + wts06 (qs.drop i) := by
 rw [<- qK,List.take_append_drop]
/-- what repr asks of data that may hold an empty dict -/
structure PD (n w : Nat) (d : PyData) : Prop where
 sh : d.showable = true
 lv : d.leavesShort 24 = true
 dp : d.depth <= n
 wt : d.weight <= w
theorem PD.mono {n w n' w' : Nat} {d : PyData} (p : PD n w d) (hn : n <= n') (hw : w <= w') : PD n' w' d := ⟨p.sh,p.lv,Nat.le_trans p.dp hn,Nat.le_trans p.wt hw⟩
theorem aLn {n w : Nat} {d : PyData} (p : PS n w d) : PD n w d := ⟨p.sh,p.lv,p.dp,p.wt⟩
theorem PD.ln {n w : Nat} {d : PyData} (p : PD n w d) : d.shown.length <= 26 * w + 24 := by
 have h1 := PyData.shown_le 24 (by decide) d p.lv
 have h2 := Nat.mul_le_mul_left 26 p.wt
 omega
theorem aHV {n w1 w2 : Nat} {d : PyData} {ds : List PyData} (h1 : PD n w1 d) (h2 : PD (n + 1) w2 (.tuple ds)) : PD (n + 1) (w1 + 1 + w2) (.tuple (d :: ds)) := by
 have a1 := h1.dp
 have a2 := h2.dp
 have b1 := h1.wt
 have b2 := h2.wt
 have c2 := h2.sh
 have c3 := h2.lv
 simp only [PyData.depth,PyData.weight,PyData.showable,PyData.leavesShort] at a2 b2 c2 c3
 refine ⟨?_, ?_, ?_, ?_⟩
 ·simp [PyData.showable,PyData.showableAll,h1.sh,c2]
 ·simp [PyData.leavesShort,PyData.leavesShortAll,h1.lv,c3]
 ·simp only [PyData.depth,PyData.depthAll]; omega
 ·simp only [PyData.weight,PyData.weightAll]; omega
theorem aJl {n : Nat} : PD (n + 1) 0 (.tuple []) := ⟨rfl,rfl,by simp [PyData.depth,PyData.depthAll],by simp [PyData.weight,PyData.weightAll]⟩
theorem aHW {n : Nat} : PD (n + 1) 0 (.dict []) := ⟨by decide +kernel,by decide +kernel,by simp [PyData.depth,PyData.depthAll,PyData.depthKv],by simp [PyData.weight,PyData.weightAll,PyData.weightKv]⟩
theorem aGr {i : Int} (h : i.natAbs <= 1000) : PS 0 20 (.int i) := by
 rcases Int.le_total 0 i with z | z
 ·obtain ⟨j,rfl⟩ := Int.eq_ofNat_of_zero_le z
  exact aJw (by omega)
 ·have key : ∀ j : Nat,j <= 1000 -> PS 0 20 (.int (-(j : Int))) := by
   have h : ∀ j : Nat,j < 1001 -> (PyData.int (-(j : Int))).showable = true /\ (PyData.int (-(j : Int))).leavesShort 24 = true /\ (PyData.int (-(j : Int))).weight <= 20 := by decide +kernel
   exact fun j hj => ⟨rfl,(h j (by omega)).1,(h j (by omega)).2.1,by simp [PyData.depth],(h j (by omega)).2.2⟩
  have := key i.natAbs h
  rwa [show (-(i.natAbs : Int)) = i by omega] at this
theorem aB9 (q : Q) : 1 <= aZ q := by cases q <;> simp [aZ]
theorem aE1 {n w : Nat} {ds : List PyData} (h : PS n w (.tuple ds)) : PS n w (.list ds) := by
 obtain ⟨c1,c2,c3,c4,c5⟩ := h
 simp only [PyData.depth,PyData.weight,PyData.canLay0,PyData.showable,PyData.leavesShort] at c1 c2 c3 c4 c5
 exact ⟨by simpa only [PyData.canLay0] using c1,by simpa only [PyData.showable] using c2,by simpa only [PyData.leavesShort] using c3,by simpa only [PyData.depth] using c4,by simpa only [PyData.weight] using c5⟩
theorem aBx {n m : Nat} : ∀ {qs : List Q},(∀ x ∈ qs,∃ d,bD m x = some d /\ PS n (21 * aZ x - 1) d) -> ∃ ds,aK (bD m) qs = some ds /\ PS (n + 1) (21 * wts06 qs) (.tuple ds)
 | [],_ => ⟨[],rfl,(aBs (n := n)).mono (Nat.le_refl _) (by omega)⟩
 | q :: qs,h => by
  obtain ⟨d,e1,p1⟩ := h q (by simp)
  obtain ⟨ds,e2,p2⟩ := aBx (qs := qs) fun x hx => h x (by simp [hx])
  have := aB9 q
  exact ⟨d :: ds,by simp only [aK,e1,e2],(aHZ p1 p2).mono (by omega) (by simp only [wts06]; omega)⟩
theorem aEW {n m : Nat} : ∀ {qs : List Q},(∀ x ∈ qs,∃ d,oD m x = some d /\ PD n (21 * aZ x - 1) d) -> ∃ ds,aK (oD m) qs = some ds /\ PD (n + 1) (21 * wts06 qs) (.tuple ds)
 | [],_ => ⟨[],rfl,(aJl (n := n)).mono (Nat.le_refl _) (by omega)⟩
 | q :: qs,h => by
  obtain ⟨d,e1,p1⟩ := h q (by simp)
  obtain ⟨ds,e2,p2⟩ := aEW (qs := qs) fun x hx => h x (by simp [hx])
  have := aB9 q
  exact ⟨d :: ds,by simp only [aK,e1,e2],(aHV p1 p2).mono (by omega) (by simp only [wts06]; omega)⟩
theorem aDh {q : Q} (h : jE q) {m : Nat} (hm : 2 <= m) : ∃ d,bD m q = some d /\ oD m q = some d /\ PS 1 (21 * aZ q - 1) d := by
 obtain ⟨m,rfl⟩ : ∃ j,m = j + 1 := ⟨m - 1,by omega⟩
 have w := aB9 q
 unfold jE at h
 split at h
 ·exact ⟨_,rfl,rfl,aH0.mono (by omega) (by omega)⟩
 ·exact ⟨_,rfl,rfl,aHY.mono (by omega) (by omega)⟩
 ·exact ⟨_,rfl,rfl,(aGr h).mono (by omega) (by omega)⟩
 ·exact ⟨_,rfl,rfl,(aJx (w := 9) h.2 h.1).mono (by omega) (by omega)⟩
 ·exact ⟨_,rfl,rfl,(aBs (n := 0)).mono (Nat.le_refl _) (by omega)⟩
 ·exact h.elim
theorem aKG : ∀ {n : Nat} {q : Q},v06 true n q -> ∀ m,n + 2 <= m -> ∃ d,bD m q = some d /\ PS (n + 1) (21 * aZ q - 1) d := by
 have z : ∀ {q : Q},v06 true 0 q -> ∀ m,2 <= m -> ∃ d,bD m q = some d /\ PS 1 (21 * aZ q - 1) d := by
  intro q h m hm
  rcases mZ.mp h with h | h
  ·obtain ⟨d,e,_,p⟩ := aDh h hm
   exact ⟨d,e,p⟩
  ·subst h
   obtain ⟨m,rfl⟩ : ∃ j,m = j + 1 := ⟨m - 1,by omega⟩
   exact ⟨.list [],rfl,aE1 ((aBs (n := 0)).mono (Nat.le_refl _) (by omega))⟩
 intro n
 induction n with
 | zero => exact fun h m hm => z h m hm
 | succ n ih =>
  intro q h m hm
  rcases jC.mp h with h | ⟨qs,h1,h2,h3⟩
  ·obtain ⟨d,e,p⟩ := z h m (by omega)
   exact ⟨d,e,p.mono (by omega) (Nat.le_refl _)⟩
  ·obtain ⟨m,rfl⟩ : ∃ j,m = j + 1 := ⟨m - 1,by omega⟩
   obtain ⟨ds,e,p⟩ := aBx (n := n + 1) (m := m) fun x hx => ih (h3 x hx) m (by omega)
   rcases h1 with rfl | ⟨_,rfl⟩
   ·exact ⟨.tuple ds,by simp only [bD,e,Option.map_some],p.mono (by omega) (by simp only [aZ]; omega)⟩
   ·exact ⟨.list ds,by simp only [bD,e,Option.map_some],aE1 (p.mono (by omega) (by simp only [aZ]; omega))⟩
theorem aID : ∀ {n : Nat} {q : Q},v06 true n q -> ∀ m,jY m q = false := by
 have z : ∀ {q : Q},v06 true 0 q -> ∀ m,jY m q = false := by
  intro q h m
  cases m with
  | zero => rfl
  | succ m =>
   rcases mZ.mp h with h | h
   ·unfold jE at h
    split at h <;> first | rfl | exact h.elim
   ·subst h; rfl
 intro n
 induction n with
 | zero => exact z
 | succ n ih =>
  intro q h m
  rcases jC.mp h with h | ⟨qs,h1,h2,h3⟩
  ·exact z h m
  ·cases m with
   | zero => rfl
   | succ m =>
    rcases h1 with rfl | ⟨_,rfl⟩
    ·simp only [jY,List.any_eq_false]
     exact fun x hx => by rw [ih (h3 x hx) m]; simp
    ·rfl
theorem aIC : ∀ {n : Nat} {q : Q},v06 false n q -> ∀ m,n + 2 <= m -> ∃ d,oD m q = some d /\ PD (n + 1) (21 * aZ q - 1) d := by
 have z : ∀ {q : Q},v06 false 0 q -> ∀ m,2 <= m -> ∃ d,oD m q = some d /\ PD 1 (21 * aZ q - 1) d := by
  intro q h m hm
  rcases mZ.mp h with h | h
  ·obtain ⟨d,_,e,p⟩ := aDh h hm
   exact ⟨d,e,aLn p⟩
  ·subst h
   obtain ⟨m,rfl⟩ : ∃ j,m = j + 1 := ⟨m - 1,by omega⟩
   exact ⟨.dict [],rfl,(aHW (n := 0)).mono (Nat.le_refl _) (by omega)⟩
 intro n
 induction n with
 | zero => exact fun h m hm => z h m hm
 | succ n ih =>
  intro q h m hm
  rcases jC.mp h with h | ⟨qs,h1,h2,h3⟩
  ·obtain ⟨d,e,p⟩ := z h m (by omega)
   exact ⟨d,e,p.mono (by omega) (Nat.le_refl _)⟩
  ·obtain ⟨m,rfl⟩ : ∃ j,m = j + 1 := ⟨m - 1,by omega⟩
   obtain ⟨ds,e,p⟩ := aEW (n := n + 1) (m := m) fun x hx => ih (h3 x hx) m (by omega)
   rcases h1 with rfl | ⟨h1,_⟩
   ·exact ⟨.tuple ds,by simp only [oD,e,Option.map_some],p.mono (by omega) (by simp only [aZ]; omega)⟩
   ·cases h1
/-- without a dict a value is data -/
theorem aKF : ∀ {n : Nat} {q : Q},v06 false n q -> ∀ m,n + 2 <= m -> jY m q = false -> ∃ d,bD m q = some d /\ PS (n + 1) (21 * aZ q - 1) d := by
 have z : ∀ {q : Q},v06 false 0 q -> ∀ m,2 <= m -> jY m q = false -> ∃ d,bD m q = some d /\ PS 1 (21 * aZ q - 1) d := by
  intro q h m hm hd
  rcases mZ.mp h with h | h
  ·obtain ⟨d,e,_,p⟩ := aDh h hm
   exact ⟨d,e,p⟩
  ·subst h
   obtain ⟨m,rfl⟩ : ∃ j,m = j + 1 := ⟨m - 1,by omega⟩
   cases hd
 intro n
 induction n with
 | zero => exact fun h m hm => z h m hm
 | succ n ih =>
  intro q h m hm hd
  rcases jC.mp h with h | ⟨qs,h1,h2,h3⟩
  ·obtain ⟨d,e,p⟩ := z h m (by omega) hd
   exact ⟨d,e,p.mono (by omega) (Nat.le_refl _)⟩
  ·obtain ⟨m,rfl⟩ : ∃ j,m = j + 1 := ⟨m - 1,by omega⟩
   rcases h1 with rfl | ⟨h1,_⟩
   ·simp only [jY,List.any_eq_false,Bool.not_eq_true] at hd
    obtain ⟨ds,e,p⟩ := aBx (n := n + 1) (m := m) fun x hx => ih (h3 x hx) m (by omega) (hd x hx)
    exact ⟨.tuple ds,by simp only [bD,e,Option.map_some],p.mono (by omega) (by simp only [aZ]; omega)⟩
   ·cases h1
theorem aLs {L : Bool} {n : Nat} {q : Q} (h : v06 L n q) (hn : n <= 40) (hw : aZ q <= 10000) : ∃ s,hU q = some (.str s) := by
 have pq : ∀ {d : PyData},bD bG q = some d -> PS (n + 1) (21 * aZ q - 1) d -> jY bG q = false -> ∃ s,hU q = some (.str s) := fun {d} e p hd => by
  refine ⟨d.shown, ?_⟩
  unfold hU
  rw [if_neg (by rw [hd]; simp)]
  exact aGv e p.pn (by omega) (by omega)
 have hdp : n + 2 <= bG := by show n + 2 <= 66; omega
 cases L with
 | true =>
  obtain ⟨d,e,p⟩ := aKG h bG hdp
  exact pq e p (aID h bG)
 | false =>
  cases hd : jY bG q with
  | false =>
   obtain ⟨d,e,p⟩ := aKF h bG hdp hd
   exact pq e p hd
  | true =>
   obtain ⟨d,e,p⟩ := aIC h bG hdp
   have l := p.ln
   have dp := p.dp
   refine ⟨d.shown, ?_⟩
   unfold hU
   rw [if_pos hd,e]
   simp only
   rw [if_pos ⟨p.sh,sz (by omega),by omega⟩]
end LW
end
section
namespace LW
open PV PySem PySem.Spec PyProof.Rows L2
theorem aKZ : ∀ c ∈ idC.cps.toList,okC c = true := by decide +kernel
theorem aF2 {ops : List Opr} {s : Str} : dI ops s = (decide (0 < s.length) && (decide (s.length < 9) && (s.cps.toList.all iW && !decide (s ∈ gY ops)))) := by
 unfold dI uM
 by_cases h : s.cps.toList.all iW = true
 ·have : s.cps.toList.all okC = true := List.all_eq_true.mpr fun c hc => by
   have := List.all_eq_true.mp h c hc
   exact aKZ c (by simpa [iW] using this)
  rw [h,this]
  have e1 : decide (1 <= s.length) = decide (0 < s.length) := by congr 1
  have e2 : decide (s.length <= 8) = decide (s.length < 9) := by rw [decide_eq_decide]; omega
  rw [e1,e2]
  cases decide (0 < s.length) <;> cases decide (s.length < 9) <;> simp
 ·have h : s.cps.toList.all iW = false := by simpa using h
  rw [h]
  simp
theorem aGu {x : Str} {ss : List Str} (hx : PyData.strOk x = true) (hs : ∀ s ∈ ss,PyData.strOk s = true) : qNi (.str x) (.lst (ss.map .str)) = some (.bl (!decide (x ∈ ss))) := by
 have h1 : bD bG (.str x) = some (.str x) := rfl
 have h2 : bD bG (.lst (ss.map .str)) = some (.list (ss.map .str)) := by
  show (aK (bD 65) (ss.map .str)).map PyData.list = _
  rw [aAi]; rfl
 have sh : SeqAt.shaped (.list (ss.map .str)) = true := by
  have := vA hs
  simpa [SeqAt.shaped,PyData.canLay0,PyData.depth] using this
 have s0 : SeqAt.shaped (.str x) = true := by simp [SeqAt.shaped,PyData.canLay0,PyData.depth,hx]
 unfold qNi lM
 simp only [h1,h2,sh,s0,Bool.and_self,if_true,vD,Option.map_some]
theorem aHx {ops : List Opr} (O : OpsOk ops) (hol : ops.length <= 12) {pc : Nat -> List Q -> Pm Q} {s : Str} (hl : s.length <= 9) (hs : PyData.strOk s = true) : (cX pc (bN ops) (.str s)).bind bV = .ret (.bl (dI ops s)) := by
 have so : iF (bN ops) = some (ops.map Opr.q) := rfl
 have wl : ∀ o ∈ ops,o.words.length <= 3 := fun o ho => (O.ok o ho).l3
 have loop : mL (L := Unit) un2 (nU pc) (ops.map Opr.q) (.lst []) = .ret (.nx (.lst ((gY ops).map .str))) := by
  rw [aEB (fun st n => ∃ acc : List Q,st = .lst acc /\ acc.length <= 3 * n) (xs := ops) Opr.q (fun st o => match st with
   | .lst acc => .lst (acc ++ o.words.map .str)
   | st => st) (by omega) ⟨[],rfl,by simp⟩]
  ·have fold : ∀ (l : List Opr) (acc : List Q),l.foldl (fun (st : Q) o => match st with
    | .lst acc => .lst (acc ++ o.words.map .str)
    | st => st) (.lst acc) = .lst (acc ++ (gY l).map .str) := by
    intro l
    induction l with
    | nil => simp [gY]
    | cons o l ih =>
     intro acc
     simp only [List.foldl_cons]
     rw [ih]
     simp [gY]
   rw [fold]
   simp
  ·rintro i o st hx ⟨acc,rfl,ha⟩
   have ho := List.mem_of_getElem? hx
   have hi := aF hx
   have w3 := wl o ho
   refine ⟨⟨_,rfl,by simp; omega⟩,(.str o.kind, .tup (o.words.map .str)),zM, ?_⟩
   simp only [nU,aG,bL,aBo,aE4,aI]
   rw [aAc (by rw [List.length_map]; omega)]
   simp
 have le : dN (.str s) = some (.int s.length) := by
  have : s.length <= sizeLine := sz (by omega)
  simp [dN,this]
 have ok : ∀ w ∈ gY ops,PyData.strOk w = true := fun w hw => by
  obtain ⟨o,ho,hw⟩ := List.mem_flatMap.mp hw
  exact rT w ((O.ok o ho).w0 w hw)
 have nin := aGu (x := s) hs ok
 have sl : s.cps.toList.length <= 16777216 := by
  have : s.cps.toList.length = s.length := by simp [Str.length]
  omega
 have lc : lcP some (fun (x18 : Q) => (Pm.ret true)) (fun (x18 : Q) => Pm.of (qIn x18 (Q.str "abcdefghijklmnopqrstuvwxyz0123456789"))) (s.cps.toList.map fun c => .str ⟨#[c]⟩) = .ret (.lst (s.cps.toList.map fun c => .bl (iW c))) := by
  refine qC (xs := s.cps.toList) (fun c => Q.str ⟨#[c]⟩) (fun c => .bl (iW c)) sl fun c _ => ⟨_,rfl,rfl, ?_⟩
  have : qIn (.str ⟨#[c]⟩) (Q.str "abcdefghijklmnopqrstuvwxyz0123456789") = some (.bl (iW c)) := rfl
  rw [this]; rfl
 have qa := vY (f := iW) (l := s.cps.toList)
 have z1 : decide ((0 : Int) < (s.length : Nat)) = decide (0 < s.length) := by rw [decide_eq_decide]; omega
 have z2 : decide (((s.length : Nat) : Int) < 9) = decide (s.length < 9) := by rw [decide_eq_decide]; omega
 rw [aF2]
 unfold cX
 simp only [aG,bL,uW,aI,eM,if_true,so,loop,seq_nx,le,aHl,aGx,z1,z2]
 generalize decide (0 < s.length) = b1
 generalize decide (s.length < 9) = b2
 rw [lc]
 generalize s.cps.toList.all iW = b3 at qa
 cases b1
 ·simp [cQ]
 ·cases b2
  ·simp [cQ]
  ·simp only [cQ,aG,qa,aI]
   cases b3
   ·simp [cQ]
   ·simp [cQ,nin]
theorem aI6 {ops : List Opr} {m : Nat} {s : Str} : isT ops (m + 1) (.tup [.str s]) = false := by unfold isT; rfl
theorem aEI {ops : List Opr} {m : Nat} {s : Str} {y : Q} : isT ops (m + 1) (.tup [.str s,y]) = (decide (s = "(") && isT ops m y) := by
 conv => lhs; rw [isT]
theorem aI7 {ops : List Opr} {m : Nat} {s : Str} {y z : Q} {r : List Q} : isT ops (m + 1) (.tup (.str s :: y :: z :: r)) = false := by unfold isT; rfl
theorem aAX {ops : List Opr} (O : OpsOk ops) (hol : ops.length <= 12) {pc : Nat -> List Q -> Pm Q} {L : Bool} {n : Nat} {q : Q} (h : v06 L n q)
  (Hh : ∀ o,OprOk o -> pc cP [o.q] = .ret (.int (o.holes : Nat)))
  (ih : ∀ m,n = m + 1 -> ∀ x,v06 L m x -> pc bY [bN ops,x] = .ret (.bl (isT ops m x))) : (cX pc (bN ops) q).bind bV = .ret (.bl (isT ops n q)) := by
 have nf : ∀ q : Q,(∀ s,q ≠ .str s) -> (∀ qs,q ≠ .tup qs) -> isT ops n q = false := fun q h1 h2 => by
  cases n <;> unfold isT <;> split <;> first | rfl | exact absurd rfl (h1 _) | exact absurd rfl (h2 _)
 rcases iR h with rfl | ⟨b,rfl⟩ | ⟨i,rfl,_⟩ | ⟨s,rfl,hs,hok⟩ | ⟨qs,rfl⟩ | rfl | ⟨qs,rfl,hl,hq⟩
 ·have a1 : aV .non (.ty "str") = some (.bl false) := rfl
  have a2 : aV .non (.ty "tuple") = some (.bl false) := rfl
  rw [nf _ (by simp) (by simp)]; unfold cX; simp [a1,a2]
 ·have a1 : aV (.bl b) (.ty "str") = some (.bl false) := rfl
  have a2 : aV (.bl b) (.ty "tuple") = some (.bl false) := rfl
  rw [nf _ (by simp) (by simp)]; unfold cX; simp [a1,a2]
 ·have a1 : aV (.int i) (.ty "str") = some (.bl false) := rfl
  have a2 : aV (.int i) (.ty "tuple") = some (.bl false) := rfl
  rw [nf _ (by simp) (by simp)]; unfold cX; simp [a1,a2]
 ·have e : isT ops n (.str s) = dI ops s := by cases n <;> rfl
  rw [e,aHx O hol hs hok]
 ·have a1 : aV (.lst qs) (.ty "str") = some (.bl false) := rfl
  have a2 : aV (.lst qs) (.ty "tuple") = some (.bl false) := rfl
  rw [nf _ (by simp) (by simp)]; unfold cX; simp [a1,a2]
 ·have a1 : aV (.dK []) (.ty "str") = some (.bl false) := rfl
  have a2 : aV (.dK []) (.ty "tuple") = some (.bl false) := rfl
  rw [nf _ (by simp) (by simp)]; unfold cX; simp [a1,a2]
 ·have a1 : aV (.tup qs) (.ty "str") = some (.bl false) := rfl
  have a2 : aV (.tup qs) (.ty "tuple") = some (.bl true) := rfl
  cases qs with
  | nil =>
   have e : isT ops n (.tup []) = false := by cases n <;> rfl
   rw [e]; unfold cX; simp [a1,a2]
  | cons x r =>
   obtain ⟨m,rfl,hv⟩ : ∃ m,n = m + 1 /\ ∀ y ∈ x :: r,v06 L m y := by
    rcases hq with h0 | h0
    ·cases h0
    ·exact h0
   have ih := ih m rfl
   have vx := hv x (by simp)
   simp only [List.length_cons] at hl
   have ix0 : qIx (.tup (x :: r)) (.int 0) = some x := xO
   have eX : aBz (.tup (x :: r)) (.tup []) = some (.bl false) := by simp
   have le : dN (.tup (x :: r)) = some (.int ((r.length : Int) + 1)) := by simp
   unfold cX
   simp only [aG,bL,a1,a2,aI,eM,Bool.false_eq_true,if_false,Bool.not_true,eX,seq_nx,ix0,le]
   by_cases xs : ∃ s,x = .str s
   ·obtain ⟨s,rfl⟩ := xs
    simp only [uW,aI,aG,eM,if_true,aH4,aC2]
    match r,hv with
    | [],_ =>
     rw [aI6]
     by_cases hs : s = "("
     ·simp [cQ,hs]
     ·simp [cQ,hs]
    | [y],hv =>
     rw [aEI]
     have iy := ih y (hv y (by simp))
     have i1 : qIx (.tup [.str s,y]) (.int 1) = some y := xP
     by_cases hs : s = "("
     ·subst hs
      simp [cQ,i1,iy]
     ·simp [cQ,hs]
    | y :: z :: r,_ =>
     rw [aI7]
     have d2 : decide (((y :: z :: r).length : Int) + 1 = 2) = false := decide_eq_false (by simp only [List.length_cons]; omega)
     by_cases hs : s = "("
     ·simp only [hs,decide_true,cQ,aG,d2,aI,seq_ret,eO]
     ·simp [cQ,hs]
   ·have b1 : aV x (.ty "str") = some (.bl false) := by
     rcases iR vx with rfl | ⟨b,rfl⟩ | ⟨i,rfl,_⟩ | ⟨s,rfl,_⟩ | ⟨qs,rfl⟩ | rfl | ⟨qs,rfl,_⟩ <;> first | rfl | exact absurd ⟨_,rfl⟩ xs
    simp only [b1,aI,aG,eM,Bool.false_eq_true,if_false,seq_nx]
    by_cases xi : ∃ i,x = .int i
    ·obtain ⟨i,rfl⟩ := xi
     have e : isT ops (m + 1) (.tup (.int i :: r)) = (decide (0 <= i) && (match ops[i.toNat]? with | some o => decide (r.length = o.holes) && r.all (isT ops m) | none => false)) := by
      unfold isT; rfl
     rw [e]
     have lo : dN (bN ops) = some (.int (ops.length : Nat)) := by simp [bN]
     simp only [aCo,aBe,aI,aG,eM,Bool.not_true,Bool.false_eq_true,if_false,aLo,lo,aHl]
     by_cases h0 : 0 <= i
     ·obtain ⟨j,rfl⟩ := Int.eq_ofNat_of_zero_le h0
      by_cases hj : j < ops.length
      ·obtain ⟨o,eo⟩ : ∃ o,ops[j]? = some o := ⟨_,List.getElem?_eq_getElem hj⟩
       have ok := O.ok o (List.mem_of_getElem? eo)
       have ix : qIx (bN ops) (.int (j : Nat)) = some o.q := aBB (by rw [List.getElem?_map,eo]; rfl)
       have sl : qSl (.tup (.int (j : Nat) :: r)) (some 1) none = some (.tup r) := aE5
       have lc : lcP some (fun _ => Pm.ret true) (fun a => pc bY [bN ops,a]) r = .ret (.lst (r.map fun x => .bl (isT ops m x))) := by
        have := qC (un := some) (pt := fun _ => Pm.ret true) (pe := fun a => pc bY [bN ops,a]) (xs := r) (fun x => x) (fun x => .bl (isT ops m x)) (by omega) fun x hx => ⟨x,rfl,rfl,ih x (hv x (by simp [hx]))⟩
        rwa [List.map_id'] at this
       have zj : ((j : Int) < (ops.length : Int)) := by omega
       have ad : cR (.int 1) (.int (o.holes : Nat)) = some (.int (1 + (o.holes : Nat))) := by simp
       have tn : ((j : Int)).toNat = j := Int.toNat_natCast j
       simp only [h0,decide_true,cQ,aG,zj,aI,eM,Bool.not_true,Bool.false_eq_true,if_false,seq_nx,ix,Hh o ok,ad,aH5,tn,eo,Bool.true_and]
       by_cases hh : r.length = o.holes
       ·have g1 : (r.length : Int) + 1 = 1 + (o.holes : Nat) := by omega
        have qa := vY (f := isT ops m) (l := r)
        simp [g1,hh,aFv,sl,lc,qa]
        rw [if_pos (by omega)]
        simp
       ·have g1 : ¬ ((r.length : Int) + 1 = 1 + (o.holes : Nat)) := by omega
        simp [g1,hh]
      ·have en : ops[j]? = none := List.getElem?_eq_none (by omega)
       have zj : ¬ ((j : Int) < (ops.length : Int)) := by omega
       have tn : ((j : Int)).toNat = j := Int.toNat_natCast j
       simp [h0,cQ,zj,en,tn]
     ·simp [h0,cQ]
    ·have e : isT ops (m + 1) (.tup (x :: r)) = false := by
      cases x <;> first | rfl | exact absurd ⟨_,rfl⟩ xi | exact absurd ⟨_,rfl⟩ xs
     rw [e]
     rcases iR vx with rfl | ⟨b,rfl⟩ | ⟨i,rfl,_⟩ | ⟨s,rfl,_⟩ | ⟨qs,rfl⟩ | rfl | ⟨qs,rfl,_⟩
     ·have c1 : aV .non (.ty "int") = some (.bl false) := rfl
      simp [c1]
     ·have c1 : aV (.bl b) (.ty "int") = some (.bl true) := rfl
      have c2 : aV (.bl b) (.ty "bool") = some (.bl true) := rfl
      simp [c1,c2]
     ·exact absurd ⟨_,rfl⟩ xi
     ·exact absurd ⟨_,rfl⟩ xs
     ·have c1 : aV (.lst qs) (.ty "int") = some (.bl false) := rfl
      simp [c1]
     ·have c1 : aV (.dK []) (.ty "int") = some (.bl false) := rfl
      simp [c1]
     ·have c1 : aV (.tup qs) (.ty "int") = some (.bl false) := rfl
      simp [c1]
theorem aLr {ops : List Opr} (O : OpsOk ops) (hol : ops.length <= 12) {L : Bool} : ∀ (n k : Nat) {q : Q},v06 L n q -> aO PT (k + 4 + n) bY [bN ops,q] = .ret (.bl (isT ops n q)) := by
 intro n
 induction n with
 | zero =>
  intro k q h
  rw [show k + 4 + 0 = k + 3 + 1 from rfl,wU]
  exact aAX O hol h (fun o ho => aBD (k + 1) ho) fun m e => by omega
 | succ n ih =>
  intro k q h
  rw [show k + 4 + (n + 1) = k + 4 + n + 1 by omega,wU]
  refine aAX O hol h (fun o ho => ?_) fun m e x hx => ?_
  ·have := aBD (k + 2 + n) ho
   rwa [show k + 2 + n + 2 = k + 4 + n by omega] at this
  ·obtain rfl : m = n := by omega
   exact ih k hx
theorem aE8 {ops : List Opr} (O : OpsOk ops) (hol : ops.length <= 12) {L : Bool} : ∀ (n k : Nat) {q : Q},v06 L n q -> aO PT (k + 4 + n) bF [bN ops,q] = .ret (.bl (isT ops n q)) := by
 intro n
 induction n with
 | zero => exact fun k q h => qD O hol 0 k h fun m e => by omega
 | succ n ih =>
  intro k q h
  refine qD O hol (n + 1) k h fun m e x hx => ?_
  obtain rfl : m = n := by omega
  have := ih k hx
  rwa [show k + 4 + m = k + 3 + (m + 1) by omega] at this
end LW
end
section
namespace LW
open PV PySem PySem.Spec PyProof.Rows L2
def od (ops : List Opr) : List Q := (([("" : Str),"ninechars","a b","A","(",")","a(","0","x"].map Q.str ++ ops.map fun o => .str (o.words.headD "")) ++ [.non, .bl true, .int 0, .int (-1), .int (ops.length : Nat), .tup [], .lst [], .dK [], .tup [.str "("], .tup [.str "(", .str "a", .str "b"], .tup [.str "(", .str ""]]) ++ [.tup [.int 0], .tup [.bl true, .str "a", .str "b"], .tup [.bl true, .str "a"], .tup [.int 0, .str "a", .str "b"]]
def G06 (q : Q) (n w : Nat) : Prop := ∃ L,v06 L n q /\ aZ q <= w
theorem lQ {L : Bool} {n : Nat} {qs : List Q} (hl : qs.length <= 7) (h : ∀ x ∈ qs,v06 L n x) : v06 L (n + 1) (.tup qs) := jC.mpr (.inr ⟨qs, .inl rfl,hl,h⟩)
theorem qJ {L : Bool} {n m : Nat} (h : n <= m) {q : Q} (v : v06 L n q) : v06 L m q := by
 induction h with
 | refl => exact v
 | step _ ih => exact aKH ih
theorem aLe {ops : List Opr} (O : OpsOk ops) (hol : ops.length <= 12) : ∀ q ∈ od ops,G06 q 1 5 := by
 have s1 : ∀ s ∈ [("" : Str),"ninechars","a b","A","(",")","a(","0","x"],s.length <= 9 /\ PyData.strOk s = true := by decide +kernel
 have s2 : ∀ s ∈ [("(" : Str),"a","b",""],s.length <= 9 /\ PyData.strOk s = true := by decide +kernel
 have sp := s2 "(" (by simp)
 have sa := s2 "a" (by simp)
 have sb := s2 "b" (by simp)
 have se := s2 "" (by simp)
 have atm : ∀ q,jE q -> aZ q = 1 -> G06 q 1 5 := fun q h w => ⟨true,jW h 1,by omega⟩
 have tp : ∀ qs : List Q,qs.length <= 7 -> (∀ x ∈ qs,jE x) -> wts06 qs <= 4 -> G06 (.tup qs) 1 5 := fun qs h1 h2 h3 => ⟨true,lQ h1 fun x hx => jW (h2 x hx) 0,by simp only [aZ]; omega⟩
 intro q hq
 simp only [od,List.mem_append,List.mem_map] at hq
 rcases hq with ((⟨s,hs,rfl⟩ | ⟨o,ho,rfl⟩) | hq) | hq
 ·exact atm _ (s1 s hs) (by simp [aZ])
 ·have ok := O.ok o ho
  have l1 := ok.l1
  refine atm _ ?_ (by simp [aZ])
  cases e : o.words with
  | nil => rw [e] at l1; simp at l1
  | cons w ws =>
   have hw := ok.w0 w (by rw [e]; simp)
   exact ⟨by have := aE0 w hw; simp only [List.headD_cons]; omega,by simpa using rT w hw⟩
 ·simp only [List.mem_cons,List.not_mem_nil,or_false] at hq
  rcases hq with rfl | rfl | rfl | rfl | rfl | rfl | rfl | rfl | rfl | rfl | rfl
  ·exact atm _ trivial (by simp [aZ])
  ·exact atm _ trivial (by simp [aZ])
  ·exact atm _ (by simp [jE]) (by simp [aZ])
  ·exact atm _ (by simp [jE]) (by simp [aZ])
  ·exact atm _ (by simp only [jE]; omega) (by simp [aZ])
  ·exact atm _ trivial (by simp [aZ,wts06])
  ·exact ⟨true,aAK 1,by simp [aZ,wts06]⟩
  ·exact ⟨false,aAK 1,by simp [aZ]⟩
  ·exact tp _ (by simp) (fun x hx => by simp only [List.mem_cons,List.not_mem_nil,or_false] at hx; subst hx; exact sp) (by simp [aZ,wts06])
  ·exact tp _ (by simp) (fun x hx => by simp only [List.mem_cons,List.not_mem_nil,or_false] at hx; rcases hx with rfl | rfl | rfl; exact sp; exact sa; exact sb) (by simp [aZ,wts06])
  ·exact tp _ (by simp) (fun x hx => by simp only [List.mem_cons,List.not_mem_nil,or_false] at hx; rcases hx with rfl | rfl; exact sp; exact se) (by simp [aZ,wts06])
 ·simp only [List.mem_cons,List.not_mem_nil,or_false] at hq
  rcases hq with rfl | rfl | rfl | rfl
  ·exact tp _ (by simp) (fun x hx => by simp only [List.mem_cons,List.not_mem_nil,or_false] at hx; subst hx; simp [jE]) (by simp [aZ,wts06])
  ·exact tp _ (by simp) (fun x hx => by simp only [List.mem_cons,List.not_mem_nil,or_false] at hx; rcases hx with rfl | rfl | rfl; exact trivial; exact sa; exact sb) (by simp [aZ,wts06])
  ·exact tp _ (by simp) (fun x hx => by simp only [List.mem_cons,List.not_mem_nil,or_false] at hx; rcases hx with rfl | rfl; exact trivial; exact sa) (by simp [aZ,wts06])
  ·exact tp _ (by simp) (fun x hx => by simp only [List.mem_cons,List.not_mem_nil,or_false] at hx; rcases hx with rfl | rfl | rfl; simp [jE]; exact sa; exact sb) (by simp [aZ,wts06])
/-- what may be changed -/
def c06 : Nat -> Q -> Prop
 | 0,q => (∃ i : Int,q = .int i /\ i.natAbs <= 1000) \/ ∃ s,q = .str s /\ s.length <= 9 /\ PyData.strOk s = true
 | n + 1,q => c06 0 q \/ ∃ qs,q = .tup qs /\ 0 < qs.length /\ qs.length <= 6 /\ ∀ x ∈ qs,c06 n x
theorem wQ {q : Q} : c06 0 q ↔ ((∃ i : Int,q = .int i /\ i.natAbs <= 1000) \/ ∃ s,q = .str s /\ s.length <= 9 /\ PyData.strOk s = true) := by rw [c06]
theorem oF {n : Nat} {q : Q} : c06 (n + 1) q ↔ (c06 0 q \/ ∃ qs,q = .tup qs /\ 0 < qs.length /\ qs.length <= 6 /\ ∀ x ∈ qs,c06 n x) := by
 conv => lhs; rw [c06]
theorem aEr {q : Q} (h : c06 0 q) : jE q := by
 rcases wQ.mp h with ⟨i,rfl,h2⟩ | ⟨s,rfl,h2⟩
 ·exact h2
 ·exact h2
theorem wO {L : Bool} : ∀ {n : Nat} {q : Q},c06 n q -> v06 L n q
 | 0,q,h => jW (aEr h) 0
 | n + 1,q,h => by
  rcases oF.mp h with h | ⟨qs,rfl,h1,h2,h3⟩
  ·exact jW (aEr h) _
  ·exact lQ (by omega) fun x hx => wO (h3 x hx)
theorem aFH {n : Nat} {q : Q} (h : c06 n q) : aV q (.ty "tuple") = some (.bl false) \/ ∃ m qs,n = m + 1 /\ q = .tup qs /\ 0 < qs.length /\ qs.length <= 6 /\ ∀ x ∈ qs,c06 m x := by
 have z : ∀ {q : Q},c06 0 q -> aV q (.ty "tuple") = some (.bl false) := fun {q} h => by
  rcases wQ.mp h with ⟨i,rfl,_⟩ | ⟨s,rfl,_⟩ <;> rfl
 cases n with
 | zero => exact .inl (z h)
 | succ n =>
  rcases oF.mp h with h | ⟨qs,rfl,h1,h2,h3⟩
  ·exact .inl (z h)
  ·exact .inr ⟨n,qs,rfl,rfl,h1,h2,h3⟩
theorem tH {ops : List Opr} (O : OpsOk ops) (hol : ops.length <= 12) {pc : Nat -> List Q -> Pm Q} {d n : Nat} {q : Q} (hq : c06 n q)
  (F1 : ∀ (l : List Q) (K : Rs Q -> Nat -> Prop) (c : Nat),0 < l.length -> l.length < 1073741824 -> c < 1000000000 -> (∀ x ∈ l,K (.ok x) (c + 1)) -> pc bH [.src, .lst l] K c)
  (F2 : ∀ (n : Int) (K : Rs Q -> Nat -> Prop) (c : Nat),0 < n -> n < 1073741824 -> c < 1000000000 -> (∀ r : Nat,(r : Int) < n -> K (.ok (.int r)) (c + 1)) -> pc aQ [.src, .int n] K c)
  (rec : 0 < d -> ∀ (m : Nat) (x : Q),c06 m x -> ∀ (K : Rs Q -> Nat -> Prop) (c : Nat),c + 10 * d < 1000000000 -> (∀ q' c',G06 q' (m + 2) (2 * aZ x + 10) -> c' <= c + 10 * d -> K (.ok q') c') -> pc cC [.src,bN ops,x, .int ((d : Int) - 1)] K c)
  {K : Rs Q -> Nat -> Prop} {c : Nat} (hc : c + 10 * (d + 1) < 1000000000) (hk : ∀ q' c',G06 q' (n + 2) (2 * aZ q + 10) -> c' <= c + 10 * (d + 1) -> K (.ok q') c') : (hM pc .src (bN ops) q (.int (d : Nat))).bind bV K c := by
 have so : iF (bN ops) = some (ops.map Opr.q) := rfl
 have lo : dN (bN ops) = some (.int ops.length) := by simp [bN]
 have l1 : ∀ {pt : Q -> Pm Bool} {pe : Q -> Pm Q},(∀ a,pt a = .ret true) -> (∀ a,pe a = ((Pm.of (qIx a (.int 1))).bind fun x => Pm.of (qIx x (.int 0)))) -> lcP some pt pe (ops.map Opr.q) = .ret (.lst (ops.map fun o => .str (o.words.headD ""))) := fun {pt pe} h1 h2 => by
  refine qC (xs := ops) Opr.q (fun o => .str (o.words.headD "")) (by omega) fun o ho => ⟨_,rfl,h1 _, ?_⟩
  have w0 := (O.ok o ho).l1
  have ix : qIx o.q (.int 1) = some (.tup (o.words.map .str)) := xP
  rw [h2,ix]
  cases e : o.words with
  | nil => rw [e] at w0; simp at w0
  | cons w ws => simp
 have ad : ∀ a b : List Q,a.length <= 1000 -> b.length <= 1000 -> cR (.lst a) (.lst b) = some (.lst (a ++ b)) := fun a b h1 h2 => aE2 (by omega)
 unfold hM
 simp only [aG,bL,so,aI,lo,aJC]
 rw [l1 (fun _ => rfl) (fun _ => rfl)]
 simp only [aG]
 rw [ad _ _ (by simp) (by rw [List.length_map]; omega)]
 simp only [aI,aG]
 rw [ad _ _ (by simp; omega) (by simp)]
 simp only [aI,aG]
 rw [ad _ _ (by simp; omega) (by simp)]
 have eo : ((([.str "", .str "ninechars", .str "a b", .str "A", .str "(", .str ")", .str "a(", .str "0", .str "x"] : List Q) ++ ops.map fun o => .str (o.words.headD "")) ++ [.non, .bl true, .int 0, .int (-1), .int (ops.length : Nat), .tup [], .lst [], .dK [], .tup [.str "("], .tup [.str "(", .str "a", .str "b"], .tup [.str "(", .str ""]]) ++ [.tup [.int 0], .tup [.bl true, .str "a", .str "b"], .tup [.bl true, .str "a"], .tup [.int 0, .str "a", .str "b"]] = od ops := rfl
 simp only [aI,aG,eo,aHk]
 have lod : 0 < (od ops).length /\ (od ops).length < 1000 := by
  unfold od
  simp
  omega
 have hod := aLe O hol
 have fin : ∀ c1,c1 <= c + 1 -> ((pc bH [Q.src,Q.lst (od ops)]).bind fun x157 => (Pm.ret (Fl.ret x157) : Pm (Fl Unit Unit))) (bK bV K) c1 := fun c1 h1 => by
  rw [gB]
  refine F1 _ _ _ lod.1 (by omega) (by omega) fun x hx => ?_
  simp only [eY,eF,eO]
  obtain ⟨L,v1,w1⟩ := hod x hx
  exact hk _ _ ⟨L,qJ (by omega) v1,by omega⟩ (by omega)
 rw [gB,aFl]
 rcases aFH hq with e | ⟨m,qs,rfl,rfl,h0,h6,hx⟩
 ·simp only [e,aI,aG,eM,Bool.false_eq_true,if_false,eF,eY,uU]
  exact fin _ (by omega)
 ·have le : dN (.tup qs) = some (.int qs.length) := vZ
  by_cases hd : d = 0
  ·have z : ¬ (0 : Int) < ((d : Nat) : Int) := by omega
   simp only [uX,z,decide_false,aI,aG,eM,if_true,Bool.false_eq_true,if_false,eF,eY,uU]
   exact fin _ (by omega)
  ·have z : (0 : Int) < ((d : Nat) : Int) := by omega
   simp only [uX,z,decide_true,aI,aG,eM,if_true,bL]
   rw [gB]
   refine F2 _ _ _ (by omega) (by omega) (by omega) fun r hr => ?_
   simp only [eY,aHk,aI,aG,eM]
   by_cases hr0 : (0 : Int) < (r : Int)
   ·simp only [hr0,decide_true,if_true,le,aI,aG]
    rw [gB]
    refine F2 _ _ _ (by omega) (by omega) (by omega) fun at_ hat => ?_
    simp only [eY]
    rw [gB]
    refine F2 _ _ _ (by omega) (by omega) (by omega) fun way hway => ?_
    have hat' : at_ < qs.length := by omega
    have to : qSl (.tup qs) none (some (at_ : Int)) = some (.tup (qs.take at_)) := aJD (by omega)
    have fr : ∀ n : Nat,qSl (.tup qs) (some (n : Int)) none = some (.tup (qs.drop n)) := fun n => by simp only [qSl,aEs]
    have mid : qSl (.tup qs) (some (at_ : Int)) (some ((at_ + 1 : Nat) : Int)) = some (.tup ((qs.drop at_).take 1)) := by
     simp only [qSl,aFM (Nat.le_succ at_),show at_ + 1 - at_ = 1 by omega]
    have a1 : cR (.int (at_ : Int)) (.int 1) = some (.int ((at_ + 1 : Nat) : Int)) := by simp
    have adt : ∀ a b : List Q,a.length <= 100 -> b.length <= 100 -> cR (.tup a) (.tup b) = some (.tup (a ++ b)) := fun a b h1 h2 => aJy (by omega)
    have lt : (qs.take at_).length <= 6 := by rw [List.length_take]; omega
    have ld : ∀ n,(qs.drop n).length <= 6 := fun n => by rw [List.length_drop]; omega
    have eg : qs[at_]? = some qs[at_] := List.getElem?_eq_getElem hat'
    have dr : qs.drop at_ = qs[at_] :: qs.drop (at_ + 1) := List.drop_eq_getElem_cons hat'
    have ws := aFz (qs := qs) at_
    have ws2 : wts06 (qs.drop at_) = aZ qs[at_] + wts06 (qs.drop (at_ + 1)) := by rw [dr]; rfl
    have wq : aZ (.tup qs) = wts06 qs + 1 := by simp only [aZ]
    have mt : ∀ x ∈ qs.take at_,c06 m x := fun x h => hx x (List.mem_of_mem_take h)
    have md : ∀ n,∀ x ∈ qs.drop n,c06 m x := fun n x h => hx x (List.mem_of_mem_drop h)
    have up : ∀ {L : Bool} {x : Q},c06 m x -> v06 L (m + 2) x := fun h => qJ (by omega) (wO h)
    simp only [eY,zM,aI,aG,aC2,eM,aFv,to,a1,fr,mid,aJE,aBB eg]
    by_cases w0 : (way : Int) = 0
    ·simp only [w0,decide_true,if_true]
     rw [adt _ _ (by omega) (by have := ld (at_ + 1); omega)]
     simp only [aI,aG,seq_ret,eF,eY,sO,eO]
     refine hk _ _ ⟨true,lQ (by simp; omega) fun x h => ?_, ?_⟩ (by omega)
     ·rcases List.mem_append.mp h with h | h
      ·exact up (mt x h)
      ·exact up (md _ x h)
     ·simp only [aZ,qK]; omega
    ·simp only [w0,decide_false,Bool.false_eq_true,if_false,seq_nx]
     by_cases w1 : (way : Int) = 1
     ·simp only [w1,decide_true,if_true]
      rw [adt _ _ (by omega) (by simp; omega)]
      simp only [aI,aG]
      rw [adt _ _ (by simp; omega) (by have := ld at_; omega)]
      simp only [aI,aG,seq_ret,eF,eY,sO,eO]
      refine hk _ _ ⟨true,lQ (by rw [dr]; simp; omega) fun x h => ?_, ?_⟩ (by omega)
      ·simp only [List.mem_append] at h
       rcases h with (h | h) | h
       ·exact up (mt x h)
       ·exact up (md at_ x (List.mem_of_mem_take h))
       ·exact up (md _ x h)
      ·have : wts06 ((qs.drop at_).take 1) = aZ qs[at_] := by
        have e1 : (qs.drop at_).take 1 = [qs[at_]] := by rw [dr]; rfl
        rw [e1]; simp only [wts06]; omega
       simp only [aZ,qK,this]; omega
     ·simp only [w1,decide_false,Bool.false_eq_true,if_false,seq_nx]
      by_cases w2 : (way : Int) = 2
      ·have ql : sL (.tup qs) = some (.lst qs) := rfl
       simp only [w2,decide_true,if_true,ql,aI,aG,seq_ret,eF,eY,sO,eO]
       refine hk _ _ ⟨true,qJ (n := m + 1) (by omega) (jC.mpr (.inr ⟨qs, .inr ⟨rfl,rfl⟩,by omega,fun x h => wO (hx x h)⟩)), ?_⟩ (by omega)
       simp only [aZ]; omega
      ·simp only [w2,decide_false,Bool.false_eq_true,if_false,seq_nx]
       rw [gB]
       refine rec (by omega) m _ (hx _ (List.getElem_mem hat')) _ _ (by omega) fun q' c' hq' hc' => ?_
       obtain ⟨L,v1,w1⟩ := hq'
       simp only [eY]
       rw [adt _ _ (by omega) (by simp)]
       simp only [aI,aG]
       rw [adt _ _ (by simp; omega) (by have := ld (at_ + 1); omega)]
       simp only [aI,aG,eF,eY,sO,eO]
       refine hk _ _ ⟨L,lQ (by simp; omega) fun x h => ?_, ?_⟩ (by omega)
       ·simp only [List.mem_append,List.mem_singleton] at h
        rcases h with (h | rfl) | h
        ·exact up (mt x h)
        ·exact v1
        ·exact up (md _ x h)
       ·simp only [aZ,qK,wts06]; omega
   ·simp only [hr0,decide_false,Bool.false_eq_true,if_false,eF,eY,uU]
    exact fin _ (by omega)
theorem aE7 {ops : List Opr} (O : OpsOk ops) (hol : ops.length <= 12) : ∀ (d n k : Nat) {q : Q},c06 n q -> ∀ {K : Rs Q -> Nat -> Prop} {c : Nat},c + 10 * (d + 1) < 1000000000 -> (∀ q' c',G06 q' (n + 2) (2 * aZ q + 10) -> c' <= c + 10 * (d + 1) -> K (.ok q') c') -> aO PT (k + 5 + d) cC [.src,bN ops,q, .int (d : Nat)] K c := by
 intro d
 induction d with
 | zero =>
  intro n k q hq K c hc hk
  have F1 : ∀ (l : List Q) (K : Rs Q -> Nat -> Prop) (c : Nat),0 < l.length -> l.length < 1073741824 -> c < 1000000000 -> (∀ x ∈ l,K (.ok x) (c + 1)) -> aO PT (k + 4) bH [.src, .lst l] K c := fun l K c h1 h2 hc h => aE9 (k + 2) h1 h2 hc h
  have F2 : ∀ (n : Int) (K : Rs Q -> Nat -> Prop) (c : Nat),0 < n -> n < 1073741824 -> c < 1000000000 -> (∀ r : Nat,(r : Int) < n -> K (.ok (.int r)) (c + 1)) -> aO PT (k + 4) aQ [.src, .int n] K c := fun n K c h1 h2 hc h => aBC (k + 3) h1 h2 hc h
  rw [show k + 5 + 0 = k + 4 + 1 from rfl,pX]
  exact tH O hol (d := 0) hq F1 F2 (fun z => absurd z (by omega)) hc hk
 | succ d ih =>
  intro n k q hq K c hc hk
  have F1 : ∀ (l : List Q) (K : Rs Q -> Nat -> Prop) (c : Nat),0 < l.length -> l.length < 1073741824 -> c < 1000000000 -> (∀ x ∈ l,K (.ok x) (c + 1)) -> aO PT (k + 5 + d) bH [.src, .lst l] K c := fun l K c h1 h2 hc h => by
   have := aE9 (k + 3 + d) h1 h2 hc h
   rwa [show k + 3 + d + 2 = k + 5 + d by omega] at this
  have F2 : ∀ (n : Int) (K : Rs Q -> Nat -> Prop) (c : Nat),0 < n -> n < 1073741824 -> c < 1000000000 -> (∀ r : Nat,(r : Int) < n -> K (.ok (.int r)) (c + 1)) -> aO PT (k + 5 + d) aQ [.src, .int n] K c := fun n K c h1 h2 hc h => by
   have := aBC (k + 4 + d) h1 h2 hc h
   rwa [show k + 4 + d + 1 = k + 5 + d by omega] at this
  rw [show k + 5 + (d + 1) = k + 5 + d + 1 by omega,pX]
  refine tH O hol (d := d + 1) hq F1 F2 (fun _ m x hx K c hc hk => ?_) hc hk
  rw [show ((d + 1 : Nat) : Int) - 1 = (d : Nat) by omega]
  exact ih m k hx hc hk
theorem aIK {n : Nat} {q : Q} (h : c06 n q) : c06 (n + 1) q := by
 induction n generalizing q with
 | zero => exact oF.mpr (.inl h)
 | succ n ih =>
  rcases oF.mp h with h | ⟨qs,h1,h2,h3,h4⟩
  ·exact oF.mpr (.inl h)
  ·exact oF.mpr (.inr ⟨qs,h1,h2,h3,fun x hx => ih (h4 x hx)⟩)
theorem aAv {q : Q} (h : c06 0 q) : ∀ n,c06 n q
 | 0 => h
 | n + 1 => aIK (aAv h n)
mutual
theorem aAQ {ops : List Opr} (O : OpsOk ops) (hol : ops.length <= 12) : ∀ (t : Tr) (d : Nat),t.ok ops (fun s => s ∈ dW) -> t.depth <= d -> c06 d t.q /\ aZ t.q <= 3 * t.size
 | .leaf s,d,ok,_ => ⟨aAv (wQ.mpr (.inr ⟨s,by simp only [Tr.q],by have := aEF s ok; omega,aF3 s ok⟩)) d,by simp only [Tr.q,aZ,Tr.size]; omega⟩
 | .grp t,d,ok,hd => by
  simp only [Tr.depth] at hd
  obtain ⟨d,rfl⟩ : ∃ e,d = e + 1 := ⟨d - 1,by omega⟩
  obtain ⟨h1,h2⟩ := aAQ O hol t d ok (by omega)
  rw [aED]
  refine ⟨oF.mpr (.inr ⟨_,rfl,by simp,by simp,fun x hx => ?_⟩), ?_⟩
  ·simp only [List.mem_cons,List.not_mem_nil,or_false] at hx
   rcases hx with rfl | rfl
   ·exact aAv (wQ.mpr (.inr ⟨"(",rfl,by decide +kernel,by decide +kernel⟩)) d
   ·exact h1
  ·simp only [aZ,wts06,Tr.size]; omega
 | .nd n ts,d,ok,hd => by
  simp only [Tr.depth] at hd
  obtain ⟨d,rfl⟩ : ∃ e,d = e + 1 := ⟨d - 1,by omega⟩
  obtain ⟨⟨o,eo,hl⟩,hs⟩ := ok
  have h4 := vM (O.ok o (List.mem_of_getElem? eo))
  have hn := aF eo
  obtain ⟨h1,h2⟩ := c06_trs O hol ts d hs (by omega)
  rw [aG9]
  refine ⟨oF.mpr (.inr ⟨_,rfl,by simp,by simp [aFc]; omega,fun x hx => ?_⟩), ?_⟩
  ·rcases List.mem_cons.mp hx with rfl | hx
   ·exact aAv (wQ.mpr (.inl ⟨_,rfl,by omega⟩)) d
   ·exact h1 x hx
  ·simp only [aZ,wts06,Tr.size]; omega
theorem c06_trs {ops : List Opr} (O : OpsOk ops) (hol : ops.length <= 12) : ∀ (ts : List Tr) (d : Nat),Tr.oks ops (fun s => s ∈ dW) ts -> Tr.depths ts <= d -> (∀ x ∈ Tr.qs ts,c06 d x) /\ wts06 (Tr.qs ts) <= 3 * Tr.sizes ts
 | [],d,_,_ => ⟨fun x hx => by simp [Tr.qs] at hx,by simp only [Tr.qs,wts06]; omega⟩
 | t :: ts,d,ok,hd => by
  simp only [Tr.depths] at hd
  obtain ⟨a1,a2⟩ := aAQ O hol t d ok.1 (by omega)
  obtain ⟨b1,b2⟩ := c06_trs O hol ts d ok.2 (by omega)
  refine ⟨fun x hx => ?_,by simp only [Tr.qs,wts06,Tr.sizes]; omega⟩
  simp only [Tr.qs,List.mem_cons] at hx
  rcases hx with rfl | hx
  ·exact a1
  ·exact b1 x hx
end
mutual
theorem aBd {ops : List Opr} (O : OpsOk ops) : ∀ (t : Tr) (d : Nat),t.ok ops (fun s => s ∈ dW) -> t.depth <= d -> isT ops d t.q = true
 | .leaf s,d,ok,_ => by
  have e : isT ops d (.str s) = dI ops s := by cases d <;> rfl
  simp only [Tr.q,e]
  exact aDC O ok
 | .grp t,d,ok,hd => by
  simp only [Tr.depth] at hd
  obtain ⟨d,rfl⟩ : ∃ e,d = e + 1 := ⟨d - 1,by omega⟩
  rw [aED,aEI,aBd O t d ok (by omega)]
  simp
 | .nd n ts,d,ok,hd => by
  simp only [Tr.depth] at hd
  obtain ⟨d,rfl⟩ : ∃ e,d = e + 1 := ⟨d - 1,by omega⟩
  obtain ⟨⟨o,eo,hl⟩,hs⟩ := ok
  have hn := aF eo
  have h1 := isT_trs O ts d hs (by omega)
  have e : isT ops (d + 1) (.tup (.int (n : Nat) :: Tr.qs ts)) = (decide (0 <= (n : Int)) && (match ops[((n : Nat) : Int).toNat]? with | some o => decide ((Tr.qs ts).length = o.holes) && (Tr.qs ts).all (isT ops d) | none => false)) := by
   unfold isT; rfl
  rw [aG9,e,Int.toNat_natCast,eo]
  have h0 : (0 : Int) <= (n : Nat) := by omega
  simp only [h0,decide_true,Bool.true_and,aFc,hl,h1]
theorem isT_trs {ops : List Opr} (O : OpsOk ops) : ∀ (ts : List Tr) (d : Nat),Tr.oks ops (fun s => s ∈ dW) ts -> Tr.depths ts <= d -> (Tr.qs ts).all (isT ops d) = true
 | [],d,_,_ => by simp [Tr.qs]
 | t :: ts,d,ok,hd => by
  simp only [Tr.depths] at hd
  simp only [Tr.qs,List.all_cons,aBd O t d ok.1 (by omega),isT_trs O ts d ok.2 (by omega),Bool.and_self]
end
def uC : List Q := [.non, .bl true, .int 0, .str "", .str "a", .str "(", .tup [], .lst [], .dK [], .tup [.str "a"], .tup [.str "(", .str "a"], .tup [.tup [.str "(", .str "a"]], .tup [.str "(", .tup [.str "(", .str "a"]], .tup [.str "a", .str "b"]]
theorem aFy : ∀ q ∈ uC,G06 q 20 400 := by
 have s2 : ∀ s ∈ [("(" : Str),"a","b",""],s.length <= 9 /\ PyData.strOk s = true := by decide +kernel
 have sp : ∀ n,v06 true n (.str "(") := jW (s2 "(" (by simp))
 have sa : ∀ n,v06 true n (.str "a") := jW (s2 "a" (by simp))
 have sb : ∀ n,v06 true n (.str "b") := jW (s2 "b" (by simp))
 have se : ∀ n,v06 true n (.str "") := jW (s2 "" (by simp))
 have t2 : ∀ (n : Nat) (a b : Q),v06 true n a -> v06 true n b -> v06 true (n + 1) (.tup [a,b]) := fun n a b h1 h2 => lQ (by simp) fun x hx => by
  simp only [List.mem_cons,List.not_mem_nil,or_false] at hx
  rcases hx with rfl | rfl
  ·exact h1
  ·exact h2
 have t1 : ∀ (n : Nat) (a : Q),v06 true n a -> v06 true (n + 1) (.tup [a]) := fun n a h1 => lQ (by simp) fun x hx => by rw [List.mem_singleton.mp hx]; exact h1
 intro q hq
 simp only [uC,List.mem_cons,List.not_mem_nil,or_false] at hq
 rcases hq with rfl | rfl | rfl | rfl | rfl | rfl | rfl | rfl | rfl | rfl | rfl | rfl | rfl | rfl
 ·exact ⟨true,jW (q := .non) trivial 20,by simp [aZ]⟩
 ·exact ⟨true,jW (q := .bl true) trivial 20,by simp [aZ]⟩
 ·exact ⟨true,jW (by simp [jE]) 20,by simp [aZ]⟩
 ·exact ⟨true,se 20,by simp [aZ]⟩
 ·exact ⟨true,sa 20,by simp [aZ]⟩
 ·exact ⟨true,sp 20,by simp [aZ]⟩
 ·exact ⟨true,jW (q := .tup []) trivial 20,by simp [aZ,wts06]⟩
 ·exact ⟨true,aAK 20,by simp [aZ,wts06]⟩
 ·exact ⟨false,aAK 20,by simp [aZ]⟩
 ·exact ⟨true,t1 19 _ (sa 19),by simp [aZ,wts06]⟩
 ·exact ⟨true,t2 19 _ _ (sp 19) (sa 19),by simp [aZ,wts06]⟩
 ·exact ⟨true,t1 19 _ (t2 18 _ _ (sp 18) (sa 18)),by simp [aZ,wts06]⟩
 ·exact ⟨true,t2 19 _ _ (sp 19) (t2 18 _ _ (sp 18) (sa 18)),by simp [aZ,wts06]⟩
 ·exact ⟨true,t2 19 _ _ (sa 19) (sb 19),by simp [aZ,wts06]⟩
theorem aM4 {b : Bool} : ∃ s,hU (.bl b) = some (.str s) := by
 cases b
 ·exact ⟨"False",by kernel_rfl⟩
 ·exact ⟨"True",by kernel_rfl⟩
theorem aKC {ops : List Opr} {pc : Nat -> List Q -> Pm Q}
  (F4 : ∀ (L : Bool) (x : Q),v06 L 20 x -> pc bF [bN ops,x] = .ret (.bl (isT ops 20 x)))
  (F5 : ∀ (L : Bool) (x : Q),v06 L 20 x -> pc bY [bN ops,x] = .ret (.bl (isT ops 20 x))) {x : Q} (hx : G06 x 20 400) : gF pc (bN ops) x () = .ret (.nx ()) := by
 obtain ⟨L,v,w⟩ := hx
 obtain ⟨S,eS⟩ := aLs v (by omega) (by omega)
 have e4 := F4 L x v
 have e5 := F5 L x v
 obtain ⟨B,eB⟩ := aM4 (b := isT ops 20 x)
 have pm : dQ [1,0] [x,bN ops] = some [bN ops,x] := rfl
 simp only [gF,aG,bL,eS,aI,e5,eB,zM,e4,aH6,decide_true,Bool.not_true,eM,Bool.false_eq_true,if_false,pm,seq_nx]
theorem aEJ : aO PT 199 dZ [.src] (fun r _ => r = .ok (.bl true)) 0 := by
 rw [show (199 : Nat) = 198 + 1 from rfl,aAV]
 have r5 : oQ (.int 5) = some ((List.range 5).map fun i : Nat => Q.int i) := by simp [oQ]
 have r15 : oQ (.int 15) = some ((List.range 15).map fun i : Nat => Q.int i) := by simp [oQ]
 have ev : ([.non, .bl true, .int 0, .str "", .str "a", .str "(", .tup [], .lst [], .dK [], .tup [.str "a"], .tup [.str "(", .str "a"], .tup [.tup [.str "(", .str "a"]], .tup [.str "(", .tup [.str "(", .str "a"]], .tup [.str "a", .str "b"]] : List Q) = uC := rfl
 unfold lW
 simp only [aG,bL,ev,r5,aI]
 rw [gB,show (198 : Nat) = 197 + 1 from rfl,vI]
 refine ⟨⟨by decide,by decide,by decide,by decide⟩,fun ops _ O hl => ?_⟩
 have hol : ops.length <= 12 := by omega
 have F1 : ∀ (K : Rs Q -> Nat -> Prop) (c : Nat),c + 108 < 1000000000 -> (∀ t : Tr,t.okG ops 8 3 -> t.depth <= 12 -> K (.ok t.q) (c + 108)) -> aO PT (197 + 1) fI [.src,bN ops, .int 8, .int 3] K c := fun K c h1 h2 => by
  rw [aCi]
  exact aJH 182 O hol (N := 8) (G := 3) (by omega) fun t h3 h4 => h2 t h3 h4
 have F2 : ∀ (q : Q),c06 12 q -> ∀ (K : Rs Q -> Nat -> Prop) (c : Nat),c + 90 < 1000000000 -> (∀ q' c',G06 q' 14 (2 * aZ q + 10) -> c' <= c + 90 -> K (.ok q') c') -> aO PT (197 + 1) cC [.src,bN ops,q, .int 8] K c := fun q h1 K c h2 h3 => aE7 O hol 8 12 185 h1 (by omega) fun q' c' a b => h3 q' c' a (by omega)
 have F4 : ∀ (L : Bool) (x : Q),v06 L 20 x -> aO PT (197 + 1) bF [bN ops,x] = .ret (.bl (isT ops 20 x)) := fun L x v => aE8 O hol 20 174 v
 have F5 : ∀ (L : Bool) (x : Q),v06 L 20 x -> aO PT (197 + 1) bY [bN ops,x] = .ret (.bl (isT ops 20 x)) := fun L x v => aLr O hol 20 174 v
 generalize aO PT (197 + 1) = pc at *
 simp only [eY]
 rw [gB,aFl]
 refine aHA (xs := List.range 5) (fun i : Nat => Q.int i) (fun i s c' => ∃ vs : List Q,s = .lst vs /\ (∀ q ∈ vs,G06 q 20 400) /\ vs.length <= 14 + 16 * i /\ c' <= 1000 + 2000 * i) (by simp) ⟨uC,rfl,aFy,by simp [uC],by omega⟩ ?_ ?_
 ·rintro i x s c1 hx ⟨vs,rfl,h1,h2,h3⟩
  have hi := aF hx
  simp only [List.length_range] at hi
  refine ⟨_,rfl,fun K' hK' => ?_⟩
  unfold qB
  simp only [aG,bL,r15,aI]
  rw [gB]
  refine F1 _ _ (by omega) fun t ok hd => ?_
  have okt := ok.1
  have hsz := zC O okt
  have n1 := ok.2.1
  have n2 := ok.2.2
  obtain ⟨ct,wt⟩ := aAQ O hol t 12 okt hd
  have gt : G06 t.q 20 400 := ⟨true,qJ (by omega) (wO ct),by omega⟩
  simp only [eY,aBo]
  rw [gB,gB]
  refine aJc (xs := List.range 15) (fun i : Nat => Q.int i) (fun acc c' => (∀ q ∈ acc,G06 q 20 400) /\ c' <= c1 + 108 + 90 * acc.length) (by simp) ⟨by simp,by simp⟩ ?_ ?_
  ·rintro y hy acc c2 hacc ⟨a1,a2⟩
   simp only [List.length_range] at hacc
   refine ⟨_,rfl,rfl,fun K2 hK2 => ?_⟩
   refine F2 _ ct _ _ (by omega) fun q' c' hq' hc' => hK2 _ _ ⟨fun q hq => ?_,by simp; omega⟩
   rcases List.mem_append.mp hq with hq | hq
   ·exact a1 q hq
   ·rw [List.mem_singleton.mp hq]
    obtain ⟨L,v,w⟩ := hq'
    exact ⟨L,qJ (by omega) v,by omega⟩
  ·rintro acc c2 hlen ⟨a1,a2⟩
   simp only [List.length_range] at hlen
   have e4 : pc bF [bN ops,t.q] = .ret (.bl (isT ops 20 t.q)) := F4 true _ (qJ (by omega) (wO ct))
   rw [aBd O t 20 okt (by omega)] at e4
   simp only [eY]
   rw [aE2 (by simp; omega)]
   simp only [aI,aG]
   rw [aAc (by simp; omega)]
   simp only [aI,aG,eF,eY,e4,aJA,eM,decide_true,Bool.not_true,Bool.false_eq_true,if_false]
   refine hK' _ _ ⟨_,rfl,fun q hq => ?_,by simp; omega,by omega⟩
   simp only [List.mem_append,List.mem_singleton] at hq
   rcases hq with hq | hq | hq
   ·exact h1 q hq
   ·rw [hq]; exact gt
   ·exact a1 q hq
 ·rintro s c1 ⟨vs,rfl,h1,h2,h3⟩
  have ft : mL (L := Unit) some (gF pc (bN ops)) vs () = .ret (.nx ()) := by
   have := aFY (L := Unit) (un := some) (pb := gF pc (bN ops)) (xs := vs) (s := ()) (fun x => x) (fun _ => true) .non (by simp only [List.length_range] at h2; omega) fun x hx => ⟨_,rfl,by rw [if_pos rfl]; exact aKC F4 F5 (h1 x hx)⟩
   rw [List.map_id',if_pos (by simp)] at this
   exact this
  simp only [eY,uU,aGw,aI,aG,ft,seq_nx,eF,eO]
theorem plain : aAu := aHX aEJ
end LW
end
section
namespace LW
open PV PySem PySem.Spec PyProof.Rows L2
def gx (K : PySem.W.Frag) : Gx := ⟨K,fun f => match f with
 | 0 => some (He.ga K "is_token")
 | 1 => some (He.ga K "has_left")
 | 2 => some (He.ga K "has_right")
 | 3 => some (He.ga K "arity")
 | 4 => some (He.ga K "words_of")
 | 5 => some (He.ga K "is_number")
 | 6 => some (He.ga K "is_identifier")
 | 7 => some (He.ga K "is_tree")
 | 8 => some (He.ga K "_law_source")
 | 9 => some (He.ga K "_law_draw")
 | 10 => some (He.ga K "_law_pick")
 | 11 => some (He.ga K "_law_words")
 | 12 => some (He.ga K "_law_operator")
 | 13 => some (He.ga K "_law_operators")
 | 14 => some (He.ga K "_law_has")
 | 15 => some (He.ga K "_law_holes")
 | 16 => some (He.ga K "_law_tree")
 | 17 => some (He.ga K "_law_grown")
 | 18 => some (He.ga K "_law_due")
 | 19 => some (He.ga K "_law_changed")
 | 20 => some (He.ga K "_law_right")
 | 21 => some (He.ga K "law")
 | _ => none,fun c => (caL K).lookup c,[]⟩
theorem aEC {P : Program} {w : World} {K : PySem.W.Frag} {h : Heap} {mg : Str -> Option Value} (base : Heap) (X : K.In h) (G : h.Ns mainGlobals mg) (c : He.SaysD fa fn K) (d : ck K = true) : ∀ k,FS P w K mg base (gx K) k (aM T k)
 | 0 => by
  obtain ⟨_,F0⟩ := c.def_ 0 (d := qW) rfl
  obtain ⟨_,F1⟩ := c.def_ 1 (d := qV) rfl
  obtain ⟨_,F2⟩ := c.def_ 2 (d := pD) rfl
  obtain ⟨_,F3⟩ := c.def_ 3 (d := yG) rfl
  obtain ⟨_,F4⟩ := c.def_ 4 (d := rA) rfl
  obtain ⟨_,F5⟩ := c.def_ 5 (d := pE) rfl
  obtain ⟨_,F6⟩ := c.def_ 6 (d := kR) rfl
  obtain ⟨_,F7⟩ := c.def_ 7 (d := tI) rfl
  obtain ⟨_,F8⟩ := c.def_ 8 (d := nQ) rfl
  obtain ⟨_,F9⟩ := c.def_ 9 (d := qX) rfl
  obtain ⟨_,F10⟩ := c.def_ 10 (d := qY) rfl
  obtain ⟨_,F11⟩ := c.def_ 11 (d := pI) rfl
  obtain ⟨_,F12⟩ := c.def_ 12 (d := lF) rfl
  obtain ⟨_,F13⟩ := c.def_ 13 (d := kS) rfl
  obtain ⟨_,F14⟩ := c.def_ 14 (d := tK) rfl
  obtain ⟨_,F15⟩ := c.def_ 15 (d := pG) rfl
  obtain ⟨_,F16⟩ := c.def_ 16 (d := qZ) rfl
  obtain ⟨_,F17⟩ := c.def_ 17 (d := pF) rfl
  obtain ⟨_,F18⟩ := c.def_ 18 (d := tJ) rfl
  obtain ⟨_,F19⟩ := c.def_ 19 (d := mH) rfl
  obtain ⟨_,F20⟩ := c.def_ 20 (d := pH) rfl
  obtain ⟨_,F21⟩ := c.def_ 21 (d := aAy) rfl
  exact ⟨bQ F0 (He.glo_ok X G (c.fact 0 (f := .glo "is_token") rfl)) rfl,
   bQ F1 (He.glo_ok X G (c.fact 1 (f := .glo "has_left") rfl)) rfl,
   bQ F2 (He.glo_ok X G (c.fact 2 (f := .glo "has_right") rfl)) rfl,
   bQ F3 (He.glo_ok X G (c.fact 3 (f := .glo "arity") rfl)) rfl,
   bQ F4 (He.glo_ok X G (c.fact 4 (f := .glo "words_of") rfl)) rfl,
   bQ F5 (He.glo_ok X G (c.fact 5 (f := .glo "is_number") rfl)) rfl,
   bQ F6 (He.glo_ok X G (c.fact 6 (f := .glo "is_identifier") rfl)) rfl,
   bQ F7 (He.glo_ok X G (c.fact 7 (f := .glo "is_tree") rfl)) rfl,
   bQ F8 (He.glo_ok X G (c.fact 8 (f := .glo "_law_source") rfl)) rfl,
   bQ F9 (He.glo_ok X G (c.fact 9 (f := .glo "_law_draw") rfl)) rfl,
   bQ F10 (He.glo_ok X G (c.fact 10 (f := .glo "_law_pick") rfl)) rfl,
   bQ F11 (He.glo_ok X G (c.fact 11 (f := .glo "_law_words") rfl)) rfl,
   bQ F12 (He.glo_ok X G (c.fact 12 (f := .glo "_law_operator") rfl)) rfl,
   bQ F13 (He.glo_ok X G (c.fact 13 (f := .glo "_law_operators") rfl)) rfl,
   bQ F14 (He.glo_ok X G (c.fact 14 (f := .glo "_law_has") rfl)) rfl,
   bQ F15 (He.glo_ok X G (c.fact 15 (f := .glo "_law_holes") rfl)) rfl,
   bQ F16 (He.glo_ok X G (c.fact 16 (f := .glo "_law_tree") rfl)) rfl,
   bQ F17 (He.glo_ok X G (c.fact 17 (f := .glo "_law_grown") rfl)) rfl,
   bQ F18 (He.glo_ok X G (c.fact 18 (f := .glo "_law_due") rfl)) rfl,
   bQ F19 (He.glo_ok X G (c.fact 19 (f := .glo "_law_changed") rfl)) rfl,
   bQ F20 (He.glo_ok X G (c.fact 20 (f := .glo "_law_right") rfl)) rfl,
   bQ F21 (He.glo_ok X G (c.fact 21 (f := .glo "law") rfl)) rfl,
   He.str_ok X G (c.fact 22 (f := .str "GROUP" "(") rfl),
   He.str_ok X G (c.fact 23 (f := .str "IDENTIFIER_CHARACTERS" "abcdefghijklmnopqrstuvwxyz0123456789") rfl),
   He.str_ok X G (c.fact 24 (f := .str "INFIX" "infix") rfl),
   He.int_ok X G (c.fact 25 (f := .int "MOST_CHARACTERS" 8) rfl),
   He.str_ok X G (c.fact 26 (f := .str "POSTFIX" "postfix") rfl),
   He.str_ok X G (c.fact 27 (f := .str "PREFIX" "prefix") rfl),
   He.free_ok X G (c.fact 28 (f := .free "abs") rfl),
   He.free_ok X G (c.fact 29 (f := .free "all") rfl),
   He.free_ok X G (c.fact 30 (f := .free "bool") rfl),
   He.free_ok X G (c.fact 31 (f := .free "int") rfl),
   He.free_ok X G (c.fact 32 (f := .free "isinstance") rfl),
   He.free_ok X G (c.fact 33 (f := .free "len") rfl),
   He.free_ok X G (c.fact 34 (f := .free "list") rfl),
   He.free_ok X G (c.fact 35 (f := .free "max") rfl),
   He.free_ok X G (c.fact 36 (f := .free "min") rfl),
   He.free_ok X G (c.fact 37 (f := .free "range") rfl),
   He.free_ok X G (c.fact 38 (f := .free "repr") rfl),
   He.free_ok X G (c.fact 39 (f := .free "str") rfl),
   He.free_ok X G (c.fact 40 (f := .free "sum") rfl),
   He.free_ok X G (c.fact 41 (f := .free "tuple") rfl)⟩
 | k + 1 => by
  have ih := aEC (P := P) (w := w) base X G c d k
  obtain ⟨_,F0⟩ := c.def_ 0 (d := qW) rfl
  obtain ⟨_,F1⟩ := c.def_ 1 (d := qV) rfl
  obtain ⟨_,F2⟩ := c.def_ 2 (d := pD) rfl
  obtain ⟨_,F3⟩ := c.def_ 3 (d := yG) rfl
  obtain ⟨_,F4⟩ := c.def_ 4 (d := rA) rfl
  obtain ⟨_,F5⟩ := c.def_ 5 (d := pE) rfl
  obtain ⟨_,F6⟩ := c.def_ 6 (d := kR) rfl
  obtain ⟨_,F7⟩ := c.def_ 7 (d := tI) rfl
  obtain ⟨_,F8⟩ := c.def_ 8 (d := nQ) rfl
  obtain ⟨_,F9⟩ := c.def_ 9 (d := qX) rfl
  obtain ⟨_,F10⟩ := c.def_ 10 (d := qY) rfl
  obtain ⟨_,F11⟩ := c.def_ 11 (d := pI) rfl
  obtain ⟨_,F12⟩ := c.def_ 12 (d := lF) rfl
  obtain ⟨_,F13⟩ := c.def_ 13 (d := kS) rfl
  obtain ⟨_,F14⟩ := c.def_ 14 (d := tK) rfl
  obtain ⟨_,F15⟩ := c.def_ 15 (d := pG) rfl
  obtain ⟨_,F16⟩ := c.def_ 16 (d := qZ) rfl
  obtain ⟨_,F17⟩ := c.def_ 17 (d := pF) rfl
  obtain ⟨_,F18⟩ := c.def_ 18 (d := tJ) rfl
  obtain ⟨_,F19⟩ := c.def_ 19 (d := mH) rfl
  obtain ⟨_,F20⟩ := c.def_ 20 (d := pH) rfl
  obtain ⟨_,F21⟩ := c.def_ 21 (d := aAy) rfl
  exact ⟨bJ (N := qM) (mm := fJ) F0 (He.glo_ok X G (c.fact 0 (f := .glo "is_token") rfl)) rfl aCu rfl ih rfl (by decide) aCC,
   bJ (N := qL) (mm := iY) F1 (He.glo_ok X G (c.fact 1 (f := .glo "has_left") rfl)) rfl aCt rfl ih rfl (by decide) aCB,
   bJ (N := oV) (mm := hZ) F2 (He.glo_ok X G (c.fact 2 (f := .glo "has_right") rfl)) rfl aBN rfl ih rfl (by decide) aBU,
   bJ (N := yE) (mm := nG) F3 (He.glo_ok X G (c.fact 3 (f := .glo "arity") rfl)) rfl aGC rfl ih rfl (by decide) aGH,
   bJ (N := qQ) (mm := fM) F4 (He.glo_ok X G (c.fact 4 (f := .glo "words_of") rfl)) rfl aCy rfl ih rfl (by decide) aCG,
   bJ (N := oW) (mm := iC) F5 (He.glo_ok X G (c.fact 5 (f := .glo "is_number") rfl)) rfl aBO rfl ih rfl (by decide) aBV,
   bJ (N := kN) (mm := dC) F6 (He.glo_ok X G (c.fact 6 (f := .glo "is_identifier") rfl)) rfl wD rfl ih rfl (by decide) wH,
   bJ (N := sY) (mm := kG) F7 (He.glo_ok X G (c.fact 7 (f := .glo "is_tree") rfl)) rfl aD2 rfl ih rfl (by decide) aD6,
   bJ (N := nM) (mm := iN) F8 (He.glo_ok X G (c.fact 8 (f := .glo "_law_source") rfl)) rfl aAr rfl ih rfl (by decide) aAs,
   bJ (N := qN) (mm := gS) F9 (He.glo_ok X G (c.fact 9 (f := .glo "_law_draw") rfl)) rfl aCv rfl ih rfl (by decide) aCD,
   bJ (N := qO) (mm := fL) F10 (He.glo_ok X G (c.fact 10 (f := .glo "_law_pick") rfl)) rfl aCw rfl ih rfl (by decide) aCE,
   bJ (N := pA) (mm := jL) F11 (He.glo_ok X G (c.fact 11 (f := .glo "_law_words") rfl)) rfl aBS rfl ih rfl (by decide) aBZ,
   bJ (N := lE) (mm := cW) F12 (He.glo_ok X G (c.fact 12 (f := .glo "_law_operator") rfl)) rfl xT rfl ih rfl (by decide) xX,
   bJ (N := kO) (mm := fK) F13 (He.glo_ok X G (c.fact 13 (f := .glo "_law_operators") rfl)) rfl wF rfl ih rfl (by decide) wI,
   bJ (N := tD) (mm := gK) F14 (He.glo_ok X G (c.fact 14 (f := .glo "_law_has") rfl)) rfl aD4 rfl ih rfl (by decide) aD8,
   bJ (N := oY) (mm := eC) F15 (He.glo_ok X G (c.fact 15 (f := .glo "_law_holes") rfl)) rfl aBQ rfl ih rfl (by decide) aBX,
   bJ (N := qP) (mm := kX) F16 (He.glo_ok X G (c.fact 16 (f := .glo "_law_tree") rfl)) rfl aCx rfl ih rfl (by decide) aCF,
   bJ (N := oX) (mm := iD) F17 (He.glo_ok X G (c.fact 17 (f := .glo "_law_grown") rfl)) rfl aBP rfl ih rfl (by decide) aBW,
   bJ (N := sZ) (mm := kH) F18 (He.glo_ok X G (c.fact 18 (f := .glo "_law_due") rfl)) rfl aD3 rfl ih rfl (by decide) aD7,
   bJ (N := mG) (mm := fE) F19 (He.glo_ok X G (c.fact 19 (f := .glo "_law_changed") rfl)) rfl yX rfl ih rfl (by decide) zD,
   bJ (N := oZ) (mm := iE) F20 (He.glo_ok X G (c.fact 20 (f := .glo "_law_right") rfl)) rfl aBR rfl ih rfl (by decide) aBY,
   bJ (N := aAt) (mm := uO) F21 (He.glo_ok X G (c.fact 21 (f := .glo "law") rfl)) rfl aFi rfl ih rfl (by decide) aFn,
   He.str_ok X G (c.fact 22 (f := .str "GROUP" "(") rfl),
   He.str_ok X G (c.fact 23 (f := .str "IDENTIFIER_CHARACTERS" "abcdefghijklmnopqrstuvwxyz0123456789") rfl),
   He.str_ok X G (c.fact 24 (f := .str "INFIX" "infix") rfl),
   He.int_ok X G (c.fact 25 (f := .int "MOST_CHARACTERS" 8) rfl),
   He.str_ok X G (c.fact 26 (f := .str "POSTFIX" "postfix") rfl),
   He.str_ok X G (c.fact 27 (f := .str "PREFIX" "prefix") rfl),
   He.free_ok X G (c.fact 28 (f := .free "abs") rfl),
   He.free_ok X G (c.fact 29 (f := .free "all") rfl),
   He.free_ok X G (c.fact 30 (f := .free "bool") rfl),
   He.free_ok X G (c.fact 31 (f := .free "int") rfl),
   He.free_ok X G (c.fact 32 (f := .free "isinstance") rfl),
   He.free_ok X G (c.fact 33 (f := .free "len") rfl),
   He.free_ok X G (c.fact 34 (f := .free "list") rfl),
   He.free_ok X G (c.fact 35 (f := .free "max") rfl),
   He.free_ok X G (c.fact 36 (f := .free "min") rfl),
   He.free_ok X G (c.fact 37 (f := .free "range") rfl),
   He.free_ok X G (c.fact 38 (f := .free "repr") rfl),
   He.free_ok X G (c.fact 39 (f := .free "str") rfl),
   He.free_ok X G (c.fact 40 (f := .free "sum") rfl),
   He.free_ok X G (c.fact 41 (f := .free "tuple") rfl)⟩
theorem facts {P : Program} {w : World} {K : PySem.W.Frag} {h : Heap} {mg : Str -> Option Value} {f : Addr} (X : K.In h) (G : h.Ns mainGlobals mg) (hfa : mg ("law" : Str) = some (.ref f)) (c : He.SaysD fa fn K) (d : ck K = true) :
  ∃ fd : FuncData,(∀ (s : Shared) (v : Value),BindsTo s fd ⟨[v],[]⟩ [("_law_script",v)]) /\ ∀ base : Heap,K.In base -> base.Ns mainGlobals mg -> FnG P w K mg base (CX P w) 203 f fd ["_law_script"] (sQ (gx K) 1 (aM T 200 aAB)) := by
 obtain ⟨fd,F⟩ := c.def_ 21 (d := aAy) rfl
 have e := hfa.symm.trans (He.glo_ok X G (c.fact 21 (f := .glo "law") rfl))
 cases e
 have b := FunD.bindsA (ps := ["_law_script"]) F aIJ
 refine ⟨fd,fun s v => b s [v] rfl,fun base _ _ => ?_⟩
 exact aEz (N := aAt) (mm := uO) F aFi rfl (aEC base X G c d 199) rfl (by decide) aFn
theorem law_sp (pl : aAu) {K : PySem.W.Frag} (H : Hp) (a : Addr) (ns : List Int) (hl : ns.length <= 63) (hS : SqF K H a (ns.map V.int)) : sQ (gx K) 1 (aM T 200 aAB) [.ref a] H (fun v _ => v = .bl true) fun _ _ _ => False := by
 obtain ⟨h,e⟩ := pl ns hl
 refine ⟨[.fl (ns.map D.int)],[],[],[],rfl,⟨.ref a,[],rfl,rfl,⟨a,ns.map V.int,rfl,hS,aBc ns⟩,rfl⟩,⟨rfl,List.nodup_nil,fun i c e => (by cases e),fun p hp => (by cases hp)⟩, ?_⟩
 rw [e]
 exact fun _ _ _ _ v q _ => q
end LW
end
section
open PySem PySem.W PySem.Calls PyProof.Rows
theorem LW.walk : WalkO LW.HH.vw LW.HH.names (XL LW.HH.vw []) (PV.hookY LW.HH.nH LW.lamN LW.fa LW.fn LW.ck).says LW.RW.toRowW LW.HH.dd [] fun f vs => PySem.call f vs := by
 refine PV.walkG (l := PySem.Challenge.rw_operatortables_k06_trees_of_any_value) (n := 63) (k := 203) (x := "_law_script") rfl (by decide) LW.HH.h_df ⟨rfl,by decide,by decide⟩ ?F
 intro w mg fa h Y G hmg0
 obtain ⟨K,KX,c,cd⟩ := Y
 have hmg : mg ("law" : PySem.Str) = some (.ref fa) := LW.HH.h_n ▸ hmg0
 obtain ⟨fd,hb,hF⟩ := LW.facts (P := LW.RW.prog) (w := w) KX G hmg c cd
 exact ⟨K,fd,_,KX,hb,fun H a ns hl hS => LW.law_sp LW.plain H a ns hl hS,hF⟩
theorem PySem.Challenge.cw_operatortables_k06_trees_of_any_value_holds : PySem.Challenge.rw_operatortables_k06_trees_of_any_value.Holds := by
 w_on; o_law
 refine LW.HH.head ?hw LW.walk
 case hw => w_witness2
end
