import PyProof.Rows.All
import Wide.All
import OpenK.AllK
import Wide.FinOn
import HandS.Head0
import HandS.Head1
import HandS.Head2
import HandS.HeadEnd
import HandS.HeadHook1
import HandS.HeadHook2
import HandS.Exc
import HandS.Lambda
import HandS.ExcField
import HandS.EndTab
import HandS.Words
import Open.Tops
import KE.KStateDown
import Lean
import PySem.Challenge.RW_operatortables_k29_groups_at_places
import HandS.ForMost
import HandS.TupAny
import HandS.Deep
import HandS.Style
import HandS.TupLe
import HandS.IsInst
import HandS.TupLen
import HandS.RaiseMore
import HandS.Conv
import HandS.More
import KE.GoesMore
import HandS.Zip
import HandS.TryOnly
import HandS.Small
import HandS.Defaults
import HandS.CallSlots
import HandS.Ends
import HandS.DictComp
import KE.KDictList
import HandS.TryMany
import HandS.ExcInit
import HandS.ExcIs
import HandS.ClsMeth
import KE.KExcIs
import KE.KDictPairs
import KE.KDictCopyH
import HandS.DeepEq
import KE.SortData
import HandS.Comp
import KE.SortKeyHeap
import KE.KSortKey
import KE.KLam
import KE.KRevSl
import HandS.TupMul
import PyProof.ReprLen
import PyProof.P3Eq
set_option Elab.async false
set_option linter.all false
set_option maxRecDepth 100000
set_option maxHeartbeats 0
section
namespace PV
open PySem PySem.Spec PyProof.Rows L2
/-- the j-th statement of a class -/
def inC (s : Stmt) (j : Nat) : Stmt := match s with
 | .ClassDef _ _ _ body _ _ _ _ _ _ _ => body.getD j (.Pass ⟨0, 0, 0, 0⟩)
 | _ => .Pass ⟨0, 0, 0, 0⟩
def aFd (K : PySem.W.Frag) (C : Addr) : Bool := (match K.lookup C with
 | some ⟨.type "type", _, .cls cd, sl⟩ => (match cd.mro, sl.toList with
  | .ref C' :: bm, [_, _, _, _, some (.builtin n), _] => C' == C && n == "ValueError.__new__" && !cd.hasDel && cd.hasDict && HandSPX.refsVE bm
  | _, _ => false)
 | _ => false) && (He.eqO (PySem.W.findIn K (.ref C) "__setattr__") (some (some (.builtin "object.__setattr__"))) && (decide (PySem.W.subIn K (.ref C) (.type "BaseException") = some true) && (decide (PySem.W.typeIn K (.ref C) = some (.type "type")) && PySem.W.keepIn K (.ref C))))
/-- the base class: its __init__ is ValueError's -/
def aEY (K : PySem.W.Frag) (C : Addr) : Bool := PySem.W.readsIn K C (.type "type") && (He.eqO (PySem.W.specialIn K (.ref C) "__getattribute__") (some (some (.builtin "type.__getattribute__"))) && (match PySem.W.findCls K (.ref C) (.type "type") "__init__" with
 | some (.val (.builtin n)) => n == "ValueError.__init__"
 | _ => false))
def tys : List String := ["NoneType", "bool", "int", "str", "tuple", "list", "dict"]
def kxB (K : PySem.W.Frag) (C : Addr) : Bool := (PySem.W.clsIn K C).isSome && (He.eqO (PySem.W.findIn K (.ref C) "__getattribute__") (some (some (.builtin "BaseException.__getattribute__"))) && (He.eqO (PySem.W.findIn K (.ref C) "__getattr__") (some none) && (decide (PySem.W.subIn K (.ref C) (.type "BaseException") = some true) &&
 (He.eqO (PySem.W.findIn K (.ref C) "__class__") (some (some (.builtin "object.__class__"))) && decide (PySem.W.mroIn K C (.type "object") = some true)))))
def aCG (K : PySem.W.Frag) (C : Addr) : Bool := PySem.W.plainGet K C Str.empty && (PySem.W.hasDictIn K C && (PySem.W.plainOver K C && He.eqO (PySem.W.findIn K (.ref C) "__setattr__") (some (some (.builtin "object.__setattr__")))))
def kiB (K : PySem.W.Frag) (C : Addr) : Bool := aCG K C && (He.eqO (PySem.W.findIn K (.ref C) "__class__") (some (some (.builtin "object.__class__"))) && decide (PySem.W.mroIn K C (.type "object") = some true))
def kfB (K : PySem.W.Frag) (l : List (Nat × Addr)) : Bool := (He.eqO (PySem.W.specialIn K (.builtin "object.__class__") "__get__") (some (some (.builtin "getset_descriptor.__get__"))) && decide (PySem.W.takesIn K (.builtin "object.__class__") = some true)) &&
 ((l.all fun p => if 100 <= p.1 then kxB K p.2 else kiB K p.2) && ((l.all fun p => l.all fun q => decide (PySem.W.kitOne K (.ref p.2) (.ref q.2) = some (p.1 == q.1 || (q.1 == 100 && decide (100 <= p.1))))) &&
 ((l.all fun p => decide (PySem.W.kitOne K (.ref p.2) (.type "ValueError") = some (decide (100 <= p.1)))) && ((l.all fun p => tys.all fun t => decide (PySem.W.kitOne K (.type t) (.ref p.2) = some false)) && tys.all fun t => decide (PySem.W.kitOne K (.type t) (.type "ValueError") = some false)))))
def exB (K : PySem.W.Frag) (l : List (Nat × Addr)) (C : Addr) (L : List Nat) : Bool := l.all fun p => if 100 <= p.1 then decide (PySem.W.exmOne K (.ref p.2) (.ref C) = some (L.contains p.1)) else true
def aGk (K : PySem.W.Frag) (l : List (Nat × Addr)) (fl : Str) : Bool := l.all fun p => if 100 <= p.1 then xfB K p.2 && He.eqO (PySem.W.findIn K (.ref p.2) fl) (some none) else aCG K p.2 && He.eqO (PySem.W.findIn K (.ref p.2) fl) (some none)
/-- an exception class that is raised -/
def xcB (K : PySem.W.Frag) (C G : Addr) (fs : List Str) : Bool := aFd K C && (aEY K G && ((fs.all fun f => He.eqO (PySem.W.findIn K (.ref C) f) (some none)) && (He.eqO (PySem.W.findIn K (.ref C) "__init__") (some (some (.ref (He.ma K C "__init__")))) && decide (PySem.W.typeIn K (.ref (He.ma K C "__init__")) = some (.type "function")))))
/-- the tables of some defs -/
def aJh (K : PySem.W.Frag) (xs : List Str) : List (Addr × Addr) := xs.filterMap (PySem.W.tabIn K)
def asX (n : Nat) : List Addr := (List.range n).reverse ++ [cStatics]
def frX (g : Addr -> Option Obj) (n : Nat) (tn : List Str) : PySem.W.Frag := match (aJh (He.frG g (asX n)) tn).map (·.2) with
 | ts => He.frG g ((asX n).filter fun a => !ts.contains a)
def aAP (n : Nat) (tn : List Str) (fa : List He.Fa) (fn : List He.DefD) (ck : PySem.W.Frag -> Bool) (g : Addr -> Option Obj) : He.AlD × Bool := (He.obsD fa fn (frX g n tn), ck (frX g n tn))
theorem aHL {h : Heap} {n : Nat} {tn : List Str} : (frX h.get? n tn).In h := He.frG_in
def hookY (n : Nat) (tn : List Str) (fa : List He.Fa) (fn : List He.DefD) (ck : PySem.W.Frag -> Bool) : PySem.W.Hook where
 α := He.AlD × Bool
 obs := fun s => aAP n tn fa fn ck s.heap.get?
 val := fun _ => (He.valD fn, true)
 says := fun _ h => ∃ K : PySem.W.Frag, K.In h /\ He.SaysD fa fn K /\ ck K = true
 of := fun _ _ e => ⟨_, aHL, (Prod.mk.inj e).1, (Prod.mk.inj e).2⟩
 keeps := fun _ _ _ ⟨K, hK, c, d⟩ k => ⟨K, PySem.W.Frag.In.keeps hK k, c, d⟩
theorem aGK {n : Nat} {tn : List Str} {fa : List He.Fa} {fn : List He.DefD} {ck : PySem.W.Frag -> Bool} {g : Addr -> Option Obj} {s : Shared} (h : ∀ a, g a = s.heap.get? a) : aAP n tn fa fn ck g = (hookY n tn fa fn ck).obs s := by
 have e : g = s.heap.get? := funext h
 rw [e]
 rfl
/-- the observations, part by part -/
theorem aD0 {n : Nat} {tn : List Str} {fa : List He.Fa} {fn : List He.DefD} {ck : PySem.W.Frag -> Bool} {g : Addr -> Option Obj} (h1 : (fa.all fun f => f.ok (frX g n tn)) = true) (h2 : (fn.all fun d => d.ok (frX g n tn)) = true) (h3 : (fn.map fun d => He.fnW (frX g n tn) d.at_) = fn.map He.DefD.val) (h4 : ck (frX g n tn) = true) : aAP n tn fa fn ck g = (He.valD fn, true) := by
 simp only [aAP, He.obsD, He.valD, h1, h2, h3, h4, Bool.and_self]
end PV
namespace PV
section
open PySem PySem.W PySem.Calls PyProof.Rows HandSHeadRun
theorem aE2 {p q : Program} {loose : List Str} {Xt : Shared -> Bool} {α : Type} {Yf : Shared -> α} {Ya : World -> α} {N M : Nat} {s : World -> OsState -> SharedT}
  (e : opening p = plainProg p.main.scope.names) (hN : Nat.ble 600 N = true) (f : ∀ s, fenceModules? p s = some s) (le : Nat.ble M N = true)
  (run : ∀ (w : World) (os : OsState), topRun treeTable p w (boot_heap w.params).objs.size (bootAnn w) M ⟨boot_heap w.params, #[], boot_drawn, boot_toks, os⟩ (topStub p) = some (s w os).abs)
  (l1 : ∀ (w : World) (os : OsState), looksF p (boot_heap w.params) (s w os).abs = true) (l2 : ∀ (w : World) (os : OsState), openSeen q loose (importedModules p.main.body) Xt true (s w os).abs = openGood q loose) (l3 : ∀ (w : World) (os : OsState), Yf (s w os).abs = Ya w) :
  LeftO p q loose Xt Yf Ya N true := fun w => by
 obtain ⟨⟨h, gs, d, k, os⟩, a, a'⟩ := Option.map_eq_some_iff.mp (boot_open e hN f w)
 obtain ⟨rfl, rfl, rfl, rfl⟩ : h = boot_heap w.params /\ gs = Array.mk [] /\ d = boot_drawn /\ k = boot_toks := by simpa using a'
 have r := topRun_mono (N - M) _ _ _ _ (run w os)
 rw [show M + (N - M) = N by have := Nat.le_of_ble_eq_true le; omega] at r
 have l1' : (staticsOk (importedModules p.main.body) (boot_heap w.params) (s w os).abs.heap && namesBound p (s w os).abs.heap && gensDone (s w os).abs && laidKept (boot_heap w.params) (s w os).abs.heap) = true := l1 w os
 have t : topFrom treeTable p w N ⟨boot_heap w.params, Array.mk [], boot_drawn, boot_toks, os⟩ = some (s w os).abs := by
  unfold topFrom
  dsimp only
  rw [boot_ns]
  show (topRun treeTable p w (boot_heap w.params).objs.size (bootAnn w) N ⟨boot_heap w.params, #[], boot_drawn, boot_toks, os⟩ (topStub p)).bind _ = _
  rw [r]
  show (match staticsOk (importedModules p.main.body) (boot_heap w.params) (s w os).abs.heap && namesBound p (s w os).abs.heap && gensDone (s w os).abs && laidKept (boot_heap w.params) (s w os).abs.heap with | true => some (s w os).abs | false => none) = _
  rw [l1']
 unfold openEnds
 rw [a]
 show (topFrom treeTable p w N _).map _ = _
 rw [t]
 exact congrArg some (Prod.ext (l2 w os) (l3 w os))
theorem aBE {r : OpenRow} {q : Program} {H : Hook} {ob : SharedT -> H.α} {M : Nat} {loose : List PySem.Str} {d : DefRec} {kwd : List (PySem.Str × PySem.Expr)} {s : World -> OsState -> SharedT} (ho : ∀ s : SharedT, ob s = H.obs s.abs)
  (e : opening r.prog = plainProg r.prog.main.scope.names) (f : ∀ s, fenceModules? r.prog s = some s)
  (run : ∀ (w : World) (os : OsState), topRun treeTable r.prog w (boot_heap w.params).objs.size (bootAnn w) M ⟨boot_heap w.params, #[], boot_drawn, boot_toks, os⟩ (topStub r.prog) = some (s w os).abs)
  (l1 : ∀ (w : World) (os : OsState), looksF r.prog (boot_heap w.params) (s w os).abs = true)
  (l2 : ∀ (w : World) (os : OsState), seenQ q loose (importedModules r.prog.main.body) (fun s => xlAt q [] s && recOk r.toRowW.records s) (s w os).abs = openGood q loose)
  (l3 : ∀ (w : World) (os : OsState), ob (s w os) = H.val w)
  (hdef : defOf q r.name = some (d, kwd)) (hp : r.prog.theDef r.name = some (d.params, d.body, d.scope)) (hk : kwWritten? d.params.kwonlyargs d.params.kw_defaults = some kwd)
  (hwr : (!r.writes || r.records.isEmpty) = true) (k1 : r.wellSaid = true) (ok : (chainsOk q && opensWell r.prog && (frees r.toRowW && r.within.isEmpty)) = true) (hb : r.prog.bare) (hw : r.toRowW.promised)
  (call : WalkO q loose (XL q []) H.says r.toRowW d kwd fun f vs => PySem.call f vs) : r.Holds := by
 have left : LeftO r.prog q loose (fun s => xlAt q [] s && recOk r.toRowW.records s) H.obs H.val (M + 600) true :=
  aE2 (M := M) e (Nat.ble_eq_true_of_le (by omega)) f (Nat.ble_eq_true_of_le (by omega)) run l1 (fun w os => by rw [seenQ_eq]; exact l2 w os) fun w os => by rw [<- ho]; exact l3 w os
 exact holds_open (r := r) (q := q) (loose := loose) (XP := XL q []) (YP := H.says) (d := d) (kwd := kwd) left H.of H.keeps (fun s z => xl_of s (Bool.and_eq_true_iff.mp z).1) XL.keeps hdef hp hk (fun s z => recFacts_of (Bool.and_eq_true_iff.mp z).2) hwr k1 ok hb hw call
end
end PV
end
section
namespace LW
open PV PySem PySem.Spec PyProof.Rows L2
def top (i : Nat) : Stmt := PySem.Challenge.pw_operatortables_k29_groups_at_places.main.body.getD i (.Pass ⟨0, 0, 0, 0⟩)
abbrev fU : Stmt := top 8
abbrev iZ : Stmt := top 9
abbrev gU : Stmt := top 10
abbrev cU : Stmt := top 12
abbrev cE : Stmt := top 13
abbrev cW : Stmt := top 15
abbrev eU : Stmt := top 16
abbrev eV : Stmt := top 17
abbrev dO : Stmt := top 18
abbrev cJ : Stmt := top 19
abbrev cA : Stmt := top 20
abbrev fV : Stmt := top 21
abbrev dM : Stmt := top 22
abbrev eW : Stmt := top 23
abbrev dL : Stmt := top 24
abbrev cN : Stmt := top 25
abbrev cV : Stmt := top 26
abbrev bV : Stmt := top 27
abbrev dN : Stmt := top 28
abbrev nX : Stmt := top 29
abbrev dP : Stmt := inC (top 2) 0
def rJ : He.DefD := ⟨("is_leaf", none), "is_leaf", "is_leaf", defArgs fU, defBody fU, defScope fU, [], []⟩
def xJ : He.DefD := ⟨("below", none), "below", "below", defArgs iZ, defBody iZ, defScope iZ, [], []⟩
def uP : He.DefD := ⟨("places", none), "places", "places", defArgs gU, defBody gU, defScope gU, [], []⟩
def mN : He.DefD := ⟨("grouped_at", none), "grouped_at", "grouped_at", defArgs cU, defBody cU, defScope cU, [], []⟩
def kY : He.DefD := ⟨("with_groups", none), "with_groups", "with_groups", defArgs cE, defBody cE, defScope cE, [], []⟩
def mP : He.DefD := ⟨("_law_source", none), "_law_source", "_law_source", defArgs cW, defBody cW, defScope cW, [], []⟩
def pT : He.DefD := ⟨("_law_draw", none), "_law_draw", "_law_draw", defArgs eU, defBody eU, defScope eU, [], []⟩
def pU : He.DefD := ⟨("_law_pick", none), "_law_pick", "_law_pick", defArgs eV, defBody eV, defScope eV, [], []⟩
def oK : He.DefD := ⟨("_law_words", none), "_law_words", "_law_words", defArgs dO, defBody dO, defScope dO, [], []⟩
def jP : He.DefD := ⟨("_law_operator", none), "_law_operator", "_law_operator", defArgs cJ, defBody cJ, defScope cJ, [], []⟩
def jE : He.DefD := ⟨("_law_operators", none), "_law_operators", "_law_operators", defArgs cA, defBody cA, defScope cA, [], []⟩
def rK : He.DefD := ⟨("_law_has", none), "_law_has", "_law_has", defArgs fV, defBody fV, defScope fV, [], []⟩
def oI : He.DefD := ⟨("_law_holes", none), "_law_holes", "_law_holes", defArgs dM, defBody dM, defScope dM, [], []⟩
def pV : He.DefD := ⟨("_law_tree", none), "_law_tree", "_law_tree", defArgs eW, defBody eW, defScope eW, [], []⟩
def oH : He.DefD := ⟨("_law_grown", none), "_law_grown", "_law_grown", defArgs dL, defBody dL, defScope dL, [], []⟩
def kX : He.DefD := ⟨("_law_grouped", none), "_law_grouped", "_law_grouped", defArgs cN, defBody cN, defScope cN, [], []⟩
def mO : He.DefD := ⟨("_law_places", none), "_law_places", "_law_places", defArgs cV, defBody cV, defScope cV, [], []⟩
def iM : He.DefD := ⟨("_law_is_refused", none), "_law_is_refused", "_law_is_refused", defArgs bV, defBody bV, defScope bV, [], []⟩
def oJ : He.DefD := ⟨("_law_right", none), "_law_right", "_law_right", defArgs dN, defBody dN, defScope dN, [], []⟩
def zY : He.DefD := ⟨("law", none), "law", "law", defArgs nX, defBody nX, defScope nX, [], []⟩
def oL : He.DefD := ⟨("NoPlace", some "__init__"), "__init__", "NoPlace.__init__", defArgs dP, defBody dP, defScope dP, [], []⟩
def fn : List He.DefD := [rJ, xJ, uP, mN, kY, mP, pT, pU, oK, jP, jE, rK, oI, pV, oH, kX, mO, iM, oJ, zY, oL]
def caL (K : PySem.W.Frag) : List (Nat × Addr) := [(100, He.ga K "GroupingError"), (101, He.ga K "NoPlace"), (102, He.ga K "BadText"), (103, He.ga K "InUse"), (104, He.ga K "NoName")]
def lamN : List Str := []
def fa : List He.Fa := [.glo "is_leaf", .glo "below", .glo "places", .glo "grouped_at", .glo "with_groups", .glo "_law_source", .glo "_law_draw", .glo "_law_pick", .glo "_law_words", .glo "_law_operator", .glo "_law_operators", .glo "_law_has", .glo "_law_holes", .glo "_law_tree", .glo "_law_grown", .glo "_law_grouped", .glo "_law_places", .glo "_law_is_refused", .glo "_law_right", .glo "law", .str "GROUP" "(", .free "abs", .free "all", .free "enumerate", .free "int", .free "isinstance", .free "len", .free "list", .free "max", .free "min", .free "range", .free "repr", .free "str", .free "sum", .free "tuple", .glo "NoPlace", .glo "GroupingError", .glo "BadText", .glo "InUse", .glo "NoName"]
abbrev RW : PySem.W.OpenRow := PySem.W.OpenLaw.row PySem.Challenge.rw_operatortables_k29_groups_at_places
def ck (K : PySem.W.Frag) : Bool := xcB K (He.ga K "NoPlace") (He.ga K "GroupingError") ["place"] && (exB K (caL K) (He.ga K "GroupingError") [100, 101, 102, 103, 104] && (kfB K (caL K) && (aGk K (caL K) "place" && (true))))
end LW
end
section
open PySem PySem.W PySem.Calls PyProof.Rows
open_shared LW.sf for PySem.Challenge.pw_operatortables_k29_groups_at_places leaving 0
end
section
noncomputable section
namespace LW.HH
open LW PV PySem PySem.W PySem.Calls PyProof.Rows HandSHeadRun
def p0 : Pos := { line := 0, col := 0, endLine := 0, endCol := 0 }
def pK : Pos := { line := 134, col := 0, endLine := 140, endCol := 15 }
def bd : List Stmt := behindTheImports RW.prog
def Sb (w : World) (os : OsState) : SharedT := { tree := LW.sf.tree_4 w.params, n := 15, life := { }, gens := #[], drawn := { }, toks := 187, os := os }
def Sf (w : World) (os : OsState) : SharedT := { tree := LW.sf.tree_241 w.params, n := 228, life := { }, gens := #[], drawn := { }, toks := 485, os := os }
theorem aHy (w : World) : bootAnn w = some (Value.ref 6) := by kernel_rfl
theorem aJL (w : World) : (boot_heap w.params).objs.size = 11 := by kernel_rfl
theorem go (w : World) (os : OsState) : topGo treeTable RW.prog w 11 (some (Value.ref 6)) 12 ⟨boot_heap w.params, #[], boot_drawn, boot_toks, os⟩ (topStub RW.prog) = some ((Sb w os).abs, ⟨denote treeTable (Code.body bd LW.sf.env_1), Code.body bd LW.sf.env_1, p0, [topFrame p0]⟩) := by kernel_rfl
theorem bl (w : World) (os : OsState) : segRun treeTable RW.prog w 11 (some (Value.ref 6)) 1 1 (Sb w os).abs (blockOf bd LW.sf.env_1 (Code.body bd LW.sf.env_1) p0 [topFrame p0]) = some (.next, (Sb w os).abs, Code.body bd LW.sf.env_1, p0) := by kernel_rfl
theorem fin (w : World) (os : OsState) : topRun treeTable RW.prog w 11 (some (Value.ref 6)) 10 (Sf w os).abs (restOf [] LW.sf.env_1 (Code.body bd LW.sf.env_1) pK [topFrame p0]) = some (Sf w os).abs := by kernel_rfl
theorem aJB : LW.sf.sts_4 ++ (LW.sf.sts_21 ++ (LW.sf.sts_44 ++ (LW.sf.sts_67 ++ (LW.sf.sts_90 ++ (LW.sf.sts_139 ++ (LW.sf.sts_216 ++ [])))))) = bd := by kernel_rfl
theorem run (w : World) (os : OsState) : topRun treeTable RW.prog w (boot_heap w.params).objs.size (bootAnn w) (12 + (1 + (Nat.add 196 (Nat.add 246 (Nat.add 246 (Nat.add 246 (Nat.add 390 (Nat.add 369 (Nat.add 119 10))))))))) ⟨boot_heap w.params, #[], boot_drawn, boot_toks, os⟩ (topStub RW.prog) = some (Sf w os).abs := by
 rw [aJL, aHy]
 refine go_top (go w os) (piece_block (bl w os) ?_)
 have c := LW.sf.chain RW.prog bd w os [] 10 _ (fin w os)
 rw [aJB] at c
 exact c
def aH7 : List PySem.Str := ["GroupingError", "NoPlace", "BadText", "InUse", "NoName", "GROUP", "is_leaf", "below", "places", "grouped_at", "with_groups", "_law_source", "_law_draw", "_law_pick", "_law_words"]
def aH8 : List PySem.Str := ["_law_operator", "_law_operators", "_law_has", "_law_holes", "_law_tree", "_law_grown", "_law_grouped", "_law_places", "_law_is_refused", "_law_right"]
def names : List PySem.Str := aH7 ++ aH8
def vw : Program := PySem.W.view RW.prog [29]
theorem l1 (w : World) (os : OsState) : looksF RW.prog (boot_heap w.params) (Sf w os).abs = true := by kernel_rfl
theorem l2 (w : World) (os : OsState) : seenQ vw names (importedModules RW.prog.main.body) (fun s => xlAt vw [] s && recOk RW.toRowW.records s) (Sf w os).abs = openGood vw names := by kernel_rfl
abbrev nH : Nat := 228
theorem o1 (w : World) (os : OsState) : (fa.all fun f => f.ok (frX (getT (Sf w os)) nH lamN)) = true := by kernel_rfl
theorem o2 (w : World) (os : OsState) : (fn.all fun d => d.ok (frX (getT (Sf w os)) nH lamN)) = true := by kernel_rfl
theorem o3 (w : World) (os : OsState) : (fn.map fun d => He.fnW (frX (getT (Sf w os)) nH lamN) d.at_) = fn.map He.DefD.val := by kernel_rfl
theorem o4 (w : World) (os : OsState) : ck (frX (getT (Sf w os)) nH lamN) = true := by kernel_rfl
def ob (s : SharedT) : He.AlD × Bool := aAP nH lamN fa fn ck (getT s)
theorem aJU (s : SharedT) : ob s = (hookY nH lamN fa fn ck).obs s.abs := aGK (getT_eq s)
theorem l3 (w : World) (os : OsState) : ob (Sf w os) = (hookY nH lamN fa fn ck).val w := aD0 (o1 w os) (o2 w os) (o3 w os) (o4 w os)
def dd : DefRec := topDef RW.prog 29
theorem h_e : opening RW.prog = plainProg RW.prog.main.scope.names := by kernel_rfl
theorem h_f (s : Shared) : fenceModules? RW.prog s = some s := by kernel_rfl
theorem h_d : defOf vw RW.name = some (dd, []) := by kernel_rfl
theorem h_p : RW.prog.theDef RW.name = some (dd.params, dd.body, dd.scope) := by kernel_rfl
theorem h_k : kwWritten? dd.params.kwonlyargs dd.params.kw_defaults = some [] := by kernel_rfl
theorem aLd : (!RW.writes || RW.records.isEmpty) = true := by kernel_rfl
theorem aLe : RW.wellSaid = true := by decide +kernel
theorem aLc : (chainsOk vw && opensWell RW.prog && (frees RW.toRowW && RW.within.isEmpty)) = true := by decide +kernel
theorem h_b : RW.prog.bare := ⟨rfl, rfl, rfl, rfl, rfl, by decide +kernel⟩
theorem h_n : dd.name = ("law" : PySem.Str) := by kernel_rfl
theorem h_df : dd.params.defaults = [] := by kernel_rfl
theorem head (hw : RW.toRowW.promised) (hc : WalkO vw names (XL vw []) (hookY nH lamN fa fn ck).says RW.toRowW dd [] fun f vs => PySem.call f vs) : RW.Holds :=
 aBE (r := RW) (q := vw) (H := hookY nH lamN fa fn ck) (ob := ob) (loose := names) (d := dd) (kwd := []) (s := Sf) aJU h_e h_f run l1 l2 l3 h_d h_p h_k aLd aLe aLc h_b hw hc
end LW.HH
end
end
section
namespace PV
open PySem PySem.Spec PyProof.Rows L2
/-- a value: pure data, a list just made (tl), a tracked cell (ref), a def, a class, a built-in type -/
inductive D where
 | non | bl (b : Bool) | int (i : Int) | str (x : Str) | tup (ws : List D) | kt (ws : List D) | tl (ws : List D) | fl (ws : List D) | ref (i : Nat)
 | ty (n : String) | fn (f : Nat) | cls (c : Nat) | xc (c : Nat) (ks : List Str) (ws : List D)
 deriving Inhabited
mutual
def D.beq : D -> D -> Bool
 | .non, .non => true
 | .bl a, .bl b => a == b
 | .int a, .int b => a == b
 | .str a, .str b => decide (a = b)
 | .tup a, .tup b => D.beqs a b
 | .tl a, .tl b => D.beqs a b
 | .fl a, .fl b => D.beqs a b
 | .kt a, .kt b => D.beqs a b
 | .ref a, .ref b => a == b
 | .ty a, .ty b => decide (a = b)
 | .fn a, .fn b => a == b
 | .cls a, .cls b => a == b
 | .xc a k v, .xc b l w => (a == b && decide (k = l)) && D.beqs v w
 | _, _ => false
def D.beqs : List D -> List D -> Bool
 | [], [] => true
 | a :: as, b :: bs => D.beq a b && D.beqs as bs
 | _, _ => false
end
mutual
theorem D.beq_eq : ∀ {a b : D}, D.beq a b = true -> a = b
 | .non, .non, _ => rfl
 | .bl a, .bl b, h => by simp [D.beq] at h; rw [h]
 | .int a, .int b, h => by simp [D.beq] at h; rw [h]
 | .str a, .str b, h => by simp [D.beq] at h; rw [h]
 | .tup a, .tup b, h => by simp only [D.beq] at h; rw [D.beqs_eq h]
 | .tl a, .tl b, h => by simp only [D.beq] at h; rw [D.beqs_eq h]
 | .fl a, .fl b, h => by simp only [D.beq] at h; rw [D.beqs_eq h]
 | .kt a, .kt b, h => by simp only [D.beq] at h; rw [D.beqs_eq h]
 | .ref a, .ref b, h => by simp [D.beq] at h; rw [h]
 | .ty a, .ty b, h => by simp [D.beq] at h; rw [h]
 | .fn a, .fn b, h => by simp [D.beq] at h; rw [h]
 | .cls a, .cls b, h => by simp [D.beq] at h; rw [h]
 | .non, .bl _, h => by simp [D.beq] at h
 | .non, .int _, h => by simp [D.beq] at h
 | .non, .str _, h => by simp [D.beq] at h
 | .non, .tup _, h => by simp [D.beq] at h
 | .non, .kt _, h => by simp [D.beq] at h
 | .non, .tl _, h => by simp [D.beq] at h
 | .non, .fl _, h => by simp [D.beq] at h
 | .non, .ref _, h => by simp [D.beq] at h
 | .non, .ty _, h => by simp [D.beq] at h
 | .non, .fn _, h => by simp [D.beq] at h
 | .non, .cls _, h => by simp [D.beq] at h
 | .bl _, .non, h => by simp [D.beq] at h
 | .bl _, .int _, h => by simp [D.beq] at h
 | .bl _, .str _, h => by simp [D.beq] at h
 | .bl _, .tup _, h => by simp [D.beq] at h
 | .bl _, .kt _, h => by simp [D.beq] at h
 | .bl _, .tl _, h => by simp [D.beq] at h
 | .bl _, .fl _, h => by simp [D.beq] at h
 | .bl _, .ref _, h => by simp [D.beq] at h
 | .bl _, .ty _, h => by simp [D.beq] at h
 | .bl _, .fn _, h => by simp [D.beq] at h
 | .bl _, .cls _, h => by simp [D.beq] at h
 | .int _, .non, h => by simp [D.beq] at h
 | .int _, .bl _, h => by simp [D.beq] at h
 | .int _, .str _, h => by simp [D.beq] at h
 | .int _, .tup _, h => by simp [D.beq] at h
 | .int _, .kt _, h => by simp [D.beq] at h
 | .int _, .tl _, h => by simp [D.beq] at h
 | .int _, .fl _, h => by simp [D.beq] at h
 | .int _, .ref _, h => by simp [D.beq] at h
 | .int _, .ty _, h => by simp [D.beq] at h
 | .int _, .fn _, h => by simp [D.beq] at h
 | .int _, .cls _, h => by simp [D.beq] at h
 | .str _, .non, h => by simp [D.beq] at h
 | .str _, .bl _, h => by simp [D.beq] at h
 | .str _, .int _, h => by simp [D.beq] at h
 | .str _, .tup _, h => by simp [D.beq] at h
 | .str _, .kt _, h => by simp [D.beq] at h
 | .str _, .tl _, h => by simp [D.beq] at h
 | .str _, .fl _, h => by simp [D.beq] at h
 | .str _, .ref _, h => by simp [D.beq] at h
 | .str _, .ty _, h => by simp [D.beq] at h
 | .str _, .fn _, h => by simp [D.beq] at h
 | .str _, .cls _, h => by simp [D.beq] at h
 | .tup _, .non, h => by simp [D.beq] at h
 | .tup _, .bl _, h => by simp [D.beq] at h
 | .tup _, .int _, h => by simp [D.beq] at h
 | .tup _, .str _, h => by simp [D.beq] at h
 | .tup _, .kt _, h => by simp [D.beq] at h
 | .tup _, .tl _, h => by simp [D.beq] at h
 | .tup _, .fl _, h => by simp [D.beq] at h
 | .tup _, .ref _, h => by simp [D.beq] at h
 | .tup _, .ty _, h => by simp [D.beq] at h
 | .tup _, .fn _, h => by simp [D.beq] at h
 | .tup _, .cls _, h => by simp [D.beq] at h
 | .kt _, .non, h => by simp [D.beq] at h
 | .kt _, .bl _, h => by simp [D.beq] at h
 | .kt _, .int _, h => by simp [D.beq] at h
 | .kt _, .str _, h => by simp [D.beq] at h
 | .kt _, .tup _, h => by simp [D.beq] at h
 | .kt _, .tl _, h => by simp [D.beq] at h
 | .kt _, .fl _, h => by simp [D.beq] at h
 | .kt _, .ref _, h => by simp [D.beq] at h
 | .kt _, .ty _, h => by simp [D.beq] at h
 | .kt _, .fn _, h => by simp [D.beq] at h
 | .kt _, .cls _, h => by simp [D.beq] at h
 | .tl _, .non, h => by simp [D.beq] at h
 | .tl _, .bl _, h => by simp [D.beq] at h
 | .tl _, .int _, h => by simp [D.beq] at h
 | .tl _, .str _, h => by simp [D.beq] at h
 | .tl _, .tup _, h => by simp [D.beq] at h
 | .tl _, .kt _, h => by simp [D.beq] at h
 | .tl _, .fl _, h => by simp [D.beq] at h
 | .tl _, .ref _, h => by simp [D.beq] at h
 | .tl _, .ty _, h => by simp [D.beq] at h
 | .tl _, .fn _, h => by simp [D.beq] at h
 | .tl _, .cls _, h => by simp [D.beq] at h
 | .fl _, .non, h => by simp [D.beq] at h
 | .fl _, .bl _, h => by simp [D.beq] at h
 | .fl _, .int _, h => by simp [D.beq] at h
 | .fl _, .str _, h => by simp [D.beq] at h
 | .fl _, .tup _, h => by simp [D.beq] at h
 | .fl _, .kt _, h => by simp [D.beq] at h
 | .fl _, .tl _, h => by simp [D.beq] at h
 | .fl _, .ref _, h => by simp [D.beq] at h
 | .fl _, .ty _, h => by simp [D.beq] at h
 | .fl _, .fn _, h => by simp [D.beq] at h
 | .fl _, .cls _, h => by simp [D.beq] at h
 | .ref _, .non, h => by simp [D.beq] at h
 | .ref _, .bl _, h => by simp [D.beq] at h
 | .ref _, .int _, h => by simp [D.beq] at h
 | .ref _, .str _, h => by simp [D.beq] at h
 | .ref _, .tup _, h => by simp [D.beq] at h
 | .ref _, .kt _, h => by simp [D.beq] at h
 | .ref _, .tl _, h => by simp [D.beq] at h
 | .ref _, .fl _, h => by simp [D.beq] at h
 | .ref _, .ty _, h => by simp [D.beq] at h
 | .ref _, .fn _, h => by simp [D.beq] at h
 | .ref _, .cls _, h => by simp [D.beq] at h
 | .ty _, .non, h => by simp [D.beq] at h
 | .ty _, .bl _, h => by simp [D.beq] at h
 | .ty _, .int _, h => by simp [D.beq] at h
 | .ty _, .str _, h => by simp [D.beq] at h
 | .ty _, .tup _, h => by simp [D.beq] at h
 | .ty _, .kt _, h => by simp [D.beq] at h
 | .ty _, .tl _, h => by simp [D.beq] at h
 | .ty _, .fl _, h => by simp [D.beq] at h
 | .ty _, .ref _, h => by simp [D.beq] at h
 | .ty _, .fn _, h => by simp [D.beq] at h
 | .ty _, .cls _, h => by simp [D.beq] at h
 | .fn _, .non, h => by simp [D.beq] at h
 | .fn _, .bl _, h => by simp [D.beq] at h
 | .fn _, .int _, h => by simp [D.beq] at h
 | .fn _, .str _, h => by simp [D.beq] at h
 | .fn _, .tup _, h => by simp [D.beq] at h
 | .fn _, .kt _, h => by simp [D.beq] at h
 | .fn _, .tl _, h => by simp [D.beq] at h
 | .fn _, .fl _, h => by simp [D.beq] at h
 | .fn _, .ref _, h => by simp [D.beq] at h
 | .fn _, .ty _, h => by simp [D.beq] at h
 | .fn _, .cls _, h => by simp [D.beq] at h
 | .cls _, .non, h => by simp [D.beq] at h
 | .cls _, .bl _, h => by simp [D.beq] at h
 | .cls _, .int _, h => by simp [D.beq] at h
 | .cls _, .str _, h => by simp [D.beq] at h
 | .cls _, .tup _, h => by simp [D.beq] at h
 | .cls _, .kt _, h => by simp [D.beq] at h
 | .cls _, .tl _, h => by simp [D.beq] at h
 | .cls _, .fl _, h => by simp [D.beq] at h
 | .cls _, .ref _, h => by simp [D.beq] at h
 | .cls _, .ty _, h => by simp [D.beq] at h
 | .cls _, .fn _, h => by simp [D.beq] at h
 | .xc a k v, .xc b l w, h => by simp only [D.beq, Bool.and_eq_true, beq_iff_eq, decide_eq_true_eq] at h; rw [h.1.1, h.1.2, D.beqs_eq h.2]
 | .xc _ _ _, .non, h => by simp [D.beq] at h
 | .non, .xc _ _ _, h => by simp [D.beq] at h
 | .xc _ _ _, .bl _, h => by simp [D.beq] at h
 | .bl _, .xc _ _ _, h => by simp [D.beq] at h
 | .xc _ _ _, .int _, h => by simp [D.beq] at h
 | .int _, .xc _ _ _, h => by simp [D.beq] at h
 | .xc _ _ _, .str _, h => by simp [D.beq] at h
 | .str _, .xc _ _ _, h => by simp [D.beq] at h
 | .xc _ _ _, .tup _, h => by simp [D.beq] at h
 | .tup _, .xc _ _ _, h => by simp [D.beq] at h
 | .xc _ _ _, .kt _, h => by simp [D.beq] at h
 | .kt _, .xc _ _ _, h => by simp [D.beq] at h
 | .xc _ _ _, .tl _, h => by simp [D.beq] at h
 | .tl _, .xc _ _ _, h => by simp [D.beq] at h
 | .xc _ _ _, .fl _, h => by simp [D.beq] at h
 | .fl _, .xc _ _ _, h => by simp [D.beq] at h
 | .xc _ _ _, .ref _, h => by simp [D.beq] at h
 | .ref _, .xc _ _ _, h => by simp [D.beq] at h
 | .xc _ _ _, .ty _, h => by simp [D.beq] at h
 | .ty _, .xc _ _ _, h => by simp [D.beq] at h
 | .xc _ _ _, .fn _, h => by simp [D.beq] at h
 | .fn _, .xc _ _ _, h => by simp [D.beq] at h
 | .xc _ _ _, .cls _, h => by simp [D.beq] at h
 | .cls _, .xc _ _ _, h => by simp [D.beq] at h
theorem D.beqs_eq : ∀ {a b : List D}, D.beqs a b = true -> a = b
 | [], [], _ => rfl
 | a :: as, b :: bs, h => by
  simp only [D.beqs, Bool.and_eq_true] at h
  rw [D.beq_eq h.1, D.beqs_eq h.2]
 | [], _ :: _, h => by simp [D.beqs] at h
 | _ :: _, [], h => by simp [D.beqs] at h
end
mutual
theorem D.beq_refl : ∀ a : D, D.beq a a = true
 | .non => rfl
 | .bl a => by simp [D.beq]
 | .int a => by simp [D.beq]
 | .str a => by simp [D.beq]
 | .tup a => by simp only [D.beq]; exact D.beqs_refl a
 | .tl a => by simp only [D.beq]; exact D.beqs_refl a
 | .fl a => by simp only [D.beq]; exact D.beqs_refl a
 | .kt a => by simp only [D.beq]; exact D.beqs_refl a
 | .ref a => by simp [D.beq]
 | .ty a => by simp [D.beq]
 | .fn a => by simp [D.beq]
 | .cls a => by simp [D.beq]
 | .xc a k v => by simp only [D.beq, D.beqs_refl v]; simp
theorem D.beqs_refl : ∀ a : List D, D.beqs a a = true
 | [] => rfl
 | a :: as => by simp only [D.beqs, D.beq_refl a, D.beqs_refl as, Bool.and_self]
end
instance : DecidableEq D := fun a b => if h : D.beq a b = true then isTrue (D.beq_eq h) else isFalse fun e => h (e ▸ D.beq_refl a)
inductive Cl where
 | lst (ws : List D) | dK (kvs : List (Key × D)) | dT (kvs : List (List Key × D)) | ins (c : Nat) (fs : List (Str × D))
 deriving Inhabited, DecidableEq
abbrev Hh := List Cl
abbrev Sg := List (Option D)
end PV
end
section
namespace PV
open PySem PySem.Spec PyProof.Rows L2
/-- where the module's defs and classes stand -/
structure Gx where
 K : PySem.W.Frag
 fa : Nat -> Option Addr
 ca : Nat -> Option Addr
 /-- the tables of code objects that may grow, each with the name that it tells -/
 tb : List (Addr × Str)
/-- a list that is never written -/
def SqF (K : PySem.W.Frag) (H : Hp) (a : Addr) (xs : List V) : Prop := (∃ o, H a = some (.frz o (.lst xs))) \/
  ∃ (o : Obj) (its : Array Value) (n : Nat), K.lookup a = some o /\ o.cls = .type "list" /\ o.dict = none /\ o.data = .seq its n /\ its.size <= sizeLine /\ Vals xs its.toList
theorem SqF.sq {K : PySem.W.Frag} {H : Hp} {a : Addr} {xs : List V} (h : SqF K H a xs) : SqL K H a xs := by
 rcases h with h | h
 ·exact .inl (.inr h)
 ·exact .inr h
/-- a list just made, not yet kept by anyone -/
def D.isTl : D -> Bool
 | .tl _ => true
 | _ => false
/-- an exception that was caught, at a: its class, its dict -/
def ExV (cls : Value) (d : Option Addr) (a : Addr) : HO := .ext fun h => ∃ (oe : Obj) (vs : Array Value), h.get? a = some oe /\ Zc cls d oe /\ oe.data = .fields vs
/-- the attributes of an exception -/
def XdV (H : Hp) (ks : List Str) (vs : List V) (d : Option Addr) : Prop := (ks = [] /\ d = none) \/ ∃ dx, d = some dx /\ H dx = some (.xd (ks.zip vs))
mutual
def RV (g : Gx) (μ : List Addr) (H : Hp) : D -> V -> Prop
 | .non, v => v = .non
 | .bl b, v => v = .bl b
 | .int i, v => v = .int i
 | .str x, v => v = .str x
 | .ty n, v => v = .ty n
 | .fn f, v => ∃ a, g.fa f = some a /\ v = .ref a
 | .cls c, v => ∃ a, g.ca c = some a /\ v = .ref a
 | .ref i, v => ∃ a, μ[i]? = some a /\ v = .ref a
 | .xc c ks ws, v => ∃ a C d vs, v = .ref a /\ g.ca c = some C /\ H a = some (ExV (.ref C) d a) /\ ks.length = ws.length /\ XdV H ks vs d /\ RVs g μ H ws vs
 | .tup ws, v => ∃ a vs, v = .ref a /\ H a = some (.tup vs) /\ RVs g μ H ws vs
 | .kt ws, v => ∃ a vs, v = .ref a /\ SqT g.K H a vs /\ RVs g μ H ws vs
 | .fl ws, v => ∃ a vs, v = .ref a /\ SqF g.K H a vs /\ RVs g μ H ws vs
 | .tl ws, v => ∃ a vs, v = .ref a /\ H a = some (.lst vs) /\ a ∉ μ /\ RVs g μ H ws vs
def RVs (g : Gx) (μ : List Addr) (H : Hp) : List D -> List V -> Prop
 | [], vs => vs = []
 | w :: ws, vs => ∃ v r, vs = v :: r /\ w.isTl = false /\ RV g μ H w v /\ RVs g μ H ws r
end
/-- pairs by key -/
def RKs {κ : Type} (g : Gx) (μ : List Addr) (H : Hp) : List (κ × D) -> List (κ × V) -> Prop
 | [], vs => vs = []
 | w :: ws, vs => ∃ v r, vs = (w.1, v) :: r /\ w.2.isTl = false /\ RV g μ H w.2 v /\ RKs g μ H ws r
def RC (g : Gx) (μ : List Addr) (H : Hp) (a : Addr) : Cl -> Prop
 | .lst ws => ∃ vs, H a = some (.lst vs) /\ RVs g μ H ws vs
 | .dK kvs => ∃ vs, H a = some (.dK vs) /\ RKs g μ H kvs vs
 | .dT kvs => ∃ vs, H a = some (.dT vs) /\ RKs g μ H kvs vs
 | .ins c fs => ∃ C dx vs, g.ca c = some C /\ H a = some (.ins C dx vs) /\ RKs g μ H fs vs
structure RH (g : Gx) (μ : List Addr) (h : Hh) (H : Hp) : Prop where
 len : μ.length = h.length
 nd : μ.Nodup
 cell : ∀ (i : Nat) (c : Cl), h[i]? = some c -> ∃ a, μ[i]? = some a /\ RC g μ H a c
 tabs : LamX.Tabs g.tb H
def eA : HO -> Bool
 | .lst _ => true
 | .dK _ => true
 | .dT _ => true
 | .ins _ _ _ => true
 | _ => false
def rP : HO -> Bool
 | .tbl _ => true
 | _ => false
theorem uV {o : HO} (h : eA o = true) : rP o = false := by cases o <;> first | rfl | cases h
theorem aCa {o : HO} (h : rP o = true) : ∃ ps, o = .tbl ps := by cases o <;> first | exact ⟨_, rfl⟩ | cases h
/-- what is tracked is of the kinds that may be written -/
def Trk (μ : List Addr) (H : Hp) : Prop := ∀ a ∈ μ, ∃ o, H a = some o /\ eA o = true
structure Ext (μ : List Addr) (H : Hp) (μ' : List Addr) (H' : Hp) : Prop where
 pre : ∃ e, μ' = μ ++ e /\ ∀ x ∈ e, H x = none
 fr' : ∀ b o, H b = some o -> b ∉ μ -> rP o = false -> H' b = some o
 lv : ∀ x ∈ μ, H' x ≠ none
 tb : ∀ b ps, H b = some (.tbl ps) -> ∃ ps', H' b = some (.tbl ps')
theorem Ext.fr {μ μ' : List Addr} {H H' : Hp} (x : Ext μ H μ' H') (b : Addr) (o : HO) (q : H b = some o) (n : b ∉ μ) (t : rP o = false := by rfl) : H' b = some o := x.fr' b o q n t
/-- nothing goes away -/
theorem Ext.kp {μ μ' : List Addr} {H H' : Hp} (x : Ext μ H μ' H') {b : Addr} {o : HO} (q : H b = some o) : H' b ≠ none := by
 by_cases hm : b ∈ μ
 ·exact x.lv b hm
 ·by_cases ht : rP o = true
  ·obtain ⟨ps, rfl⟩ := aCa ht
   obtain ⟨ps', e⟩ := x.tb b ps q
   rw [e]; simp
  ·rw [x.fr' b o q hm (by simpa using ht)]; simp
section
variable {g : Gx} {μ μ' μ1 μ2 : List Addr} {h h' : Hh} {H H' H1 H2 : Hp}
theorem RC.mut {a : Addr} {c : Cl} (r : RC g μ H a c) : ∃ o, H a = some o /\ eA o = true := by
 cases c with
 | lst ws => obtain ⟨vs, e, _⟩ := r; exact ⟨_, e, rfl⟩
 | dK ws => obtain ⟨vs, e, _⟩ := r; exact ⟨_, e, rfl⟩
 | dT ws => obtain ⟨vs, e, _⟩ := r; exact ⟨_, e, rfl⟩
 | ins c fs => obtain ⟨C, dx, vs, _, e, _⟩ := r; exact ⟨_, e, rfl⟩
theorem RH.trk (r : RH g μ h H) : Trk μ H := fun a ha => by
 obtain ⟨i, hi, e⟩ := List.getElem_of_mem ha
 have hl : i < h.length := by rw [<- r.len]; exact hi
 obtain ⟨b, eb, rc⟩ := r.cell i h[i] (List.getElem?_eq_getElem hl)
 rw [List.getElem?_eq_getElem hi, e] at eb
 cases eb
 exact rc.mut
theorem Ext.refl (t : Trk μ H) : Ext μ H μ H := ⟨⟨[], by simp, by simp⟩, fun _ _ h _ _ => h, fun x hx => by obtain ⟨o, e, _⟩ := t x hx; rw [e]; simp, fun b ps e => ⟨ps, e⟩⟩
theorem Ext.trans (a : Ext μ H μ1 H1) (b : Ext μ1 H1 μ2 H2) : Ext μ H μ2 H2 := by
 have kp := fun {b : Addr} {o : HO} (q : H b = some o) => a.kp q
 obtain ⟨⟨e1, rfl, f1⟩, r1, l1, t1⟩ := a
 obtain ⟨⟨e2, rfl, f2⟩, r2, l2, t2⟩ := b
 refine ⟨⟨e1 ++ e2, by simp, fun x hx => ?_⟩, fun b o q n nt => r2 b o (r1 b o q n nt) ?_ nt, fun x hx => l2 x (List.mem_append_left _ hx), fun b ps e => let ⟨ps1, e1⟩ := t1 b ps e; t2 b ps1 e1⟩
 ·rcases List.mem_append.mp hx with hx | hx
  ·exact f1 x hx
  ·cases q : H x with
   | none => rfl
   | some o => exact absurd (f2 x hx) (kp q)
 ·intro hm
  rcases List.mem_append.mp hm with hm | hm
  ·exact n hm
  ·rw [f1 b hm] at q; cases q
theorem Ext.get (x : Ext μ H μ' H') {i : Nat} {a : Addr} (e : μ[i]? = some a) : μ'[i]? = some a := by
 obtain ⟨⟨e1, rfl, _⟩, _, _, _⟩ := x
 rw [List.getElem?_append_left (by
  rcases Nat.lt_or_ge i μ.length with z | z
  ·exact z
  ·rw [List.getElem?_eq_none z] at e; cases e)]
 exact e
theorem Ext.notin (x : Ext μ H μ' H') {a : Addr} {o : HO} (q : H a = some o) (n : a ∉ μ) : a ∉ μ' := by
 obtain ⟨⟨e1, rfl, f1⟩, _, _, _⟩ := x
 intro hm
 rcases List.mem_append.mp hm with hm | hm
 ·exact n hm
 ·rw [f1 a hm] at q; cases q
theorem aHf {a : Addr} {vs : List V} (t : Trk μ H) (x : Ext μ H μ' H') (q : SqT g.K H a vs) : SqT g.K H' a vs := by
 rcases q with (q | ⟨o, q⟩) | q
 ·refine .inl (.inl (x.fr _ _ q fun hm => ?_))
  obtain ⟨o, e, k⟩ := t a hm
  rw [q] at e; cases e; cases k
 ·refine .inl (.inr ⟨o, x.fr _ _ q fun hm => ?_⟩)
  obtain ⟨o', e, k⟩ := t a hm
  rw [q] at e; cases e; cases k
 ·exact .inr q
theorem aHd {a : Addr} {vs : List V} (t : Trk μ H) (x : Ext μ H μ' H') (q : SqF g.K H a vs) : SqF g.K H' a vs := by
 rcases q with ⟨o, q⟩ | q
 ·refine .inl ⟨o, x.fr _ _ q fun hm => ?_⟩
  obtain ⟨o', e, k⟩ := t a hm
  rw [q] at e; cases e; cases k
 ·exact .inr q
end
mutual
theorem RV.ext {g : Gx} {μ μ' : List Addr} {H H' : Hp} (t : Trk μ H) (x : Ext μ H μ' H') : ∀ {w : D} {v : V}, RV g μ H w v -> RV g μ' H' w v
 | .non, _, r => r
 | .bl _, _, r => r
 | .int _, _, r => r
 | .str _, _, r => r
 | .ty _, _, r => r
 | .fn _, _, r => r
 | .cls _, _, r => r
 | .ref i, _, r => by
  obtain ⟨a, e, q⟩ := r
  exact ⟨a, x.get e, q⟩
 | .xc c ks ws, _, r => by
  obtain ⟨a, C, d, vs, e, hC, q, hl, hd, z⟩ := r
  refine ⟨a, C, d, vs, e, hC, x.fr _ _ q fun hm => ?_, hl, ?_, RVs.ext t x z⟩
  ·obtain ⟨o, eo, k⟩ := t a hm
   rw [q] at eo; cases eo; cases k
  ·rcases hd with hd | ⟨dx, e1, e2⟩
   ·exact .inl hd
   ·refine .inr ⟨dx, e1, x.fr _ _ e2 fun hm => ?_⟩
    obtain ⟨o, eo, k⟩ := t dx hm
    rw [e2] at eo; cases eo; cases k
 | .tup ws, _, r => by
  obtain ⟨a, vs, e, q, z⟩ := r
  refine ⟨a, vs, e, x.fr _ _ q fun hm => ?_, RVs.ext t x z⟩
  obtain ⟨o, eo, k⟩ := t a hm
  rw [q] at eo; cases eo; cases k
 | .kt ws, _, r => by
  obtain ⟨a, vs, e, q, z⟩ := r
  exact ⟨a, vs, e, aHf t x q, RVs.ext t x z⟩
 | .fl ws, _, r => by
  obtain ⟨a, vs, e, q, z⟩ := r
  exact ⟨a, vs, e, aHd t x q, RVs.ext t x z⟩
 | .tl ws, _, r => by
  obtain ⟨a, vs, e, q, n, z⟩ := r
  exact ⟨a, vs, e, x.fr _ _ q n, x.notin q n, RVs.ext t x z⟩
theorem RVs.ext {g : Gx} {μ μ' : List Addr} {H H' : Hp} (t : Trk μ H) (x : Ext μ H μ' H') : ∀ {ws : List D} {vs : List V}, RVs g μ H ws vs -> RVs g μ' H' ws vs
 | [], _, r => r
 | w :: ws, _, r => by
  obtain ⟨v, rr, e, nt, q, z⟩ := r
  exact ⟨v, rr, e, nt, RV.ext t x q, RVs.ext t x z⟩
end
theorem xR {l e : List Addr} {i : Nat} {a : Addr} (h : l[i]? = some a) : (l ++ e)[i]? = some a := by
 rw [List.getElem?_append_left (by
  rcases Nat.lt_or_ge i l.length with z | z
  ·exact z
  ·rw [List.getElem?_eq_none z] at h; cases h)]
 exact h
mutual
theorem RV.pre {g : Gx} {μ e : List Addr} {H : Hp} : ∀ {w : D} {v : V}, w.isTl = false -> RV g μ H w v -> RV g (μ ++ e) H w v
 | .non, _, _, r => r
 | .bl _, _, _, r => r
 | .int _, _, _, r => r
 | .str _, _, _, r => r
 | .ty _, _, _, r => r
 | .fn _, _, _, r => r
 | .cls _, _, _, r => r
 | .ref i, _, _, r => by
  obtain ⟨a, e, q⟩ := r
  exact ⟨a, xR e, q⟩
 | .xc c ks ws, _, _, r => by
  obtain ⟨a, C, d, vs, e, hC, q, hl, hd, z⟩ := r
  exact ⟨a, C, d, vs, e, hC, q, hl, hd, RVs.pre z⟩
 | .tup ws, _, _, r => by
  obtain ⟨a, vs, e, q, z⟩ := r
  exact ⟨a, vs, e, q, RVs.pre z⟩
 | .fl ws, _, _, r => by
  obtain ⟨a, vs, e, q, z⟩ := r
  exact ⟨a, vs, e, q, RVs.pre z⟩
 | .kt ws, _, _, r => by
  obtain ⟨a, vs, e, q, z⟩ := r
  exact ⟨a, vs, e, q, RVs.pre z⟩
 | .tl ws, _, n, _ => by cases n
theorem RVs.pre {g : Gx} {μ e : List Addr} {H : Hp} : ∀ {ws : List D} {vs : List V}, RVs g μ H ws vs -> RVs g (μ ++ e) H ws vs
 | [], _, r => r
 | w :: ws, _, r => by
  obtain ⟨v, rr, e, nt, q, z⟩ := r
  exact ⟨v, rr, e, nt, RV.pre nt q, RVs.pre z⟩
end
theorem RKs.pre {κ : Type} {g : Gx} {μ e : List Addr} {H : Hp} : ∀ {ws : List (κ × D)} {vs : List (κ × V)}, RKs g μ H ws vs -> RKs g (μ ++ e) H ws vs
 | [], _, r => r
 | w :: ws, _, r => by
  obtain ⟨v, rr, e, nt, q, z⟩ := r
  exact ⟨v, rr, e, nt, q.pre nt, RKs.pre z⟩
theorem RC.pre {g : Gx} {μ e : List Addr} {H : Hp} {a : Addr} {c : Cl} (r : RC g μ H a c) : RC g (μ ++ e) H a c := by
 cases c with
 | lst ws => obtain ⟨vs, q, z⟩ := r; exact ⟨vs, q, z.pre⟩
 | dK ws => obtain ⟨vs, q, z⟩ := r; exact ⟨vs, q, z.pre⟩
 | dT ws => obtain ⟨vs, q, z⟩ := r; exact ⟨vs, q, z.pre⟩
 | ins c fs => obtain ⟨C, dx, vs, k, q, z⟩ := r; exact ⟨C, dx, vs, k, q, z.pre⟩
section
variable {g : Gx} {μ μ' : List Addr} {h : Hh} {H H' : Hp} {p a : Addr} {o : HO} {ws : List D} {vs : List V} {w : D} {v : V}
theorem RKs.ext {κ : Type} (t : Trk μ H) (x : Ext μ H μ' H') : ∀ {ws : List (κ × D)} {vs : List (κ × V)}, RKs g μ H ws vs -> RKs g μ' H' ws vs
 | [], _, r => r
 | w :: ws, _, r => by
  obtain ⟨v, rr, e, nt, q, z⟩ := r
  exact ⟨v, rr, e, nt, q.ext t x, RKs.ext t x z⟩
theorem RC.ext {c : Cl} (t : Trk μ H) (x : Ext μ H μ' H') (e : H' a = H a) (r : RC g μ H a c) : RC g μ' H' a c := by
 cases c with
 | lst ws => obtain ⟨vs, q, z⟩ := r; exact ⟨vs, e.trans q, z.ext t x⟩
 | dK ws => obtain ⟨vs, q, z⟩ := r; exact ⟨vs, e.trans q, z.ext t x⟩
 | dT ws => obtain ⟨vs, q, z⟩ := r; exact ⟨vs, e.trans q, z.ext t x⟩
 | ins c fs => obtain ⟨C, dx, vs, k, q, z⟩ := r; exact ⟨C, dx, vs, k, e.trans q, z.ext t x⟩
theorem Trk.ne (t : Trk μ H) (n : H p = none) (ha : a ∈ μ) : a ≠ p := fun e => by
 obtain ⟨o, q, _⟩ := t a ha
 rw [e, n] at q; cases q
/-- something new that is not tracked -/
theorem Ext.new (t : Trk μ H) (n : H p = none) : Ext μ H μ (upd H p o) :=
 ⟨⟨[], by simp, by simp⟩, fun b u q _ _ => by rw [upd_ne (ne_of_none q n)]; exact q, fun x hx => by
  rw [upd_ne (t.ne n hx)]
  obtain ⟨o, q, _⟩ := t x hx
  rw [q]; simp, fun b ps q => ⟨ps, by rw [upd_ne (ne_of_none q n)]; exact q⟩⟩
theorem fZ {α : Type} {l : List α} {i : Nat} {a : α} (e : l[i]? = some a) : a ∈ l := List.mem_of_getElem? e
theorem RH.new (r : RH g μ h H) (n : H p = none) : RH g μ h (upd H p o) :=
 ⟨r.len, r.nd, fun i c e => by
  obtain ⟨a, ea, rc⟩ := r.cell i c e
  exact ⟨a, ea, rc.ext r.trk (.new r.trk n) (upd_ne (r.trk.ne n (fZ ea)))⟩, r.tabs.ext fun b u q => by rw [upd_ne (ne_of_none q n)]; exact q⟩
theorem RV.newT (r : RH g μ h H) (n : H p = none) (q : RVs g μ H ws vs) : RV g μ (upd H p (.tup vs)) (.tup ws) (.ref p) :=
 ⟨p, vs, rfl, upd_same, q.ext r.trk (.new r.trk n)⟩
theorem RV.newL (r : RH g μ h H) (n : H p = none) (q : RVs g μ H ws vs) : RV g μ (upd H p (.lst vs)) (.tl ws) (.ref p) :=
 ⟨p, vs, rfl, upd_same, fun hm => r.trk.ne n hm rfl, q.ext r.trk (.new r.trk n)⟩
/-- a cell is written -/
theorem Ext.wr {i : Nat} (t : Trk μ H) (e : μ[i]? = some a) (m : eA o = true) : Ext μ H μ (upd H a o) :=
 ⟨⟨[], by simp, by simp⟩, fun b u q nb _ => by
  rw [upd_ne (fun z => nb (by rw [z]; exact fZ e))]; exact q, fun x hx => by
  by_cases hx' : x = a
  ·subst hx'; rw [upd_same]; simp
  ·rw [upd_ne hx']
   obtain ⟨o, q, _⟩ := t x hx
   rw [q]; simp, fun b ps q => ⟨ps, by
   obtain ⟨o', q', m'⟩ := t a (fZ e)
   rw [upd_ne (fun z => by rw [z, q'] at q; cases q; cases m')]; exact q⟩⟩
/-- tables stay as a tracked cell is written -/
theorem aCu {T : List (Addr × Str)} {H : Hp} {a : Addr} {o' : HO} (m : ∃ u, H a = some u /\ eA u = true) (t : LamX.Tabs T H) : LamX.Tabs T (upd H a o') := fun p hp => by
 obtain ⟨u, q, k⟩ := m
 obtain ⟨ps, h1, h2, h3⟩ := t p hp
 refine ⟨ps, by rw [upd_ne (fun z => by rw [z, q] at h1; cases h1; cases k)]; exact h1, h2, fun pos cv hc => ?_⟩
 obtain ⟨c, e1, e2⟩ := h3 pos cv hc
 exact ⟨c, e1, by rw [upd_ne (fun z => by rw [z, q] at e2; cases e2; cases k)]; exact e2⟩
theorem aGx {l : List Addr} (nd : l.Nodup) {i j : Nat} {a : Addr} (hi : l[i]? = some a) (hj : l[j]? = some a) : i = j := by
 have h1 : i < l.length := by
  rcases Nat.lt_or_ge i l.length with z | z
  ·exact z
  ·rw [List.getElem?_eq_none z] at hi; cases hi
 exact (List.getElem?_inj h1 nd).mp (hi.trans hj.symm)
theorem RH.wr {i : Nat} {c : Cl} (r : RH g μ h H) (e : μ[i]? = some a) (m : eA o = true) (k : RC g μ (upd H a o) a c) : RH g μ (h.set i c) (upd H a o) := by
 refine ⟨by rw [List.length_set]; exact r.len, r.nd, fun j d ej => ?_, aCu (r.trk a (fZ e)) r.tabs⟩
 by_cases hj : i = j
 ·subst hj
  by_cases hl : i < h.length
  ·rw [List.getElem?_set_self hl] at ej
   cases ej
   exact ⟨a, e, k⟩
  ·rw [List.getElem?_eq_none (by simpa using hl)] at ej; cases ej
 ·rw [List.getElem?_set_ne hj] at ej
  obtain ⟨b, eb, rc⟩ := r.cell j d ej
  refine ⟨b, eb, rc.ext r.trk (.wr r.trk e m) (upd_ne fun z => hj ?_)⟩
  subst z
  exact aGx r.nd e eb
/-- one more cell -/
theorem RH.track {c : Cl} (r : RH g μ h H) (na : a ∉ μ) (k : RC g μ H a c) : RH g (μ ++ [a]) (h ++ [c]) H := by
 refine ⟨by simp [r.len], ?_, fun i d ei => ?_, r.tabs⟩
 ·rw [List.nodup_append]
  exact ⟨r.nd, by simp, fun x hx y hy z => by
   have : y = a := by simpa using hy
   subst this; subst z; exact na hx⟩
 ·rcases Nat.lt_or_ge i h.length with hl | hl
  ·rw [List.getElem?_append_left hl] at ei
   obtain ⟨b, eb, rc⟩ := r.cell i d ei
   exact ⟨b, xR eb, rc.pre⟩
  ·rw [List.getElem?_append_right hl] at ei
   have hi : i = h.length := by
    rcases Nat.lt_or_ge (i - h.length) 1 with z | z
    ·omega
    ·rw [List.getElem?_eq_none (by simpa using z)] at ei; cases ei
   subst hi
   simp at ei
   subst ei
   exact ⟨a, by rw [<- r.len]; simp, k.pre⟩
/-- a value whose list is young -/
def Fr (H : Hp) (w : D) (v : V) : Prop := match w with
 | .tl _ => ∀ a, v = .ref a -> H a = none
 | _ => True
theorem Fr.of (e : w.isTl = false) : Fr H w v := by
 cases w <;> first | exact True.intro | cases e
theorem Fr.back (x : Ext μ H μ' H') (f : Fr H' w v) : Fr H w v := by
 cases w <;> first | exact True.intro | skip
 rename_i ws
 intro a e
 have z := f a e
 cases q : H a with
 | none => rfl
 | some o =>
  exact absurd z (x.kp q)
/-- from now on it is kept -/
def aT (w : D) (h : Hh) : D × Hh := match w with
 | .tl ws => (.ref h.length, h ++ [.lst ws])
 | w => (w, h)
theorem qW (e : w.isTl = false) : aT w h = (w, h) := by
 cases w <;> first | rfl | cases e
theorem eY : (aT w h).1.isTl = false := by cases w <;> rfl
theorem iP {μ0 : List Addr} {H0 : Hp} (r : RH g μ h H) (q : RV g μ H w v) (f : Fr H0 w v) (x : Ext μ0 H0 μ H) : ∃ μ', Ext μ0 H0 μ' H /\ RH g μ' (aT w h).2 H /\ RV g μ' H (aT w h).1 v /\ ∃ e, μ' = μ ++ e := by
 by_cases e : w.isTl = false
 ·rw [qW e]; exact ⟨μ, x, r, q, [], by simp⟩
 ·cases w <;> first | exact absurd rfl e | skip
  rename_i ws
  obtain ⟨a, vs, rfl, ha, na, z⟩ := q
  have f' : H0 a = none := f a rfl
  -- an extension that keeps the heap as it is
  have x0 : Ext μ0 H0 (μ ++ [a]) H := by
   obtain ⟨⟨e0, rfl, fe⟩, fr, lv, tb⟩ := x
   refine ⟨⟨e0 ++ [a], by simp, fun y hy => ?_⟩, fr, lv, tb⟩
   rcases List.mem_append.mp hy with hy | hy
   ·exact fe y hy
   ·have : y = a := by simpa using hy
    subst this; exact f'
  refine ⟨μ ++ [a], x0, RH.track r na ⟨vs, ha, z⟩, ⟨a, ?_, rfl⟩, [a], rfl⟩
  show (μ ++ [a])[h.length]? = some a
  rw [<- r.len]
  simp
end
end PV
end
section
namespace PV
open PySem PySem.Spec PyProof.Rows L2
inductive R (α : Type) where
 | ok (a : α) (h : Hh)
 | exc (c : Nat) (fs : List (Str × D)) (h : Hh)
 | bad
 deriving Inhabited
def R.bind {α β : Type} (r : R α) (f : α -> Hh -> R β) : R β := match r with
 | .ok a h => f a h
 | .exc c fs h => .exc c fs h
 | .bad => .bad
@[simp] theorem R.bind_ok {α β : Type} (a : α) (h : Hh) (f : α -> Hh -> R β) : (R.ok a h).bind f = f a h := id rfl
@[simp] theorem R.bind_exc {α β : Type} (c : Nat) (fs : List (Str × D)) (h : Hh) (f : α -> Hh -> R β) : (R.exc c fs h : R α).bind f = .exc c fs h := id rfl
@[simp] theorem R.bind_bad {α β : Type} (f : α -> Hh -> R β) : (R.bad : R α).bind f = .bad := id rfl
abbrev M (α : Type) := Sg -> Hh -> R α
/-- an exception of the own class c, its attributes fs -/
def XV (g : Gx) (μ : List Addr) (H : Hp) (c : Nat) (fs : List (Str × D)) (cv : Value) (d : Option Addr) : Prop :=
 ∃ C vs, g.ca c = some C /\ cv = .ref C /\ ((fs = [] /\ d = none) \/ ∃ dx, d = some dx /\ H dx = some (.xd vs)) /\ RKs g μ H fs vs
/-- what is wanted of a result -/
def Po {α : Type} (g : Gx) (Wx : WX) (σ : L2.St) (μ : List Addr) (H : Hp) (r : R α) (Q : α -> Hh -> List Addr -> Hp -> Prop) : Prop := match r with
 | .ok a h' => ∀ μ' H', Ext μ H μ' H' -> RH g μ' h' H' -> Q a h' μ' H'
 | .exc c fs h' => ∀ μ' H' cv d, Ext μ H μ' H' -> RH g μ' h' H' -> XV g μ' H' c fs cv d -> Wx cv d σ H'
 | .bad => False
section
variable {α β : Type} {g : Gx} {Wx : WX} {σ : L2.St} {μ μ' : List Addr} {H H' : Hp} {r : R α} {f : α -> Hh -> R β}
theorem Po.ext {Q : α -> Hh -> List Addr -> Hp -> Prop} (p : Po g Wx σ μ H r Q) (x : Ext μ H μ' H') : Po g Wx σ μ' H' r Q := by
 cases r with
 | ok a h' => exact fun μ2 H2 x2 r2 => p μ2 H2 (x.trans x2) r2
 | exc c fs h' => exact fun μ2 H2 cv d x2 r2 v2 => p μ2 H2 cv d (x.trans x2) r2 v2
 | bad => exact p
theorem Po.bind {Q : β -> Hh -> List Addr -> Hp -> Prop} (p : Po g Wx σ μ H (r.bind f) Q) : Po g Wx σ μ H r fun a h1 μ1 H1 => Po g Wx σ μ1 H1 (f a h1) Q := by
 cases r with
 | ok a h' => exact fun μ2 H2 x2 r2 => Po.ext (r := f a h') p x2
 | exc c fs h' => exact p
 | bad => exact p
theorem Po.bind2 {Q : β -> Hh -> List Addr -> Hp -> Prop} (p : Po g Wx σ μ H (r.bind f) Q) : Po g Wx σ μ H r fun a h1 μ1 H1 => ∀ μ2 H2, Ext μ H μ2 H2 -> Po g Wx σ μ2 H2 (f a h1) Q := by
 cases r with
 | ok a h' => exact fun _ _ _ _ μ2 H2 x2 => Po.ext (r := f a h') p x2
 | exc c fs h' => exact p
 | bad => exact p
theorem Po.imp {Q Q' : α -> Hh -> List Addr -> Hp -> Prop} (p : Po g Wx σ μ H r Q) (i : ∀ a h1 μ1 H1, Ext μ H μ1 H1 -> RH g μ1 h1 H1 -> Q a h1 μ1 H1 -> Q' a h1 μ1 H1) : Po g Wx σ μ H r Q' := by
 cases r with
 | ok a h' => exact fun μ2 H2 x2 r2 => i _ _ _ _ x2 r2 (p μ2 H2 x2 r2)
 | exc c fs h' => exact p
 | bad => exact p
theorem Po.at {a : α} {h : Hh} {Q : α -> Hh -> List Addr -> Hp -> Prop} (p : Po g Wx σ μ H (.ok a h) Q) (rh : RH g μ h H) : Q a h μ H := p μ H (Ext.refl rh.trk) rh
end
/-- the slots -/
def RS (g : Gx) (μ : List Addr) (H : Hp) (σw : Sg) (σ : L2.St) : Prop := σw.length = σ.length /\ ∀ (i : Nat) (w : D), σw[i]? = some (some w) -> ∃ v, σ[i]? = some (some v) /\ w.isTl = false /\ RV g μ H w v
theorem RS.ext {g : Gx} {μ μ' : List Addr} {H H' : Hp} {σw : Sg} {σ : L2.St} (t : Trk μ H) (x : Ext μ H μ' H') (r : RS g μ H σw σ) : RS g μ' H' σw σ :=
 ⟨r.1, fun i w e => let ⟨v, q, nt, z⟩ := r.2 i w e; ⟨v, q, nt, z.ext t x⟩⟩
theorem RS.pre {g : Gx} {μ e : List Addr} {H : Hp} {σw : Sg} {σ : L2.St} (r : RS g μ H σw σ) : RS g (μ ++ e) H σw σ :=
 ⟨r.1, fun i w e => let ⟨v, q, nt, z⟩ := r.2 i w e; ⟨v, q, nt, z.pre nt⟩⟩
theorem RS.set {g : Gx} {μ : List Addr} {H : Hp} {σw : Sg} {σ : L2.St} (r : RS g μ H σw σ) {w : D} {v : V} (nt : w.isTl = false) (q : RV g μ H w v) (i : Nat) : RS g μ H (σw.set i (some w)) (σ.set i (some v)) := by
 refine ⟨by simp [r.1], fun j w' e => ?_⟩
 by_cases hj : i = j
 ·subst hj
  by_cases hl : i < σw.length
  ·rw [List.getElem?_set_self hl] at e
   cases e
   exact ⟨v, List.getElem?_set_self (by rw [<- r.1]; exact hl), nt, q⟩
  ·rw [List.getElem?_eq_none (by simpa using hl)] at e; cases e
 ·rw [List.getElem?_set_ne hj] at e ⊢
  exact r.2 j w' e
/-- the weakest readings -/
def tOf (X : Cx) (e : Expr) : TE := fun σ H Q => ∀ pins s, Inv X pins σ H s -> wpAny (model X.prog X.w) X.A (eval e X.env) (EP X pins σ Q) X.xe s
theorem bB {X : Cx} {e : Expr} : PE X e (tOf X e) := ⟨fun pins s σ H Q I h => h pins s I⟩
theorem fG {X : Cx} {e : Expr} {t : TE} (p : PE X e t) {σ : L2.St} {H : Hp} {Q : VK} (h : t σ H Q) : tOf X e σ H Q := fun pins s I => p.run pins s σ H Q I h
def aDq (X : Cx) (e : Expr) : TT := fun σ H Q => ∀ pins s, Inv X pins σ H s -> wpAny (model X.prog X.w) X.A (isTrue e X.env (eval e X.env)) (TP X pins σ Q) X.xe s
theorem qO {X : Cx} {e : Expr} : PT X e (aDq X e) := ⟨fun pins s σ H Q I h => h pins s I⟩
theorem aFo {X : Cx} {e : Expr} {t : TT} (p : PT X e t) {σ : L2.St} {H : Hp} {Q : Bool -> Hp -> Prop} (h : t σ H Q) : aDq X e σ H Q := fun pins s I => p.run pins s σ H Q I h
/-- a test whatever its whole is -/
def aFN (X : Cx) (e : Expr) : TT := fun σ H Q => ∀ whole pins s, Inv X pins σ H s -> wpAny (model X.prog X.w) X.A (isTrue e X.env whole) (TP X pins σ Q) X.xe s
theorem aF8 {X : Cx} {e : Expr} : PW X e (aFN X e) := ⟨fun whole pins s σ H Q I h => h whole pins s I⟩
theorem aC4 {X : Cx} {e : Expr} {t : TT} (p : PW X e t) {σ : L2.St} {H : Hp} {Q : Bool -> Hp -> Prop} (h : t σ H Q) : aFN X e σ H Q := fun whole pins s I => p.run whole pins s σ H Q I h
def aDl (X : Cx) (es : List Expr) : TA := fun σ H Q => ∀ pos pins s, Inv X pins σ H s -> wpAny (model X.prog X.w) X.A (spliced (backTo pos (starEach es X.env))) (AP X pins σ Q) X.xe s
theorem wL {X : Cx} {es : List Expr} : PA X es (aDl X es) := ⟨fun pos pins s σ H Q I h => h pos pins s I⟩
theorem aId {X : Cx} {es : List Expr} {t : TA} (p : PA X es t) {σ : L2.St} {H : Hp} {Q : List V -> Hp -> Prop} (h : t σ H Q) : aDl X es σ H Q := fun pos pins s I => p.run pos pins s σ H Q I h
def rOf (X : Cx) (f : Value -> Value -> Sem Value) : R2 := fun x y H Q => ∀ pins s σ v u, Inv X pins σ H s -> RelV x v -> RelV y u -> wpAny (model X.prog X.w) X.A (f v u) (EP X pins σ Q) X.xe s
theorem aC0 {X : Cx} {f : Value -> Value -> Sem Value} : OpR X f (rOf X f) := fun pins s σ H x y v u Q I rx ry h => h pins s σ v u I rx ry
theorem bT {X : Cx} {f : Value -> Value -> Sem Value} {r : R2} (p : OpR X f r) {x y : V} {H : Hp} {Q : VK} (h : r x y H Q) : rOf X f x y H Q := fun pins s σ v u I rx ry => p pins s σ H x y v u Q I rx ry h
section
variable (g : Gx) (X : Cx) (Wx : WX)
/-- an expression does what m does -/
def SE (e : Expr) (m : M D) : Prop := ∀ (σw : Sg) (h : Hh) (σ : L2.St) (H : Hp) (μ : List Addr) (Q : VK), RS g μ H σw σ -> RH g μ h H ->
 Po g Wx σ μ H (m σw h) (fun w h' μ' H' => ∀ v, RV g μ' H' w v -> Fr H w v -> Q v H') -> tOf X e σ H Q
def ST (e : Expr) (m : M Bool) : Prop := ∀ (σw : Sg) (h : Hh) (σ : L2.St) (H : Hp) (μ : List Addr) (Q : Bool -> Hp -> Prop), RS g μ H σw σ -> RH g μ h H ->
 Po g Wx σ μ H (m σw h) (fun b h' μ' H' => Q b H') -> aDq X e σ H Q
def SW (e : Expr) (m : M Bool) : Prop := ∀ (σw : Sg) (h : Hh) (σ : L2.St) (H : Hp) (μ : List Addr) (Q : Bool -> Hp -> Prop), RS g μ H σw σ -> RH g μ h H ->
 Po g Wx σ μ H (m σw h) (fun b h' μ' H' => Q b H') -> aFN X e σ H Q
def SA (es : List Expr) (m : M (List D)) : Prop := ∀ (σw : Sg) (h : Hh) (σ : L2.St) (H : Hp) (μ : List Addr) (Q : List V -> Hp -> Prop), RS g μ H σw σ -> RH g μ h H ->
 Po g Wx σ μ H (m σw h) (fun ws h' μ' H' => ∀ vs, RVs g μ' H' ws vs -> Q vs H') -> aDl X es σ H Q
end
theorem SW.st {g : Gx} {X : Cx} {Wx : WX} {e : Expr} {m : M Bool} (s : SW g X Wx e m) : ST g X Wx e m := fun σw h σ H μ Q rs rh p pins t I => s σw h σ H μ Q rs rh p _ pins t I
section
variable {g : Gx} {X : Cx} {Wx : WX}
def mC (w : D) : M D := fun _ h => .ok w h
def mV (i : Nat) : M D := fun σ h => match σ[i]? with
 | some (some w) => .ok w h
 | _ => .bad
theorem yE {e : Expr} {v : V} {w : D} (p : PE X e (tC v)) (nt : w.isTl = false) (r : ∀ μ H, RV g μ H w v) : SE g X Wx e (mC w) := fun σw h σ H μ Q rs rh po =>
 fG p (show Q v H from po.at rh v (r μ H) (.of nt))
theorem aIM {i j pos} : SE g X Wx (.Constant (.int i) j pos) (mC (.int i)) := yE pe_int rfl fun _ _ => rfl
theorem aKf {i j pos} : SE g X Wx (.Constant (.bool i) j pos) (mC (.bl i)) := yE pe_bl rfl fun _ _ => rfl
theorem aIP {j pos} : SE g X Wx (.Constant .none j pos) (mC .non) := yE pe_non rfl fun _ _ => rfl
theorem aIR {x j pos} : SE g X Wx (.Constant (.str x) j pos) (mC (.str x)) := yE pe_str rfl fun _ _ => rfl
theorem aEn {i : Nat} {x : Str} {pos : Pos} (hN : X.N[i]? = some x) (hv : Vis X.env.scope x) (hd : (x == ("__debug__" : Str)) = false) (hcd : (x == ("__classdict__" : Str)) = false) : SE g X Wx (.Name x pos) (mV i) := by
 intro σw h σ H μ Q rs rh po
 unfold mV at po
 cases e : σw[i]? with
 | none => rw [e] at po; exact po.elim
 | some o =>
  cases o with
  | none => rw [e] at po; exact po.elim
  | some w =>
   rw [e] at po
   obtain ⟨v, q, nt, r⟩ := rs.2 i w e
   exact fG (pe_var hN hv hd hcd) ⟨v, q, po.at rh v r (.of nt)⟩
end
end PV
end
section
namespace PV
open PySem PySem.Spec PyProof.Rows L2
/-- a list that may be read: just made, tracked, or frozen -/
def asL (h : Hh) : D -> Option (List D)
 | .tl ws => some ws
 | .fl ws => some ws
 | .ref i => match h[i]? with
  | some (.lst ws) => some ws
  | _ => none
 | _ => none
/-- a tuple -/
def asT : D -> Option (List D)
 | .tup ws => some ws
 | .kt ws => some ws
 | _ => none
/-- a list that is tracked by the hand layer's heap -/
def asM (h : Hh) : D -> Option (List D)
 | .tl ws => some ws
 | .ref i => match h[i]? with
  | some (.lst ws) => some ws
  | _ => none
 | _ => none
section
variable {g : Gx} {μ : List Addr} {h : Hh} {H : Hp} {w : D} {v : V} {ws : List D}
theorem rH (r : RH g μ h H) (q : RV g μ H w v) (e : asM h w = some ws) : ∃ a vs, v = .ref a /\ H a = some (.lst vs) /\ RVs g μ H ws vs := by
 unfold asM at e
 split at e
 ·cases e
  obtain ⟨a, vs, e1, e2, _, z⟩ := q
  exact ⟨a, vs, e1, e2, z⟩
 ·rename_i i
  obtain ⟨a, e1, e2⟩ := q
  split at e
  ·rename_i ws' e3
   cases e
   obtain ⟨b, eb, vs, hb, z⟩ := r.cell i _ e3
   rw [e1] at eb; cases eb
   exact ⟨a, vs, e2, hb, z⟩
  ·cases e
 ·cases e
theorem fK (r : RH g μ h H) (q : RV g μ H w v) (e : asL h w = some ws) : ∃ a vs, v = .ref a /\ SqL g.K H a vs /\ RVs g μ H ws vs := by
 unfold asL at e
 split at e
 ·cases e
  obtain ⟨a, vs, e1, e2, _, z⟩ := q
  exact ⟨a, vs, e1, .of e2, z⟩
 ·cases e
  obtain ⟨a, vs, e1, e2, z⟩ := q
  exact ⟨a, vs, e1, e2.sq, z⟩
 ·rename_i i
  obtain ⟨a, vs, e1, e2, z⟩ := rH (ws := ws) r q (by unfold asM; exact e)
  exact ⟨a, vs, e1, .of e2, z⟩
 ·cases e
theorem dC (q : RV g μ H w v) (e : asT w = some ws) : ∃ a vs, v = .ref a /\ SqT g.K H a vs /\ RVs g μ H ws vs := by
 unfold asT at e
 split at e
 ·cases e
  obtain ⟨a, vs, e1, e2, z⟩ := q
  exact ⟨a, vs, e1, .of e2, z⟩
 ·cases e
  exact q
 ·cases e
theorem RVs.length {ws : List D} {vs : List V} : RVs g μ H ws vs -> vs.length = ws.length := by
 induction ws generalizing vs with
 | nil => intro r; rw [show vs = [] from r]; rfl
 | cons w ws ih =>
  intro r
  obtain ⟨v, rr, rfl, _, _, z⟩ := r
  simp [ih z]
theorem RVs.append {ws ws' : List D} {vs vs' : List V} : RVs g μ H ws vs -> RVs g μ H ws' vs' -> RVs g μ H (ws ++ ws') (vs ++ vs') := by
 induction ws generalizing vs with
 | nil => intro r s; rw [show vs = [] from r]; exact s
 | cons w ws ih =>
  intro r s
  obtain ⟨v, rr, rfl, nt, q, z⟩ := r
  exact ⟨v, _, rfl, nt, q, ih z s⟩
theorem RVs.get {ws : List D} {vs : List V} {i : Nat} {w : D} : RVs g μ H ws vs -> ws[i]? = some w -> ∃ v, vs[i]? = some v /\ w.isTl = false /\ RV g μ H w v := by
 induction ws generalizing vs i with
 | nil => intro r e; simp at e
 | cons w' ws ih =>
  intro r e
  obtain ⟨v, rr, rfl, nt, q, z⟩ := r
  cases i with
  | zero => simp at e; subst e; exact ⟨v, by simp, nt, q⟩
  | succ i => simp at e; obtain ⟨v', e', y⟩ := ih z e; exact ⟨v', by simpa using e', y⟩
theorem RVs.take {ws : List D} {vs : List V} (n : Nat) : RVs g μ H ws vs -> RVs g μ H (ws.take n) (vs.take n) := by
 induction ws generalizing vs n with
 | nil => intro r; rw [show vs = [] from r]; simp; rfl
 | cons w' ws ih =>
  intro r
  obtain ⟨v, rr, rfl, nt, q, z⟩ := r
  cases n with
  | zero => exact rfl
  | succ n => exact ⟨v, _, rfl, nt, q, ih n z⟩
theorem RVs.drop {ws : List D} {vs : List V} (n : Nat) : RVs g μ H ws vs -> RVs g μ H (ws.drop n) (vs.drop n) := by
 induction ws generalizing vs n with
 | nil => intro r; rw [show vs = [] from r]; simp; rfl
 | cons w' ws ih =>
  intro r
  cases n with
  | zero => exact r
  | succ n =>
   obtain ⟨v, rr, rfl, nt, q, z⟩ := r
   exact ih n z
theorem RVs.rep {ws : List D} {vs : List V} (r : RVs g μ H ws vs) : ∀ n : Nat, RVs g μ H (List.replicate n ws).flatten (List.replicate n vs).flatten
 | 0 => rfl
 | n + 1 => by
  rw [List.replicate_succ, List.replicate_succ, List.flatten_cons, List.flatten_cons]
  exact r.append (RVs.rep r n)
end
def SO (g : Gx) (X : Cx) (Wx : WX) (f : Value -> Value -> Sem Value) (m : D -> D -> Hh -> R D) : Prop := ∀ (x y : D) (h : Hh) (σ : L2.St) (H : Hp) (μ : List Addr) (vx vy : V) (Q : VK),
 RH g μ h H -> RV g μ H x vx -> RV g μ H y vy -> Po g Wx σ μ H (m x y h) (fun w h' μ' H' => ∀ v, RV g μ' H' w v -> Fr H w v -> Q v H') -> rOf X f vx vy H Q
def mOp (f : D -> D -> Hh -> R D) (a b : M D) : M D := fun σ h => (a σ h).bind fun x h1 => (b σ h1).bind fun y h2 => f x y h2
section
variable {g : Gx} {X : Cx} {Wx : WX} {a b : Expr} {ma mb : M D} {f : D -> D -> Hh -> R D} {pos : Pos}
theorem aBn {fv : Value -> Value -> Sem Value} (so : SO g X Wx fv f) (ha : SE g X Wx a ma) (hb : SE g X Wx b mb) {σw : Sg} {h : Hh} {σ : L2.St} {H : Hp} {μ : List Addr} {Q : VK} (rs : RS g μ H σw σ) (rh : RH g μ h H)
  (po : Po g Wx σ μ H (mOp f ma mb σw h) (fun w h' μ' H' => ∀ v, RV g μ' H' w v -> Fr H w v -> Q v H')) : tOp (rOf X fv) (tOf X a) (tOf X b) σ H Q := by
 refine ha σw h σ H μ _ rs rh (po.bind.imp fun x h1 μ1 H1 x1 r1 p1 vx qx fx => ?_)
 refine hb σw h1 σ H1 μ1 _ (rs.ext rh.trk x1) r1 (p1.bind.imp fun y h2 μ2 H2 x2 r2 p2 vy qy fy => ?_)
 exact so x y h2 σ H2 μ2 vx vy Q r2 (qx.ext r1.trk x2) qy (p2.imp fun w h3 μ3 H3 x3 r3 q3 v qv fv => q3 v qv (fv.back (x1.trans x2)))
theorem aIJ {op : Operator} (so : SO g X Wx (binaryOp op) f) (ha : SE g X Wx a ma) (hb : SE g X Wx b mb) : SE g X Wx (.BinOp a op b pos) (mOp f ma mb) := fun σw h σ H μ Q rs rh po =>
 fG (pe_op aC0 bB bB) (aBn so ha hb rs rh po)
theorem aIK {op : CmpOp} (so : SO g X Wx (compareOp op) f) (ha : SE g X Wx a ma) (hb : SE g X Wx b mb) (hm : behindInMarks op b = false) : SE g X Wx (.Compare a [op] [b] pos) (mOp f ma mb) := fun σw h σ H μ Q rs rh po =>
 fG (pe_cmpR aC0 bB bB hm) (aBn so ha hb rs rh po)
/-- a value that must be a bool -/
def mB (m : M D) : M Bool := fun σ h => (m σ h).bind fun x h1 => match x with
 | .bl b => .ok b h1
 | _ => .bad
theorem aCv {σ : L2.St} {H : Hp} {μ : List Addr} {Q : Bool -> Hp -> Prop} {m : M D} {σw : Sg} {h : Hh} (po : Po g Wx σ μ H (mB m σw h) (fun b h' μ' H' => Q b H')) :
  Po g Wx σ μ H (m σw h) (fun w h' μ' H' => ∀ v, RV g μ' H' w v -> Fr H w v -> ∃ k, v = .bl k /\ Q k H') := by
 refine po.bind.imp fun w h1 μ1 H1 x1 r1 p1 v qv fv => ?_
 cases w <;> first | exact p1.elim | skip
 rename_i b
 exact ⟨b, qv, p1.at r1⟩
theorem aI8 {op : CmpOp} (so : SO g X Wx (compareOp op) f) (ha : SE g X Wx a ma) (hb : SE g X Wx b mb) (hm : behindInMarks op b = false) : ST g X Wx (.Compare a [op] [b] pos) (mB (mOp f ma mb)) := fun σw h σ H μ Q rs rh po =>
 aFo (pt_cmpR aC0 bB bB hm) (aBn (Q := fun v H' => ∃ k, v = .bl k /\ Q k H') so ha hb rs rh (aCv po))
end
def bM (x y : D) (h : Hh) : R D := match x, y with
 | .int i, .int j => .ok (.int (i + j)) h
 | .str i, .str j => if i.length + j.length <= sizeLine then .ok (.str (i ++ j)) h else .bad
 | x, y => match asT x, asT y with
  | some i, some j => if i.length + j.length <= sizeLine then .ok (if i = [] then y else if j = [] then x else .tup (i ++ j)) h else .bad
  | _, _ => match asM h x, asM h y with
   | some i, some j => if i.length + j.length <= sizeLine then .ok (.tl (i ++ j)) h else .bad
   | _, _ => .bad
def kB (x y : D) (h : Hh) : R D := match x, y with
 | .int i, .int j => .ok (.int (i - j)) h
 | _, _ => .bad
instance (i j : Int) : Decidable (CMul i j) := by unfold CMul; infer_instance
def lC (x y : D) (h : Hh) : R D := match x, y with
 | .int i, .int j => if CMul i j then .ok (.int (i * j)) h else .bad
 | x, .int k => match asM h x with
  | some i => if -(2 ^ 63) <= k /\ k < 2 ^ 63 /\ i.length * k.toNat <= sizeLine then .ok (.tl (List.replicate k.toNat i).flatten) h else .bad
  | none => .bad
 | _, _ => .bad
def tB (x y : D) (h : Hh) : R D := match x, y with
 | .int i, .int j => if 0 < j /\ j < 1073741824 then .ok (.int (i / j)) h else .bad
 | _, _ => .bad
def jV (x y : D) (h : Hh) : R D := match x, y with
 | .int i, .int j => if 0 < j then .ok (.int (i % j)) h else .bad
 | _, _ => .bad
def qN (x y : D) (h : Hh) : R D := match x, y with
 | .int i, .int j => if 0 <= j /\ (Builtin.Int.intBits i : Int) * j <= 2 ^ 27 then .ok (.int (i ^ j.toNat)) h else .bad
 | _, _ => .bad
section
variable {g : Gx} {X : Cx} {Wx : WX}
theorem aIY (hK : X.K = g.K) : SO g X Wx (binaryOp .Add) bM := by
 intro x y h σ H μ vx vy Q rh qx qy po
 unfold bM at po
 split at po
 ·exact bT op_add ⟨_, _, qx, qy, po.at rh _ rfl (.of rfl)⟩
 ·split at po
  ·rename_i hl
   exact bT op_add_str ⟨_, _, qx, qy, hl, po.at rh _ rfl (.of rfl)⟩
  ·exact po.elim
 ·split at po
  ·rename_i i j e1 e2
   split at po
   ·rename_i hl
    obtain ⟨a, vs, rfl, s1, z1⟩ := dC qx e1
    obtain ⟨b, us, rfl, s2, z2⟩ := dC qy e2
    have l1 := z1.length
    have l2 := z2.length
    refine bT op_catA ⟨a, b, vs, us, rfl, rfl, by rw [hK]; exact s1, by rw [hK]; exact s2, by omega, fun e => ?_, fun ne e => ?_, fun ne ne' p np => ?_⟩
    ·subst e
     have ei : i = [] := by cases i with | nil => rfl | cons _ _ => simp at l1
     subst ei
     rw [if_pos rfl] at po
     exact po.at rh _ qy (.of (by cases y <;> first | rfl | cases e2))
    ·subst e
     have ej : j = [] := by cases j with | nil => rfl | cons _ _ => simp at l2
     have ei : i ≠ [] := fun z => ne (by subst z; cases vs with | nil => rfl | cons _ _ => simp at l1)
     rw [if_neg ei, if_pos ej] at po
     exact po.at rh _ qx (.of (by cases x <;> first | rfl | cases e1))
    ·have ei : i ≠ [] := fun z => ne (by subst z; cases vs with | nil => rfl | cons _ _ => simp at l1)
     have ej : j ≠ [] := fun z => ne' (by subst z; cases us with | nil => rfl | cons _ _ => simp at l2)
     rw [if_neg ei, if_neg ej] at po
     exact po μ _ (.new rh.trk np) (rh.new np) _ (.newT rh np (z1.append z2)) (.of rfl)
   ·exact po.elim
  ·split at po
   ·rename_i i j e1 e2
    split at po
    ·rename_i hl
     obtain ⟨a, vs, rfl, h1, z1⟩ := rH rh qx e1
     obtain ⟨b, us, rfl, h2, z2⟩ := rH rh qy e2
     have l1 := z1.length
     have l2 := z2.length
     refine bT op_cat ⟨a, b, vs, us, rfl, rfl, h1, h2, by omega, fun p np => ?_⟩
     exact po μ _ (.new rh.trk np) (rh.new np) _ (.newL rh np (z1.append z2)) fun c ec => by cases ec; exact np
    ·exact po.elim
   ·exact po.elim
theorem aI2 : SO g X Wx (binaryOp .Sub) kB := by
 intro x y h σ H μ vx vy Q rh qx qy po
 unfold kB at po
 split at po
 ·exact bT op_sub ⟨_, _, qx, qy, po.at rh _ rfl (.of rfl)⟩
 ·exact po.elim
theorem aI0 : SO g X Wx (binaryOp .Mult) lC := by
 intro x y h σ H μ vx vy Q rh qx qy po
 unfold lC at po
 split at po
 ·split at po
  ·rename_i hc
   exact bT op_mul ⟨_, _, qx, qy, hc, po.at rh _ rfl (.of rfl)⟩
  ·exact po.elim
 ·split at po
  ·rename_i i e1
   split at po
   ·rename_i hc
    obtain ⟨h1, h2, h3⟩ := hc
    obtain ⟨a, vs, rfl, ha, z1⟩ := rH rh qx e1
    have l1 := z1.length
    refine bT op_rep ⟨a, _, vs, rfl, qy, ha, h1, h2, by rw [l1]; exact h3, fun p np => ?_⟩
    exact po μ _ (.new rh.trk np) (rh.new np) _ (.newL rh np (z1.rep _)) fun c ec => by cases ec; exact np
   ·exact po.elim
  ·exact po.elim
 ·exact po.elim
theorem aG9 : SO g X Wx (binaryOp .FloorDiv) tB := by
 intro x y h σ H μ vx vy Q rh qx qy po
 unfold tB at po
 split at po
 ·split at po
  ·rename_i hc
   exact bT op_fdiv ⟨_, _, qx, qy, hc, po.at rh _ rfl (.of rfl)⟩
  ·exact po.elim
 ·exact po.elim
theorem aIZ : SO g X Wx (binaryOp .Mod) jV := by
 intro x y h σ H μ vx vy Q rh qx qy po
 unfold jV at po
 split at po
 ·split at po
  ·rename_i hc
   exact bT op_mod ⟨_, _, qx, qy, hc, po.at rh _ rfl (.of rfl)⟩
  ·exact po.elim
 ·exact po.elim
theorem aGM : OpR X (binaryOp .Pow) (rI (fun i j => 0 <= j /\ (Builtin.Int.intBits i : Int) * j <= 2 ^ 27) fun i j => .int (i ^ j.toNat)) := opI fun _ _ _ _ _ _ _ hc q => pow_int hc.1 hc.2 q
theorem aI1 : SO g X Wx (binaryOp .Pow) qN := by
 intro x y h σ H μ vx vy Q rh qx qy po
 unfold qN at po
 split at po
 ·split at po
  ·rename_i hc
   exact bT aGM ⟨_, _, qx, qy, hc, po.at rh _ rfl (.of rfl)⟩
  ·exact po.elim
 ·exact po.elim
end
end PV
end
section
namespace PV
open PySem PySem.Spec PyProof.Rows L2
def aJ {α β : Type} (f : α -> Option β) : List α -> Option (List β)
 | [] => some []
 | x :: xs => match f x, aJ f xs with
  | some a, some b => some (a :: b)
  | _, _ => none
/-- the data that a value is -/
def toP (h : Hh) : Nat -> D -> Option PyData
 | 0, _ => none
 | n + 1, d => match d with
  | .non => some .none
  | .bl b => some (.bool b)
  | .int i => some (.int i)
  | .str x => some (.str x)
  | .tup ws => (aJ (toP h n) ws).map .tuple
  | .kt ws => (aJ (toP h n) ws).map .tuple
  | .tl ws => (aJ (toP h n) ws).map .list
  | .fl ws => (aJ (toP h n) ws).map .list
  | .ref i => match h[i]? with
   | some (.lst ws) => (aJ (toP h n) ws).map .list
   | _ => none
  | _ => none
section
variable {g : Gx} {μ : List Addr} {h : Hh} {H : Hp}
theorem lU {f : D -> Option PyData} (ih : ∀ w v d, f w = some d -> RV g μ H w v -> Dp g.K H v d) : ∀ {ws : List D} {vs : List V} {ds : List PyData}, aJ f ws = some ds -> RVs g μ H ws vs -> DpAll g.K H vs ds
 | [], vs, ds, e, r => by
  rw [show vs = [] from r]
  unfold aJ at e
  cases e
  exact .nil
 | w :: ws, vs, ds, e, r => by
  obtain ⟨v, rr, rfl, _, q, z⟩ := r
  unfold aJ at e
  split at e
  ·rename_i a b ea eb
   cases e
   exact .cons (ih w v a ea q) (lU ih eb z)
  ·cases e
theorem eZ (rh : RH g μ h H) : ∀ (n : Nat) (w : D) (v : V) (d : PyData), toP h n w = some d -> RV g μ H w v -> Dp g.K H v d
 | 0, w, v, d, e, r => by unfold toP at e; cases e
 | n + 1, w, v, d, e, r => by
  unfold toP at e
  split at e
  ·cases e; rw [show v = .non from r]; exact .non
  ·cases e; rw [show v = .bl _ from r]; exact .bl _
  ·cases e; rw [show v = .int _ from r]; exact .int _
  ·cases e; rw [show v = .str _ from r]; exact .str _
  ·obtain ⟨a, vs, rfl, q, z⟩ := r
   obtain ⟨ds, e1, rfl⟩ := Option.map_eq_some_iff.mp e
   exact .tup (.of q) (lU (eZ rh n) e1 z)
  ·obtain ⟨a, vs, rfl, q, z⟩ := r
   obtain ⟨ds, e1, rfl⟩ := Option.map_eq_some_iff.mp e
   exact .tup q (lU (eZ rh n) e1 z)
  ·obtain ⟨a, vs, rfl, q, _, z⟩ := r
   obtain ⟨ds, e1, rfl⟩ := Option.map_eq_some_iff.mp e
   exact .lst (.of q) (lU (eZ rh n) e1 z)
  ·obtain ⟨a, vs, rfl, q, z⟩ := r
   obtain ⟨ds, e1, rfl⟩ := Option.map_eq_some_iff.mp e
   exact .lst q.sq (lU (eZ rh n) e1 z)
  ·rename_i i
   split at e
   ·rename_i ws e3
    obtain ⟨a, e1, rfl⟩ := r
    obtain ⟨b, eb, vs, hb, z⟩ := rh.cell i _ e3
    rw [e1] at eb; cases eb
    obtain ⟨ds, e4, rfl⟩ := Option.map_eq_some_iff.mp e
    exact .lst (.of hb) (lU (eZ rh n) e4 z)
   ·cases e
  ·cases e
end
def bJ : Nat := 66
/-- == by the data -/
def eqD (h : Hh) (x y : D) : Option Bool := match toP h bJ x, toP h bJ y with
 | some d, some e => if SeqAt.shaped d && SeqAt.shaped e then some (PyData.eqv d e) else none
 | _, _ => none
def eqW (x y : D) (h : Hh) : R D := match x, y with
 | .str a, .str b => .ok (.bl (decide (a = b))) h
 | x, y => match eqD h x y with
  | some b => .ok (.bl b) h
  | none => .bad
def neW (x y : D) (h : Hh) : R D := match x, y with
 | .str a, .str b => .ok (.bl (!decide (a = b))) h
 | x, y => match eqD h x y with
  | some b => .ok (.bl (!b)) h
  | none => .bad
/-- a key of a dict -/
def toK : D -> Option Key
 | .int i => some (.inl i)
 | .str x => some (.inr x)
 | _ => none
def fN {κ : Type} [DecidableEq κ] (kvs : List (κ × D)) (k : κ) : Option D := (kvs.find? fun kv => decide (kv.1 = k)).map (·.2)
/-- what a dict has at a key: none where the key or the dict is of another kind -/
def jF (h : Hh) (d : D) (k : D) : Option (Option D) := match d with
 | .ref i => match h[i]? with
  | some (.dK kvs) => match toK k with
   | some k => some (fN kvs k)
   | none => none
  | some (.dT kvs) => match k with
   | .tup ks => match aJ toK ks with
    | some ks => some (fN kvs ks)
    | none => none
   | _ => none
  | _ => none
 | _ => none
def inO (x y : D) (h : Hh) : Option Bool := match y with
 | .tup ws => match toP h bJ x, toP h bJ (.tup ws) with
  | some d, some (.tuple ds) => if SeqAt.shaped d && SeqAt.shaped (.tuple ds) then some (ds.any fun z => PyData.eqv z d) else none
  | _, _ => none
 | .kt ws => match toP h bJ x, toP h bJ (.kt ws) with
  | some d, some (.tuple ds) => if SeqAt.shaped d && SeqAt.shaped (.tuple ds) then some (ds.any fun z => PyData.eqv z d) else none
  | _, _ => none
 | .str z => match x with
  | .str y => match y.cps.toList with
   | [c] => some (decide (c ∈ z.cps.toList))
   | _ => some (!(Builtin.Str.occurrences z y 0 z.length 1).isEmpty)
  | _ => none
 | y => match jF h y x with
  | some o => some o.isSome
  | none => match toP h bJ x, toP h bJ y with
   | some d, some (.list ds) => if SeqAt.shaped d && SeqAt.shaped (.list ds) then some (ds.any fun z => PyData.eqv z d) else none
   | _, _ => none
def inW (x y : D) (h : Hh) : R D := match inO x y h with
 | some b => .ok (.bl b) h
 | none => .bad
def niW (x y : D) (h : Hh) : R D := match inO x y h with
 | some b => .ok (.bl (!b)) h
 | none => .bad
/-- ints of a tuple -/
def toI : D -> Option Int
 | .int i => some i
 | _ => none
def ltW (x y : D) (h : Hh) : R D := match x, y with
 | .int i, .int j => .ok (.bl (decide (i < j))) h
 | .str i, .str j => .ok (.bl (decide (i.cps.toList < j.cps.toList))) h
 | x, y => match asT x, asT y with
  | some i, some j => match aJ toI i, aJ toI j with
   | some i, some j => .ok (.bl (HT.lexLt i j)) h
   | _, _ => .bad
  | _, _ => .bad
def leW (x y : D) (h : Hh) : R D := match x, y with
 | .int i, .int j => .ok (.bl (decide (i <= j))) h
 | .str i, .str j => .ok (.bl (!decide (j.cps.toList < i.cps.toList))) h
 | _, _ => .bad
def gtW (x y : D) (h : Hh) : R D := match x, y with
 | .int i, .int j => .ok (.bl (decide (j < i))) h
 | .str i, .str j => .ok (.bl (decide (j.cps.toList < i.cps.toList))) h
 | _, _ => .bad
def geW (x y : D) (h : Hh) : R D := match x, y with
 | .int i, .int j => .ok (.bl (decide (j <= i))) h
 | .str i, .str j => .ok (.bl (!decide (i.cps.toList < j.cps.toList))) h
 | _, _ => .bad
def D.isNon : D -> Bool
 | .non => true
 | _ => false
section
variable {g : Gx} {X : Cx} {Wx : WX} {μ : List Addr} {h : Hh} {H : Hp}
theorem aDG {x y : D} {vx vy : V} {b : Bool} (rh : RH g μ h H) (qx : RV g μ H x vx) (qy : RV g μ H y vy) (e : eqD h x y = some b) :
  ∃ d d', Dp g.K H vx d /\ Dp g.K H vy d' /\ SeqAt.shaped d = true /\ SeqAt.shaped d' = true /\ PyData.eqv d d' = b := by
 unfold eqD at e
 split at e
 ·rename_i d d' e1 e2
  split at e
  ·rename_i hs
   cases e
   obtain ⟨s1, s2⟩ := Bool.and_eq_true_iff.mp hs
   exact ⟨d, d', eZ rh _ _ _ _ e1 qx, eZ rh _ _ _ _ e2 qy, s1, s2, rfl⟩
  ·cases e
 ·cases e
theorem aKr (hK : X.K = g.K) (hu : X.A.units + 64 < cLine) : SO g X Wx (compareOp .Eq) eqW := by
 intro x y h σ H μ vx vy Q rh qx qy po
 unfold eqW at po
 split at po
 ·rename_i a b
  rw [show vx = .str a from qx, show vy = .str b from qy]
  refine bT op_eq ⟨rfl, ?_⟩
  have e : decide (V.str a = V.str b) = decide (a = b) := by simp
  rw [e]
  exact po.at rh _ rfl (.of rfl)
 ·split at po
  ·rename_i b e
   obtain ⟨d, d', p1, p2, s1, s2, rfl⟩ := aDG rh qx qy e
   exact bT (op_eqD hu) ⟨d, d', by rw [hK]; exact p1, by rw [hK]; exact p2, s1, s2, po.at rh _ rfl (.of rfl)⟩
  ·exact po.elim
theorem aKx (hK : X.K = g.K) (hu : X.A.units + 64 < cLine) : SO g X Wx (compareOp .NotEq) neW := by
 intro x y h σ H μ vx vy Q rh qx qy po
 unfold neW at po
 split at po
 ·rename_i a b
  rw [show vx = .str a from qx, show vy = .str b from qy]
  refine bT op_ne ⟨rfl, ?_⟩
  have e : decide (V.str a = V.str b) = decide (a = b) := by simp
  rw [e]
  exact po.at rh _ rfl (.of rfl)
 ·split at po
  ·rename_i b e
   obtain ⟨d, d', p1, p2, s1, s2, rfl⟩ := aDG rh qx qy e
   exact bT (op_neD hu) ⟨d, d', by rw [hK]; exact p1, by rw [hK]; exact p2, s1, s2, po.at rh _ rfl (.of rfl)⟩
  ·exact po.elim
theorem aBs {w : D} {k : Key} {v : V} (e : toK w = some k) (q : RV g μ H w v) : v = kV k := by
 unfold toK at e
 split at e
 ·cases e; exact q
 ·cases e; exact q
 ·cases e
theorem tV : ∀ {ws : List D} {ks : List Key} {vs : List V}, aJ toK ws = some ks -> RVs g μ H ws vs -> vs = ks.map kV
 | [], ks, vs, e, r => by
  unfold aJ at e; cases e
  exact r
 | w :: ws, ks, vs, e, r => by
  obtain ⟨v, rr, rfl, _, q, z⟩ := r
  unfold aJ at e
  split at e
  ·rename_i a b ea eb
   cases e
   rw [aBs ea q, tV eb z]; rfl
  ·cases e
def RO (g : Gx) (μ : List Addr) (H : Hp) : Option D -> Option V -> Prop
 | some w, r => ∃ v, r = some v /\ w.isTl = false /\ RV g μ H w v
 | none, r => r = none
theorem aB7 {κ : Type} [DecidableEq κ] {kvs : List (κ × D)} {vs : List (κ × V)} (r : RKs g μ H kvs vs) (k : κ) : RO g μ H (fN kvs k) (valV vs k) := by
 induction kvs generalizing vs with
 | nil => rw [show vs = [] from r]; rfl
 | cons p kvs ih =>
  obtain ⟨v, rr, rfl, nt, q, z⟩ := r
  by_cases e : p.1 = k
  ·have e1 : fN (p :: kvs) k = some p.2 := by simp [fN, List.find?_cons, e]
   rw [e1]
   exact ⟨v, valV_pos e, nt, q⟩
  ·have e1 : fN (p :: kvs) k = fN kvs k := by simp [fN, List.find?_cons, e]
   rw [e1]
   rw [valV_neg (p := (p.1, v)) e]
   exact ih z
theorem aBZ {d k : D} {vd vk : V} {o : Option D} (rh : RH g μ h H) (qd : RV g μ H d vd) (qk : RV g μ H k vk) (e : jF h d k = some o) :
  ∃ a r, vd = .ref a /\ IsD H a /\ DGet H a vk r /\ RO g μ H o r := by
 cases d <;> first | (cases e; done) | skip
 ·rename_i i
  obtain ⟨a, ea, rfl⟩ := qd
  simp only [jF] at e
  split at e
  ·rename_i kvs e3
   obtain ⟨b, eb, vs, hb, z⟩ := rh.cell i _ e3
   rw [ea] at eb; cases eb
   split at e
   ·rename_i k' e4
    cases e
    rw [aBs e4 qk]
    exact ⟨a, _, rfl, .inl ⟨_, .inl hb⟩, DGet.k hb, aB7 z k'⟩
   ·cases e
  ·rename_i kvs e3
   obtain ⟨b, eb, vs, hb, z⟩ := rh.cell i _ e3
   rw [ea] at eb; cases eb
   split at e
   ·rename_i ks
    split at e
    ·rename_i ks' e4
     cases e
     obtain ⟨c, us, rfl, hc, zc⟩ := qk
     rw [tV e4 zc] at hc
     exact ⟨a, _, rfl, .inr ⟨_, .inl hb⟩, DGet.t hb hc, aB7 z ks'⟩
    ·cases e
   ·cases e
  ·cases e
/-- in, by values -/
def aLR (K : PySem.W.Frag) : R2 := fun x y H Q => ∃ d ds, Dp K H x d /\ Dp K H y (.tuple ds) /\ SeqAt.shaped d = true /\ SeqAt.shaped (.tuple ds) = true /\ Q (.bl (ds.any fun z => PyData.eqv z d)) H
def aLT (K : PySem.W.Frag) : R2 := fun x y H Q => ∃ d ds, Dp K H x d /\ Dp K H y (.tuple ds) /\ SeqAt.shaped d = true /\ SeqAt.shaped (.tuple ds) = true /\ Q (.bl (!ds.any fun z => PyData.eqv z d)) H
theorem aD1 (hu : X.A.units + 65 < cLine) : OpR X (compareOp .In) (aLR X.K) := by
 intro pins s σ H x y v u Q I rx ry h
 obtain ⟨d, ds, hd, he, sd, se, q⟩ := h
 obtain ⟨as, r1⟩ := Dp.reads I d x v hd rx
 obtain ⟨bs, r2⟩ := Dp.reads I (.tuple ds) y u he ry
 exact SeqAt.in_tuple_reads r2 r1 (SeqAt.canLay_of_shaped se) (SeqAt.canLay_of_shaped sd) (room_in_shaped sd hu) ⟨.bl _, H, I, rfl, q⟩
theorem aD2 (hu : X.A.units + 65 < cLine) : OpR X (compareOp .NotIn) (aLT X.K) := by
 intro pins s σ H x y v u Q I rx ry h
 obtain ⟨d, ds, hd, he, sd, se, q⟩ := h
 obtain ⟨as, r1⟩ := Dp.reads I d x v hd rx
 obtain ⟨bs, r2⟩ := Dp.reads I (.tuple ds) y u he ry
 exact SeqAt.notIn_tuple_reads r2 r1 (SeqAt.canLay_of_shaped se) (SeqAt.canLay_of_shaped sd) (room_in_shaped sd hu) ⟨.bl _, H, I, rfl, q⟩
def aLP : R2 := fun y x H Q => ∃ a o, x = .ref a /\ DGet H a y o /\ Q (.bl o.isSome) H
def aLQ : R2 := fun y x H Q => ∃ a o, x = .ref a /\ DGet H a y o /\ Q (.bl (!o.isSome)) H
theorem aIa (hu : X.A.units + 1 < cLine) : OpR X (compareOp .In) aLP := by
 intro pins s σ H x y v u Q I rx ry h
 obtain ⟨a, o, rfl, gt, q⟩ := h
 cases ry
 exact d_in hu I gt rx fun s' I' => ⟨.bl _, H, I', rfl, q⟩
theorem aIb (hu : X.A.units + 1 < cLine) : OpR X (compareOp .NotIn) aLQ := by
 intro pins s σ H x y v u Q I rx ry h
 obtain ⟨a, o, rfl, gt, q⟩ := h
 cases ry
 exact d_notIn hu I gt rx fun s' I' => ⟨.bl _, H, I', rfl, q⟩
theorem aG6 {y : Str} {c : Nat} (e : y.cps.toList = [c]) : y = ⟨#[c]⟩ := by
 cases y with
 | mk a =>
  have : a = #[c] := by
   have := congrArg List.toArray e
   simpa using this
  rw [this]
/-- in and not in together: f is the truth or its opposite -/
theorem aDP (hK : X.K = g.K) (hu : X.A.units + 65 < cLine) {x y : D} {vx vy : V} {b : Bool} {Q : VK} (rh : RH g μ h H) (qx : RV g μ H x vx) (qy : RV g μ H y vy) (e : inO x y h = some b) :
  (Q (.bl b) H -> rOf X (compareOp .In) vx vy H Q) /\ (Q (.bl (!b)) H -> rOf X (compareOp .NotIn) vx vy H Q) := by
 unfold inO at e
 split at e
 ·rename_i ws
  split at e
  ·rename_i d ds e1 e2
   split at e
   ·rename_i hs
    cases e
    obtain ⟨s1, s2⟩ := Bool.and_eq_true_iff.mp hs
    have p1 := eZ rh _ _ _ _ e1 qx
    have p2 := eZ rh _ _ _ _ e2 qy
    exact ⟨fun q => bT (aD1 hu) ⟨d, ds, by rw [hK]; exact p1, by rw [hK]; exact p2, s1, s2, q⟩, fun q => bT (aD2 hu) ⟨d, ds, by rw [hK]; exact p1, by rw [hK]; exact p2, s1, s2, q⟩⟩
   ·cases e
  ·cases e
 ·rename_i ws
  split at e
  ·rename_i d ds e1 e2
   split at e
   ·rename_i hs
    cases e
    obtain ⟨s1, s2⟩ := Bool.and_eq_true_iff.mp hs
    have p1 := eZ rh _ _ _ _ e1 qx
    have p2 := eZ rh _ _ _ _ e2 qy
    exact ⟨fun q => bT (aD1 hu) ⟨d, ds, by rw [hK]; exact p1, by rw [hK]; exact p2, s1, s2, q⟩, fun q => bT (aD2 hu) ⟨d, ds, by rw [hK]; exact p1, by rw [hK]; exact p2, s1, s2, q⟩⟩
   ·cases e
  ·cases e
 ·rename_i z
  split at e
  ·rename_i y'
   split at e
   ·rename_i c ec
    cases e
    rw [show vx = .str y' from qx, show vy = .str z from qy, aG6 ec]
    exact ⟨fun q => bT op_in_sign ⟨c, z, rfl, rfl, q⟩, fun q => bT op_notIn_sign ⟨c, z, rfl, rfl, q⟩⟩
   ·cases e
    exact ⟨fun q => bT op_in_str ⟨_, _, qx, qy, q⟩, fun q => bT op_notin_str ⟨_, _, qx, qy, q⟩⟩
  ·cases e
 ·split at e
  ·rename_i o eo
   cases e
   obtain ⟨a, r, e1, _, e2, e3⟩ := aBZ rh qy qx eo
   have eb : o.isSome = r.isSome := by
    cases o with
    | none => rw [show r = none from e3]; rfl
    | some w => obtain ⟨v, rfl, _⟩ := e3; rfl
   rw [eb]
   exact ⟨fun q => bT (aIa (by omega)) ⟨a, r, e1, e2, q⟩, fun q => bT (aIb (by omega)) ⟨a, r, e1, e2, q⟩⟩
  ·split at e
   ·rename_i d ds e1 e2
    split at e
    ·rename_i hs
     cases e
     obtain ⟨s1, s2⟩ := Bool.and_eq_true_iff.mp hs
     have p1 := eZ rh _ _ _ _ e1 qx
     have p2 := eZ rh _ _ _ _ e2 qy
     exact ⟨fun q => bT (op_inD hu) ⟨d, ds, by rw [hK]; exact p1, by rw [hK]; exact p2, s1, s2, q⟩, fun q => bT (op_notInD hu) ⟨d, ds, by rw [hK]; exact p1, by rw [hK]; exact p2, s1, s2, q⟩⟩
    ·cases e
   ·cases e
theorem aKu (hK : X.K = g.K) (hu : X.A.units + 65 < cLine) : SO g X Wx (compareOp .In) inW := by
 intro x y h σ H μ vx vy Q rh qx qy po
 unfold inW at po
 split at po
 ·rename_i b e
  exact (aDP hK hu rh qx qy e).1 (po.at rh _ rfl (.of rfl))
 ·exact po.elim
theorem aKy (hK : X.K = g.K) (hu : X.A.units + 65 < cLine) : SO g X Wx (compareOp .NotIn) niW := by
 intro x y h σ H μ vx vy Q rh qx qy po
 unfold niW at po
 split at po
 ·rename_i b e
  exact (aDP hK hu rh qx qy e).2 (po.at rh _ rfl (.of rfl))
 ·exact po.elim
theorem xB : ∀ {ws : List D} {ns : List Int} {vs : List V}, aJ toI ws = some ns -> RVs g μ H ws vs -> vs = ns.map V.int
 | [], ks, vs, e, r => by
  unfold aJ at e; cases e
  exact r
 | w :: ws, ks, vs, e, r => by
  obtain ⟨v, rr, rfl, _, q, z⟩ := r
  unfold aJ at e
  split at e
  ·rename_i a b ea eb
   cases e
   unfold toI at ea
   split at ea
   ·cases ea
    rw [show v = .int _ from q, xB eb z]; rfl
   ·cases ea
  ·cases e
theorem aKw (hK : X.K = g.K) (hu : X.A.units < cLine) : SO g X Wx (compareOp .Lt) ltW := by
 intro x y h σ H μ vx vy Q rh qx qy po
 unfold ltW at po
 split at po
 ·exact bT op_lt ⟨_, _, qx, qy, po.at rh _ rfl (.of rfl)⟩
 ·exact bT op_lt_str ⟨_, _, qx, qy, po.at rh _ rfl (.of rfl)⟩
 ·split at po
  ·rename_i i j e1 e2
   split at po
   ·rename_i i' j' e3 e4
    obtain ⟨a, vs, rfl, s1, z1⟩ := dC qx e1
    obtain ⟨b, us, rfl, s2, z2⟩ := dC qy e2
    rw [xB e3 z1] at s1
    rw [xB e4 z2] at s2
    exact bT (op_ltT hu) ⟨a, b, i', j', rfl, rfl, by rw [hK]; exact s1, by rw [hK]; exact s2, po.at rh _ rfl (.of rfl)⟩
   ·exact po.elim
  ·exact po.elim
theorem aKv : SO g X Wx (compareOp .LtE) leW := by
 intro x y h σ H μ vx vy Q rh qx qy po
 unfold leW at po
 split at po
 ·exact bT op_le ⟨_, _, qx, qy, po.at rh _ rfl (.of rfl)⟩
 ·exact bT op_le_str ⟨_, _, qx, qy, po.at rh _ rfl (.of rfl)⟩
 ·exact po.elim
theorem aKt : SO g X Wx (compareOp .Gt) gtW := by
 intro x y h σ H μ vx vy Q rh qx qy po
 unfold gtW at po
 split at po
 ·exact bT op_gt ⟨_, _, qx, qy, po.at rh _ rfl (.of rfl)⟩
 ·exact bT op_gt_str ⟨_, _, qx, qy, po.at rh _ rfl (.of rfl)⟩
 ·exact po.elim
theorem aKs : SO g X Wx (compareOp .GtE) geW := by
 intro x y h σ H μ vx vy Q rh qx qy po
 unfold geW at po
 split at po
 ·exact bT op_ge ⟨_, _, qx, qy, po.at rh _ rfl (.of rfl)⟩
 ·exact bT op_ge_str ⟨_, _, qx, qy, po.at rh _ rfl (.of rfl)⟩
 ·exact po.elim
end
end PV
end
section
namespace PV
open PySem PySem.Spec PyProof.Rows L2
def nM (a b : M Bool) : M Bool := fun σ h => (a σ h).bind fun x h1 => if x = true then b σ h1 else .ok false h1
def lA (a b : M Bool) : M Bool := fun σ h => (a σ h).bind fun x h1 => if x = true then .ok true h1 else b σ h1
def kH (a : M Bool) : M Bool := fun σ h => (a σ h).bind fun x h1 => .ok (!x) h1
def aJM (a b : M D) : M D := fun σ h => (a σ h).bind fun x h1 => match x with
 | .bl true => b σ h1
 | .bl false => .ok (.bl false) h1
 | _ => .bad
def aLp (a b : M D) : M D := fun σ h => (a σ h).bind fun x h1 => match x with
 | .bl true => .ok (.bl true) h1
 | .bl false => b σ h1
 | _ => .bad
def mIf (c : M Bool) (a b : M D) : M D := fun σ h => (c σ h).bind fun x h1 => if x = true then a σ h1 else b σ h1
section
variable {g : Gx} {X : Cx} {Wx : WX} {a b c : Expr} {rest : List Expr} {ma mb : M D} {ta tb : M Bool} {pos : Pos}
theorem aHn (ha : ST g X Wx a ta) : SW g X Wx (.BoolOp .And [a] pos) ta := fun σw h σ H μ Q rs rh po => aC4 (pw_and1 qO) (ha σw h σ H μ Q rs rh po)
theorem aJe (ha : ST g X Wx a ta) : SW g X Wx (.BoolOp .Or [a] pos) ta := fun σw h σ H μ Q rs rh po => aC4 (pw_or1 qO) (ha σw h σ H μ Q rs rh po)
theorem aJd (ha : ST g X Wx a ta) (hb : SW g X Wx (.BoolOp .And (b :: rest) pos) tb) : SW g X Wx (.BoolOp .And (a :: b :: rest) pos) (nM ta tb) := by
 intro σw h σ H μ Q rs rh po
 refine aC4 (pw_and qO aF8) (ha σw h σ H μ _ rs rh (po.bind.imp fun x h1 μ1 H1 x1 r1 p1 => ?_))
 cases x with
 | true => exact hb σw h1 σ H1 μ1 Q (rs.ext rh.trk x1) r1 p1
 | false => exact p1.at r1
theorem aKB (ha : ST g X Wx a ta) (hb : SW g X Wx (.BoolOp .Or (b :: rest) pos) tb) : SW g X Wx (.BoolOp .Or (a :: b :: rest) pos) (lA ta tb) := by
 intro σw h σ H μ Q rs rh po
 refine aC4 (pw_or qO aF8) (ha σw h σ H μ _ rs rh (po.bind.imp fun x h1 μ1 H1 x1 r1 p1 => ?_))
 cases x with
 | false => exact hb σw h1 σ H1 μ1 Q (rs.ext rh.trk x1) r1 p1
 | true => exact p1.at r1
theorem aI9 (ha : ST g X Wx a ta) : ST g X Wx (.UnaryOp .Not a pos) (kH ta) := by
 intro σw h σ H μ Q rs rh po
 refine aFo (pt_not qO) (ha σw h σ H μ _ rs rh (po.bind.imp fun x h1 μ1 H1 x1 r1 p1 => ?_))
 exact p1.at r1
theorem aIL (hc : ST g X Wx c ta) (ha : SE g X Wx a ma) (hb : SE g X Wx b mb) : SE g X Wx (.IfExp c a b pos) (mIf ta ma mb) := by
 intro σw h σ H μ Q rs rh po
 refine fG (pe_ifExp qO bB bB) (hc σw h σ H μ _ rs rh (po.bind.imp fun x h1 μ1 H1 x1 r1 p1 => ?_))
 cases x with
 | true => exact ha σw h1 σ H1 μ1 Q (rs.ext rh.trk x1) r1 (p1.imp fun w h2 μ2 H2 x2 r2 q2 v2 qv2 fv2 => q2 v2 qv2 (fv2.back x1))
 | false => exact hb σw h1 σ H1 μ1 Q (rs.ext rh.trk x1) r1 (p1.imp fun w h2 μ2 H2 x2 r2 q2 v2 qv2 fv2 => q2 v2 qv2 (fv2.back x1))
theorem aJa (ha : SE g X Wx a ma) (he : ∀ whole, isTrue a X.env whole = (do let v <- whole; standAt a.pos; holding [v] (truthy v))) : ST g X Wx a (mB ma) := fun σw h σ H μ Q rs rh po =>
 aFo (pt_val bB he) (ha σw h σ H μ _ rs rh (aCv po))
end
def aA : List (M D) -> M (List D)
 | [] => fun _ h => .ok [] h
 | m :: ms => fun σ h => (m σ h).bind fun w h1 => (aA ms σ (aT w h1).2).bind fun ws h2 => .ok ((aT w h1).1 :: ws) h2
def bE (m : M (List D)) : M D := fun σ h => (m σ h).bind fun ws h1 => if ws.length <= sizeLine then .ok (.tup ws) h1 else .bad
def dW (m : M (List D)) : M D := fun σ h => (m σ h).bind fun ws h1 => if ws.length <= sizeLine then .ok (.tl ws) h1 else .bad
section
variable {g : Gx} {X : Cx} {Wx : WX} {a b e : Expr} {es : List Expr} {ma mb : M D} {ms : List (M D)} {pos : Pos}
theorem aIz : SA g X Wx [] (aA []) := fun σw h σ H μ Q rs rh po => aId pa_nil (po.at rh [] rfl)
theorem aG0 (ha : SE g X Wx e ma) (hr : SA g X Wx es (aA ms)) (hs : starEach (e :: es) X.env = (false, eval e X.env) :: starEach es X.env) : SA g X Wx (e :: es) (aA (ma :: ms)) := by
 intro σw h σ H μ Q rs rh po
 refine aId (pa_cons bB wL hs) (ha σw h σ H μ _ rs rh (po.bind2.imp fun w h1 μ1 H1 x1 r1 p1 v qv fv => ?_))
 obtain ⟨μ1', x1', r1', q1', _⟩ := iP r1 qv fv x1
 refine hr σw _ σ H1 μ1' _ (rs.ext rh.trk x1') r1' ((p1 μ1' H1 x1').bind.imp fun ws h2 μ2 H2 x2 r2 p2 vs qs => ?_)
 exact p2.at r2 (v :: vs) ⟨v, vs, rfl, eY, q1'.ext r1'.trk x2, qs⟩
variable {m : M (List D)}
theorem aIS {x1} (ha : SA g X Wx es m) : SE g X Wx (.Tuple es x1 pos) (bE m) := by
 intro σw h σ H μ Q rs rh po
 refine fG (pe_tup wL) (ha σw h σ H μ _ rs rh (po.bind.imp fun ws h1 μ1 H1 x1 r1 p1 vs qs => ?_))
 split at p1
 ·rename_i hl
  have l := qs.length
  exact ⟨by omega, fun p np => p1 μ1 _ (.new r1.trk np) (r1.new np) _ (.newT r1 np qs) (.of rfl)⟩
 ·exact p1.elim
theorem aIN (ha : SA g X Wx es m) : SE g X Wx (.List es pos) (dW m) := by
 intro σw h σ H μ Q rs rh po
 refine fG (pe_lst wL) (ha σw h σ H μ _ rs rh (po.bind.imp fun ws h1 μ1 H1 x1 r1 p1 vs qs => ?_))
 split at p1
 ·rename_i hl
  have l := qs.length
  refine ⟨by omega, fun p np => p1 μ1 _ (.new r1.trk np) (r1.new np) _ (.newL r1 np qs) (Fr.back x1 fun c ec => ?_)⟩
  cases ec
  exact np
 ·exact p1.elim
end
def ixW (x y : D) (h : Hh) : R D := match y with
 | .int i => match asL h x with
  | some ws => match atI ws i with
   | some w => .ok w h
   | none => .bad
  | none => match asT x with
   | some ws => match atI ws i with
    | some w => .ok w h
    | none => .bad
   | none => match x with
    | .str z => if z.length <= sizeLine then match atI z.cps.toList i with
      | some c => .ok (.str ⟨#[c]⟩) h
      | none => .bad
     else .bad
    | x => match jF h x y with
     | some (some w) => .ok w h
     | _ => .bad
 | y => match jF h x y with
  | some (some w) => .ok w h
  | _ => .bad
/-- a dict's item as a subscript by values -/
theorem aGB {X : Cx} (hu : X.A.units + 1 < cLine) : IxR X (fun x y H Q => ∃ a v, x = .ref a /\ DGet H a y (some v) /\ Q v H) := by
 intro value slice pins s σ H x y v u Q I rx ry h hs
 obtain ⟨a, z, rfl, gt, q⟩ := h
 cases rx
 have hT := dict_typeIs I gt
 have h₂ : wpAny (model X.prog X.w) X.A (getItem (.ref a) u) (EP X pins σ Q) X.xe s := d_getItem hu I gt ry fun w' s3 I3 rw' => ⟨z, H, I3, rw', q⟩
 unfold subscriptTail
 refine wpAny_bind ?_
 rw [getitemInPython_of_ne hT.not_modules]
 refine wpAny_bind (wpAny_specialOf hT PySem.F.slot_dict_getitem.lookup ?_)
 have fin : wpAny (model X.prog X.w) X.A (subscripted slice false (.ref a) u) (fun r s₃ => wpAny (model X.prog X.w) X.A (letTemporaryGo value (.ref a) r >>= fun _ => pure r) (EP X pins σ Q) X.xe s₃) X.xe s := by
  rw [hs]
  exact wpAny_operating (wpAny_mono h₂ (fun r s₃ h₃ => wpAny_bind (wpAny_letTemporaryGo (wpAny_pure h₃))) fun _ _ x => x)
 first
  | exact wpAny_pure (wpAny_bind fin)
  | exact wpAny_bind (wpAny_pure (wpAny_bind fin))
  | exact wpAny_bind fin
def aCU (X : Cx) : R2 := fun x y H Q => ∀ value slice pins s σ v u, Inv X pins σ H s -> RelV x v -> RelV y u -> subscripted slice false v u = operate [v, u] (getItem v u) -> wpAny (model X.prog X.w) X.A (subscriptTail value slice v u) (EP X pins σ Q) X.xe s
theorem aJI {X : Cx} : IxR X (aCU X) := fun value slice pins s σ H x y v u Q I rx ry h hs => h value slice pins s σ v u I rx ry hs
theorem aCT {X : Cx} {r : R2} (p : IxR X r) {x y : V} {H : Hp} {Q : VK} (h : r x y H Q) : aCU X x y H Q := fun value slice pins s σ v u I rx ry hs => p value slice pins s σ H x y v u Q I rx ry h hs
section
variable {g : Gx} {X : Cx} {Wx : WX} {a b : Expr} {ma mb : M D} {pos : Pos} {μ : List Addr} {H : Hp}
theorem aDv {ws : List D} {vs : List V} {i : Int} {w : D} (r : RVs g μ H ws vs) (e : atI ws i = some w) : ∃ v, atI vs i = some v /\ w.isTl = false /\ RV g μ H w v := by
 unfold atI at e ⊢
 rw [r.length]
 cases q : ixN ws.length i with
 | none => rw [q] at e; cases e
 | some j =>
  rw [q] at e
  exact r.get e
theorem aHX (hK : X.K = g.K) (hu : X.A.units + 1 < cLine) : ∀ (x y : D) (h : Hh) (σ : L2.St) (H : Hp) (μ : List Addr) (vx vy : V) (Q : VK),
  RH g μ h H -> RV g μ H x vx -> RV g μ H y vy -> Po g Wx σ μ H (ixW x y h) (fun w h' μ' H' => ∀ v, RV g μ' H' w v -> Fr H w v -> Q v H') -> aCU X vx vy H Q := by
 intro x y h σ H μ vx vy Q rh qx qy po
 have dcase : ∀ {o : Option (Option D)}, o = jF h x y -> Po g Wx σ μ H (match o with | some (some w) => R.ok w h | _ => .bad) (fun w h' μ' H' => ∀ v, RV g μ' H' w v -> Fr H w v -> Q v H') -> aCU X vx vy H Q := by
  intro o eo po
  split at po
  ·rename_i w
   obtain ⟨a, r, e1, _, e2, v, rfl, nt, q⟩ := aBZ rh qx qy eo.symm
   exact aCT (aGB hu) ⟨a, v, e1, e2, po.at rh v q (.of nt)⟩
  ·exact po.elim
 unfold ixW at po
 split at po
 ·rename_i i
  split at po
  ·rename_i ws ew
   split at po
   ·rename_i w e
    obtain ⟨a, vs, rfl, s1, z⟩ := fK rh qx ew
    obtain ⟨v, ev, nt, qv⟩ := aDv z e
    exact aCT ix_list ⟨a, vs, i, v, rfl, qy, by rw [hK]; exact s1, ev, po.at rh v qv (.of nt)⟩
   ·exact po.elim
  ·split at po
   ·rename_i ws ew
    split at po
    ·rename_i w e
     obtain ⟨a, vs, rfl, s1, z⟩ := dC qx ew
     obtain ⟨v, ev, nt, qv⟩ := aDv z e
     exact aCT ix_tup ⟨a, vs, i, v, rfl, qy, by rw [hK]; exact s1, ev, po.at rh v qv (.of nt)⟩
    ·exact po.elim
   ·split at po
    ·rename_i z _ _
     split at po
     ·rename_i hl
      split at po
      ·rename_i c e
       exact aCT ix_str ⟨z, i, c, qx, qy, hl, e, po.at rh _ rfl (.of rfl)⟩
      ·exact po.elim
     ·exact po.elim
    ·exact dcase rfl po
 ·exact dcase rfl po
theorem aKh (hK : X.K = g.K) (hu : X.A.units + 1 < cLine) (ha : SE g X Wx a ma) (hb : SE g X Wx b mb) (hs : PlainIx b) : SE g X Wx (.Subscript a b pos) (mOp ixW ma mb) := by
 intro σw h σ H μ Q rs rh po
 refine fG (pe_ix aJI bB bB hs) ?_
 refine ha σw h σ H μ _ rs rh (po.bind.imp fun x h1 μ1 H1 x1 r1 p1 vx qx fx => ?_)
 refine hb σw h1 σ H1 μ1 _ (rs.ext rh.trk x1) r1 (p1.bind.imp fun y h2 μ2 H2 x2 r2 p2 vy qy fy => ?_)
 exact aHX hK hu x y h2 σ H2 μ2 vx vy Q r2 (qx.ext r1.trk x2) qy (p2.imp fun w h3 μ3 H3 x3 r3 q3 v qv fv => q3 v qv (fv.back (x1.trans x2)))
end
def oG (xs : List D) (lo hi : Option Int) : List D := (xs.drop (HT.sIx xs.length 0 lo)).take (HT.sIx xs.length xs.length hi - HT.sIx xs.length 0 lo)
def slW (x : D) (lo hi : Option Int) (h : Hh) : R D := match asL h x with
 | some ws => .ok (.tl (oG ws lo hi)) h
 | none => match asT x with
  | some ws => .ok (if HT.sIx ws.length 0 lo = 0 /\ HT.sIx ws.length ws.length hi = ws.length then x else .tup (oG ws lo hi)) h
  | none => match x with
   | .str z => if z.length <= sizeLine then .ok (.str (cutS z lo hi)) h else .bad
   | _ => .bad
def nO : Option (M D) -> M (Option Int)
 | none => fun _ h => .ok none h
 | some m => fun σ h => (m σ h).bind fun x h1 => match x with
  | .int i => .ok (some i) h1
  | _ => .bad
def mSl (a : M D) (lo hi : Option (M D)) : M D := fun σ h => (a σ h).bind fun x h1 => (nO lo σ h1).bind fun l h2 => (nO hi σ h2).bind fun u h3 => slW x l u h3
def aFP (X : Cx) (e : Option Expr) : TO := fun σ H Q => ∀ pins s, Inv X pins σ H s -> wpAny (model X.prog X.w) X.A (evalPart e X.env) (fun u s' => ∃ o H', Inv X pins σ H' s' /\ IsPart u o /\ Q o H') X.xe s
theorem aF5 {X : Cx} {e : Option Expr} : PO X e (aFP X e) := ⟨fun pins s σ H Q I h => h pins s I⟩
theorem aIg {X : Cx} {e : Option Expr} {t : TO} (p : PO X e t) {σ : L2.St} {H : Hp} {Q : Option Int -> Hp -> Prop} (h : t σ H Q) : aFP X e σ H Q := fun pins s I => p.run pins s σ H Q I h
def aIV (X : Cx) : V -> Option Int -> Option Int -> Hp -> VK -> Prop := fun x lo hi H Q => ∀ pins s σ v vl vu sl, Inv X pins σ H s -> RelV x v -> s.heap.IsSliceOf sl vl vu .none -> IsPart vl lo -> IsPart vu hi ->
  ∃ T id, typeLookup (.type T) "__getitem__" = pure (some (.builtin id)) /\ s.TypeIs v T /\ wpAny (model X.prog X.w) X.A (getItem v (.ref sl)) (EP X pins σ Q) X.xe s
theorem aKq {X : Cx} : L2.SlR X (aIV X) := fun pins s σ H x v vl vu lo hi sl Q I rx hs pl pu h => h pins s σ v vl vu sl I rx hs pl pu
theorem aFD {X : Cx} {r : V -> Option Int -> Option Int -> Hp -> VK -> Prop} (p : L2.SlR X r) {x : V} {lo hi : Option Int} {H : Hp} {Q : VK} (h : r x lo hi H Q) : aIV X x lo hi H Q := fun pins s σ v vl vu sl I rx hs pl pu => p pins s σ H x v vl vu lo hi sl Q I rx hs pl pu h
section
variable {g : Gx} {X : Cx} {Wx : WX} {a : Expr} {lo hi : Option Expr} {ma : M D} {ml mh : Option (M D)} {pos p2 : Pos} {μ : List Addr} {H : Hp}
theorem aDD {ws : List D} {vs : List V} {lo hi : Option Int} (r : RVs g μ H ws vs) : RVs g μ H (oG ws lo hi) (cutV vs lo hi) := by
 unfold oG cutV
 rw [r.length]
 exact (r.drop _).take _
def SP' (g : Gx) (X : Cx) (Wx : WX) (e : Option Expr) (m : Option (M D)) : Prop := ∀ (σw : Sg) (h : Hh) (σ : L2.St) (H : Hp) (μ : List Addr) (Q : Option Int -> Hp -> Prop), RS g μ H σw σ -> RH g μ h H ->
 Po g Wx σ μ H (nO m σw h) (fun o h' μ' H' => Q o H') -> aFP X e σ H Q
theorem aHb : SP' g X Wx none none := fun σw h σ H μ Q rs rh po => aIg po_none (po.at rh)
theorem aHc (ha : SE g X Wx a ma) : SP' g X Wx (some a) (some ma) := by
 intro σw h σ H μ Q rs rh po
 refine aIg (po_some bB) (ha σw h σ H μ _ rs rh (Po.bind (f := fun x h1 => match x with | .int i => .ok (some i) h1 | _ => .bad) po |>.imp fun x h1 μ1 H1 x1 r1 p1 v qv fv => ?_))
 split at p1
 ·exact ⟨_, qv, p1.at r1⟩
 ·exact p1.elim
theorem aKl (hK : X.K = g.K) (ha : SE g X Wx a ma) (hl : SP' g X Wx lo ml) (hh : SP' g X Wx hi mh) : SE g X Wx (.Subscript a (.Slice lo hi none p2) pos) (mSl ma ml mh) := by
 intro σw h σ H μ Q rs rh po
 refine fG (pe_slice aKq bB aF5 aF5) ?_
 refine ha σw h σ H μ _ rs rh (po.bind.imp fun x h1 μ1 H1 x1 r1 p1 vx qx fx => ?_)
 refine hl σw h1 σ H1 μ1 _ (rs.ext rh.trk x1) r1 (p1.bind.imp fun l h2 μ2 H2 x2 r2 p2 => ?_)
 refine hh σw h2 σ H2 μ2 _ (rs.ext rh.trk (x1.trans x2)) r2 (p2.bind.imp fun u h3 μ3 H3 x3 r3 p3 => ?_)
 have qx3 := (qx.ext r1.trk x2).ext r2.trk x3
 have x03 := (x1.trans x2).trans x3
 unfold slW at p3
 split at p3
 ·rename_i ws ew
  obtain ⟨a, vs, rfl, s1, z⟩ := fK r3 qx3 ew
  refine aFD sl_list ⟨a, vs, rfl, by rw [hK]; exact s1, fun p np => ?_⟩
  refine p3 μ3 _ (.new r3.trk np) (r3.new np) _ (.newL r3 np (aDD z)) (Fr.back x03 fun c ec => ?_)
  cases ec
  exact np
 ·split at p3
  ·rename_i ws ew
   obtain ⟨a, vs, rfl, s1, z⟩ := dC qx3 ew
   have l := z.length
   refine aFD sl_tupA ⟨a, vs, rfl, by rw [hK]; exact s1, fun hc => ?_, fun hc p np => ?_⟩
   ·rw [l] at hc
    rw [if_pos hc] at p3
    exact p3.at r3 _ qx3 (.of (by cases x <;> first | rfl | cases ew))
   ·rw [l] at hc
    rw [if_neg hc] at p3
    exact p3 μ3 _ (.new r3.trk np) (r3.new np) _ (.newT r3 np (aDD z)) (.of rfl)
  ·split at p3
   ·split at p3
    ·rename_i hl
     exact aFD sl_str ⟨_, qx3, hl, p3.at r3 _ rfl (.of rfl)⟩
    ·exact p3.elim
   ·exact p3.elim
end
end PV
end
section
namespace PV
open PySem PySem.Spec PyProof.Rows L2
def aCI (X : Cx) (f : Value) : List V -> Hp -> VK -> Prop := fun xs H Q => ∀ pins s σ us, Inv X pins σ H s -> Vals xs us -> wpAny (model X.prog X.w) X.A (call f us) (EP X pins σ Q) X.xe s
theorem aFU {X : Cx} {f : Value} : CallR X f (aCI X f) := fun pins s σ H xs us Q I r h => h pins s σ us I r
theorem eG {X : Cx} {f : Value} {r : List V -> Hp -> VK -> Prop} (p : CallR X f r) {xs : List V} {H : Hp} {Q : VK} (h : r xs H Q) : aCI X f xs H Q := fun pins s σ us I rv => p pins s σ H xs us Q I rv h
def SC1 (g : Gx) (X : Cx) (Wx : WX) (f : Value) (m : D -> Hh -> R D) : Prop := ∀ (x : D) (h : Hh) (σ : L2.St) (H : Hp) (μ : List Addr) (vx : V) (Q : VK), RH g μ h H -> RV g μ H x vx ->
 Po g Wx σ μ H (m x h) (fun w h' μ' H' => ∀ v, RV g μ' H' w v -> Fr H w v -> Q v H') -> aCI X f [vx] H Q
def SC2 (g : Gx) (X : Cx) (Wx : WX) (f : Value) (m : D -> D -> Hh -> R D) : Prop := ∀ (x y : D) (h : Hh) (σ : L2.St) (H : Hp) (μ : List Addr) (vx vy : V) (Q : VK), RH g μ h H -> RV g μ H x vx -> RV g μ H y vy ->
 Po g Wx σ μ H (m x y h) (fun w h' μ' H' => ∀ v, RV g μ' H' w v -> Fr H w v -> Q v H') -> aCI X f [vx, vy] H Q
def mF1 (f : D -> Hh -> R D) (a : M D) : M D := fun σ h => (a σ h).bind f
/-- the built-in is a function or a type -/
def oO : Value -> Bool
 | .builtin _ => true
 | .type _ => true
 | _ => false
section
variable {g : Gx} {X : Cx} {Wx : WX} {a b : Expr} {ma mb : M D} {f : D -> Hh -> R D} {f2 : D -> D -> Hh -> R D} {x : Str} {p pos : Pos} {bv : Value}
theorem aAT {e : Expr} {es : List Expr} {t : TA} {r : List V -> Hp -> VK -> Prop} (hb : oO bv = true) (hc : CallR X bv r) (hg : Gl X x) (hm : X.mg x = none) (hv : bootBuiltins x = some bv) (ha : PA X (e :: es) t) (hn : x ≠ "__name__") (hdb : (x == ("__debug__" : Str)) = false)
  (he : starEach (e :: es) X.env = (false, eval e X.env) :: starEach es X.env) (hpl : (backTo pos (starEach es X.env)).any (·.1) = false) : PE X (.Call (.Name x p) (e :: es) [] pos) (tCB r t) := by
 cases bv <;> first | cases hb | skip
 ·exact pe_callTy hc hg hm hv ha hn hdb he hpl
 ·exact pe_callB hc hg hm hv ha hn hdb he hpl
theorem aGd (sc : SC1 g X Wx bv f) (hb : oO bv = true) (hg : Gl X x) (hm : X.mg x = none) (hv : bootBuiltins x = some bv) (hn : x ≠ "__name__") (hdb : (x == ("__debug__" : Str)) = false)
  (he : starEach [a] X.env = [(false, eval a X.env)]) (ha : SE g X Wx a ma) : SE g X Wx (.Call (.Name x p) [a] [] pos) (mF1 f ma) := by
 intro σw h σ H μ Q rs rh po
 refine fG (aAT hb aFU hg hm hv (pa_cons bB pa_nil he) hn hdb he rfl) ?_
 refine ha σw h σ H μ _ rs rh (po.bind.imp fun x h1 μ1 H1 x1 r1 p1 vx qx fx => ?_)
 exact sc x h1 σ H1 μ1 vx Q r1 qx (p1.imp fun w h3 μ3 H3 x3 r3 q3 v qv fv => q3 v qv (fv.back x1))
theorem aKe (sc : SC2 g X Wx bv f2) (hb : oO bv = true) (hg : Gl X x) (hm : X.mg x = none) (hv : bootBuiltins x = some bv) (hn : x ≠ "__name__") (hdb : (x == ("__debug__" : Str)) = false)
  (he : starEach [a, b] X.env = [(false, eval a X.env), (false, eval b X.env)]) (he2 : starEach [b] X.env = [(false, eval b X.env)]) (ha : SE g X Wx a ma) (hb' : SE g X Wx b mb) : SE g X Wx (.Call (.Name x p) [a, b] [] pos) (mOp f2 ma mb) := by
 intro σw h σ H μ Q rs rh po
 refine fG (aAT hb aFU hg hm hv (pa_cons bB (pa_cons bB pa_nil he2) (by rw [he, he2])) hn hdb (by rw [he, he2]) (by rw [he2]; rfl)) ?_
 refine ha σw h σ H μ _ rs rh (po.bind.imp fun x h1 μ1 H1 x1 r1 p1 vx qx fx => ?_)
 refine hb' σw h1 σ H1 μ1 _ (rs.ext rh.trk x1) r1 (p1.bind.imp fun y h2 μ2 H2 x2 r2 p2 vy qy fy => ?_)
 exact sc x y h2 σ H2 μ2 vx vy Q r2 (qx.ext r1.trk x2) qy (p2.imp fun w h3 μ3 H3 x3 r3 q3 v qv fv => q3 v qv (fv.back (x1.trans x2)))
end
def cR (x : D) (h : Hh) : R D := match asL h x with
 | some ws => .ok (.int ws.length) h
 | none => match asT x with
  | some ws => .ok (.int ws.length) h
  | none => match x with
   | .str z => if z.length <= sizeLine then .ok (.int z.length) h else .bad
   | .ref i => match h[i]? with
    | some (.dK kvs) => .ok (.int kvs.length) h
    | some (.dT kvs) => .ok (.int kvs.length) h
    | _ => .bad
   | _ => .bad
def uK (x : D) (h : Hh) : R D := match x with
 | .int i => .ok (.int (if i < 0 then -i else i)) h
 | _ => .bad
def qB (x : D) (h : Hh) : R D := match x with
 | .int i => .ok (.int i) h
 | .bl k => .ok (.int (if k then 1 else 0)) h
 | .str a => match PySem.intText? a with
  | some n => if a.length <= 640 then .ok (.int n) h else .bad
  | none => .bad
 | _ => .bad
def cK (x : D) (h : Hh) : R D := match asL h x with
 | some ws => .ok (.tup ws) h
 | none => match asT x with
  | some _ => .ok x h
  | none => .bad
def wG (x : D) (h : Hh) : R D := match asL h x with
 | some ws => .ok (.tl ws) h
 | none => match asT x with
  | some ws => .ok (.tl ws) h
  | none => match x with
   | .str z => if z.cps.size <= sizeLine then .ok (.tl (z.cps.toList.map fun c => .str ⟨#[c]⟩)) h else .bad
   | _ => .bad
def toB : D -> Option Bool
 | .bl b => some b
 | _ => none
def uL (x : D) (h : Hh) : R D := match asL h x with
 | some ws => match aJ toB ws with
  | some bs => .ok (.bl (bs.all id)) h
  | none => .bad
 | none => .bad
def sK (x : D) (h : Hh) : R D := match asL h x with
 | some ws => match aJ toI ws with
  | some ns => .ok (.int ns.sum) h
  | none => .bad
 | none => .bad
def wU (x : D) (h : Hh) : R D := match toP h bJ x with
 | some d => if d.showable && decide (d.shown.length <= sizeLine) && SeqAt.shaped d then .ok (.str d.shown) h else .bad
 | none => .bad
def xW (x y : D) (h : Hh) : R D := match x, y with
 | .int i, .int j => .ok (.int (if j > i then j else i)) h
 | _, _ => .bad
def xX (x y : D) (h : Hh) : R D := match x, y with
 | .int i, .int j => .ok (.int (if j < i then j else i)) h
 | _, _ => .bad
/-- the built-in type of a value -/
def tyD (h : Hh) : D -> Option String
 | .non => some "NoneType"
 | .bl _ => some "bool"
 | .int _ => some "int"
 | .str _ => some "str"
 | .tup _ => some "tuple"
 | .kt _ => some "tuple"
 | .tl _ => some "list"
 | .fl _ => some "list"
 | .ref i => match h[i]? with
  | some (.lst _) => some "list"
  | some (.dK _) => some "dict"
  | some (.dT _) => some "dict"
  | _ => none
 | _ => none
def aCS (h : Hh) (x : D) (n : String) : Option Bool := match tyD h x with
 | some t => kitB t n
 | none => none
section
variable {g : Gx} {X : Cx} {Wx : WX}
theorem aIF (hK : X.K = g.K) : SC1 g X Wx (.builtin "len") cR := by
 intro x h σ H μ vx Q rh qx po
 unfold cR at po
 split at po
 ·rename_i ws ew
  obtain ⟨a, vs, rfl, s1, z⟩ := fK rh qx ew
  refine eG call_len_seq ⟨a, vs, rfl, .inl (by rw [hK]; exact s1), ?_⟩
  rw [z.length]
  exact po.at rh _ rfl (.of rfl)
 ·split at po
  ·rename_i ws ew
   obtain ⟨a, vs, rfl, s1, z⟩ := dC qx ew
   refine eG call_len_seq ⟨a, vs, rfl, .inr (by rw [hK]; exact s1), ?_⟩
   rw [z.length]
   exact po.at rh _ rfl (.of rfl)
  ·split at po
   ·split at po
    ·rename_i hl
     rw [show vx = .str _ from qx]
     exact eG call_len_str ⟨_, rfl, hl, po.at rh _ rfl (.of rfl)⟩
    ·exact po.elim
   ·rename_i i _ _
    obtain ⟨a, ea, rfl⟩ := qx
    split at po
    ·rename_i kvs e3
     obtain ⟨b, eb, vs, hb, z⟩ := rh.cell i _ e3
     rw [ea] at eb; cases eb
     refine eG call_lenD ⟨a, vs, rfl, hb, ?_⟩
     have el : vs.length = kvs.length := by
      clear po hb e3 ea
      induction kvs generalizing vs with
      | nil => rw [show vs = [] from z]; rfl
      | cons p kvs ih => obtain ⟨v, rr, rfl, _, _, zz⟩ := z; simp [ih rr zz]
     rw [el]
     exact po.at rh _ rfl (.of rfl)
    ·rename_i kvs e3
     obtain ⟨b, eb, vs, hb, z⟩ := rh.cell i _ e3
     rw [ea] at eb; cases eb
     refine eG call_len_dT ⟨a, vs, rfl, hb, ?_⟩
     have el : vs.length = kvs.length := by
      clear po hb e3 ea
      induction kvs generalizing vs with
      | nil => rw [show vs = [] from z]; rfl
      | cons p kvs ih => obtain ⟨v, rr, rfl, _, _, zz⟩ := z; simp [ih rr zz]
     rw [el]
     exact po.at rh _ rfl (.of rfl)
    ·exact po.elim
   ·exact po.elim
theorem aIA : SC1 g X Wx (.builtin "abs") uK := by
 intro x h σ H μ vx Q rh qx po
 unfold uK at po
 split at po
 ·rw [show vx = .int _ from qx]
  exact eG call_abs ⟨_, rfl, po.at rh _ rfl (.of rfl)⟩
 ·exact po.elim
theorem aIC : SC1 g X Wx (.type "int") qB := by
 intro x h σ H μ vx Q rh qx po
 unfold qB at po
 split at po
 ·rw [show vx = .int _ from qx]
  exact eG call_int1 (.inl ⟨_, rfl, po.at rh _ rfl (.of rfl)⟩)
 ·rw [show vx = .bl _ from qx]
  exact eG call_int1 (.inr ⟨_, rfl, po.at rh _ rfl (.of rfl)⟩)
 ·split at po
  ·rename_i n en
   split at po
   ·rename_i hl
    rw [show vx = .str _ from qx]
    exact eG call_int_str ⟨_, n, rfl, en, hl, po.at rh _ rfl (.of rfl)⟩
   ·exact po.elim
  ·exact po.elim
 ·exact po.elim
theorem aFB (hK : X.K = g.K) : SC1 g X Wx (.type "tuple") cK := by
 intro x h σ H μ vx Q rh qx po
 unfold cK at po
 split at po
 ·rename_i ws ew
  obtain ⟨a, vs, rfl, s1, z⟩ := fK rh qx ew
  exact eG call_tuple_of ⟨a, vs, rfl, .inl ⟨by rw [hK]; exact s1, fun p np => po μ _ (.new rh.trk np) (rh.new np) _ (.newT rh np z) (.of rfl)⟩⟩
 ·split at po
  ·rename_i ws ew
   obtain ⟨a, vs, e1, s1, z⟩ := dC qx ew
   subst e1
   exact eG call_tuple_of ⟨a, vs, rfl, .inr ⟨by rw [hK]; exact s1, po.at rh _ qx (.of (by cases x <;> first | rfl | cases ew))⟩⟩
  ·exact po.elim
theorem aEo {x : Str} {acc : Array Value} {g' : Gx} {μ : List Addr} {H : Hp} : RVs g' μ H (x.cps.toList.map fun c => D.str ⟨#[c]⟩) (x.cps.toList.map fun c => V.str ⟨#[c]⟩) := by
 generalize x.cps.toList = l
 induction l with
 | nil => rfl
 | cons c l ih => exact ⟨_, _, rfl, rfl, rfl, ih⟩
theorem zH (hc : X.calm = true) : CallR X (.type "list") (fun xs H Q => ∃ z : Str, xs = [.str z] /\ z.cps.size <= sizeLine /\ ∀ p, H p = none -> Q (.ref p) (upd H p (.lst (z.cps.toList.map fun c => .str ⟨#[c]⟩)))) := by
 intro pins s σ H xs us Q I r h
 obtain ⟨z, rfl, hz, q⟩ := h
 obtain ⟨u, rfl, t, rfl⟩ := vals1 r
 refine PySem.call_list_str (hn := hz) (I.ok.hd hc) z t fun h' tk acc c' hk e' hi => ?_
 refine ⟨.ref s.heap.objs.size, upd H s.heap.objs.size (.lst (z.cps.toList.map fun c => .str ⟨#[c]⟩)), I.laid hk (Nat.le_refl _) (show ObjOk X.prog X.w _ _ _ (.lst _) from ⟨?_, acc.toList, c', ?_, ?_⟩), rfl, q _ (I.hok.fresh (Nat.le_refl _))⟩
 ·rw [List.length_map]; simpa using hz
 ·obtain ⟨h1, h2⟩ := hi
  refine vals_of_at (by simp [h1]) fun j x u hx hu => ?_
  obtain ⟨c, t', ec, rfl⟩ := h2 j u (by simpa using hu)
  have hx' : (z.cps.toList[j]?).map (fun c => V.str ⟨#[c]⟩) = some x := by simpa using hx
  have ec' : z.cps.toList[j]? = some c := by simpa using ec
  rw [ec'] at hx'
  cases hx'
  exact ⟨t', rfl⟩
 ·rw [Array.toArray_toList]; exact e'
theorem aG1 (hK : X.K = g.K) (hc : X.calm = true) : SC1 g X Wx (.type "list") wG := by
 intro x h σ H μ vx Q rh qx po
 unfold wG at po
 have young : ∀ {ws : List D} {p : Addr}, H p = none -> Fr H (.tl ws) (.ref p) := fun np c ec => by cases ec; exact np
 split at po
 ·rename_i ws ew
  obtain ⟨a, vs, rfl, s1, z⟩ := fK rh qx ew
  exact eG call_list_of ⟨a, vs, rfl, .inl (by rw [hK]; exact s1), fun p np => po μ _ (.new rh.trk np) (rh.new np) _ (.newL rh np z) (young np)⟩
 ·split at po
  ·rename_i ws ew
   obtain ⟨a, vs, rfl, s1, z⟩ := dC qx ew
   exact eG call_list_of ⟨a, vs, rfl, .inr (by rw [hK]; exact s1), fun p np => po μ _ (.new rh.trk np) (rh.new np) _ (.newL rh np z) (young np)⟩
  ·split at po
   ·split at po
    ·rename_i z _ _ hz
     rw [show vx = .str _ from qx]
     exact eG (zH hc) ⟨z, rfl, hz, fun p np => po μ _ (.new rh.trk np) (rh.new np) _ (.newL rh np (aEo (acc := #[]))) (young np)⟩
    ·exact po.elim
   ·exact po.elim
theorem aEB {μ : List Addr} {H : Hp} : ∀ {ws : List D} {bs : List Bool} {vs : List V}, aJ toB ws = some bs -> RVs g μ H ws vs -> vs = bs.map V.bl
 | [], ks, vs, e, r => by
  unfold aJ at e; cases e
  exact r
 | w :: ws, ks, vs, e, r => by
  obtain ⟨v, rr, rfl, _, q, z⟩ := r
  unfold aJ at e
  split at e
  ·rename_i a b ea eb
   cases e
   unfold toB at ea
   split at ea
   ·cases ea
    rw [show v = .bl _ from q, aEB eb z]; rfl
   ·cases ea
  ·cases e
theorem aIB (hK : X.K = g.K) (hc : X.calm = true) : SC1 g X Wx (.builtin "all") uL := by
 intro x h σ H μ vx Q rh qx po
 unfold uL at po
 split at po
 ·rename_i ws ew
  obtain ⟨a, vs, rfl, s1, z⟩ := fK rh qx ew
  split at po
  ·rename_i bs eb
   rw [aEB eb z] at s1
   exact eG (cr_all hc) ⟨a, bs, rfl, by rw [hK]; exact s1, po.at rh _ rfl (.of rfl)⟩
  ·exact po.elim
 ·exact po.elim
theorem aII (hK : X.K = g.K) (hc : X.calm = true) : SC1 g X Wx (.builtin "sum") sK := by
 intro x h σ H μ vx Q rh qx po
 unfold sK at po
 split at po
 ·rename_i ws ew
  obtain ⟨a, vs, rfl, s1, z⟩ := fK rh qx ew
  split at po
  ·rename_i ns en
   rw [xB en z] at s1
   exact eG (cr_sum hc) ⟨a, ns, rfl, by rw [hK]; exact s1, po.at rh _ rfl (.of rfl)⟩
  ·exact po.elim
 ·exact po.elim
theorem aCF (hg : X.A.guards = some []) (hu : X.A.units + 65 < cLine) : CallR X (.builtin "repr") (fun xs H Q => ∃ v d, xs = [v] /\ Dp X.K H v d /\ SeqAt.shaped d = true /\ d.showable = true /\ d.shown.length <= sizeLine /\ Q (.str d.shown) H) := by
 intro pins s σ H xs us Q I r h
 obtain ⟨v, d, rfl, hd, sd, sh, hz, q⟩ := h
 obtain ⟨u, rfl, rv⟩ := vals1 r
 obtain ⟨as, rd⟩ := Dp.reads I d v u hd rv
 have dp := SeqAt.depth_of_shaped sd
 have nd : d.hasDict = false := PyData.hasDict_of_canLay d (SeqAt.canLay_of_shaped sd)
 cases hd with
 | non => cases rv; exact PySem.P.repr_of_none ⟨.str _, H, I.tok _, ⟨_, rfl⟩, q⟩
 | bl b => cases rv; exact PySem.P.repr_of_bool ⟨.str _, H, I.tok _, ⟨_, rfl⟩, q⟩
 | int i =>
  obtain ⟨t, rfl⟩ := rv
  exact PySem.P.repr_of_int (of_decide_eq_true sh) ⟨.str _, H, I.tok _, ⟨_, rfl⟩, q⟩
 | str x =>
  obtain ⟨t, rfl⟩ := rv
  exact PySem.P.repr_of_str (hsz := hz) ⟨.str _, H, I.tok _, ⟨_, rfl⟩, q⟩
 | lst hs ha =>
  cases rv
  exact repr_of_reads' rd sh (PyData.noDict_hsm nd) hg (by omega) (fun _ _ e => e) (fun h' u tk hk => ⟨.str _, H, I.kept (t' := tk) hk, ⟨_, rfl⟩, q⟩) hz
 | tup hs ha =>
  cases rv
  exact repr_of_reads' rd sh (PyData.noDict_hsm nd) hg (by omega) (fun _ _ e => e) (fun h' u tk hk => ⟨.str _, H, I.kept (t' := tk) hk, ⟨_, rfl⟩, q⟩) hz
theorem aG2 (hK : X.K = g.K) (hg : X.A.guards = some []) (hu : X.A.units + 65 < cLine) : SC1 g X Wx (.builtin "repr") wU := by
 intro x h σ H μ vx Q rh qx po
 unfold wU at po
 split at po
 ·rename_i d e
  split at po
  ·rename_i hs
   simp only [Bool.and_eq_true, decide_eq_true_eq] at hs
   obtain ⟨⟨h1, h2⟩, h3⟩ := hs
   exact eG (aCF hg hu) ⟨vx, d, rfl, by rw [hK]; exact eZ rh _ _ _ _ e qx, h3, h1, h2, po.at rh _ rfl (.of rfl)⟩
  ·exact po.elim
 ·exact po.elim
theorem aIG (hc : X.calm = true) : SC2 g X Wx (.builtin "max") xW := by
 intro x y h σ H μ vx vy Q rh qx qy po
 unfold xW at po
 split at po
 ·rw [show vx = .int _ from qx, show vy = .int _ from qy]
  exact eG (call_max2 hc) ⟨_, _, rfl, po.at rh _ rfl (.of rfl)⟩
 ·exact po.elim
theorem aIH (hc : X.calm = true) : SC2 g X Wx (.builtin "min") xX := by
 intro x y h σ H μ vx vy Q rh qx qy po
 unfold xX at po
 split at po
 ·rw [show vx = .int _ from qx, show vy = .int _ from qy]
  exact eG (call_min2 hc) ⟨_, _, rfl, po.at rh _ rfl (.of rfl)⟩
 ·exact po.elim
theorem aED {h : Hh} {μ : List Addr} {H : Hp} {x : D} {vx : V} {t : String} (rh : RH g μ h H) (qx : RV g μ H x vx) (e : tyD h x = some t) : TyX g.K H vx (.type t) := by
 unfold tyD at e
 split at e
 ·cases e; rw [show vx = _ from qx]; exact .base .non
 ·cases e; rw [show vx = _ from qx]; exact .base (.bl _)
 ·cases e; rw [show vx = _ from qx]; exact .base (.int _)
 ·cases e; rw [show vx = _ from qx]; exact .base (.str _)
 ·cases e; obtain ⟨a, vs, rfl, q, _⟩ := qx; exact .base (.tup q)
 ·cases e
  obtain ⟨a, vs, rfl, q, _⟩ := qx
  rcases q with (q | ⟨o, q⟩) | ⟨o, its, n, q, c, _⟩
  ·exact .base (.tup q)
  ·exact .fTuple q
  ·exact .kTuple q c
 ·cases e; obtain ⟨a, vs, rfl, q, _⟩ := qx; exact .base (.lst q)
 ·cases e
  obtain ⟨a, vs, rfl, q, _⟩ := qx
  rcases q with ⟨o, q⟩ | ⟨o, its, n, q, c, _⟩
  ·exact .base (.frz q)
  ·exact .kList q c
 ·rename_i i
  obtain ⟨a, ea, rfl⟩ := qx
  split at e
  ·rename_i ws e3
   cases e
   obtain ⟨b, eb, vs, hb, z⟩ := rh.cell i _ e3
   rw [ea] at eb; cases eb
   exact .base (.lst hb)
  ·rename_i ws e3
   cases e
   obtain ⟨b, eb, vs, hb, z⟩ := rh.cell i _ e3
   rw [ea] at eb; cases eb
   exact .base (.dK hb)
  ·rename_i ws e3
   cases e
   obtain ⟨b, eb, vs, hb, z⟩ := rh.cell i _ e3
   rw [ea] at eb; cases eb
   exact .base (.dT hb)
  ·cases e
 ·cases e
end
end PV
end
section
namespace PV
open PySem PySem.Spec PyProof.Rows L2
/-- evaluate, then keep -/
def mSt (m : M D) : M D := fun σ h => (m σ h).bind fun w h1 => .ok (aT w h1).1 (aT w h1).2
theorem aKm {g : Gx} {X : Cx} {Wx : WX} {e : Expr} {m : M D} (he : SE g X Wx e m) : SE g X Wx e (mSt m) := by
 intro σw h σ H μ Q rs rh po
 refine he σw h σ H μ Q rs rh (po.bind2.imp fun w h1 μ1 H1 x1 r1 p1 v qv fv => ?_)
 obtain ⟨μ1', x1', r1', q1', _⟩ := iP r1 qv fv x1
 exact (p1 μ1' H1 x1').at r1' v q1' (.of eY)
def aCY (X : Cx) (id : String) : V -> List V -> Hp -> VK -> Prop := fun x xs H Q => ∀ pins s σ v us, Inv X pins σ H s -> RelV x v -> Vals xs us -> wpAny (model X.prog X.w) X.A (call (.builtin id) (v :: us)) (EP X pins σ Q) X.xe s
theorem aAc {X : Cx} {id : String} : MtR X id (aCY X id) := fun pins s σ H x xs v us Q I rx rs h => h pins s σ v us I rx rs
theorem aFb {X : Cx} {id : String} {r : V -> List V -> Hp -> VK -> Prop} (p : MtR X id r) {x : V} {xs : List V} {H : Hp} {Q : VK} (h : r x xs H Q) : aCY X id x xs H Q := fun pins s σ v us I rx rs => p pins s σ H x xs v us Q I rx rs h
/-- the type whose methods are looked up -/
def tyM (h : Hh) : D -> Option String
 | .str _ => some "str"
 | .tl _ => some "list"
 | .fl _ => some "list"
 | .ref i => match h[i]? with
  | some (.lst _) => some "list"
  | some (.dK _) => some "dict"
  | some (.dT _) => some "dict"
  | _ => none
 | _ => none
theorem aEE {g : Gx} {h : Hh} {μ : List Addr} {H : Hp} {x : D} {vx : V} {t : String} (rh : RH g μ h H) (qx : RV g μ H x vx) (e : tyM h x = some t) : tyV g.K t vx H := by
 unfold tyM at e
 split at e
 ·cases e; rw [show vx = .str _ from qx]; rfl
 ·cases e; obtain ⟨a, vs, rfl, q, _⟩ := qx; exact .inl ⟨rfl, vs, .of q⟩
 ·cases e; obtain ⟨a, vs, rfl, q, _⟩ := qx; exact .inl ⟨rfl, vs, q.sq⟩
 ·rename_i i
  obtain ⟨a, ea, rfl⟩ := qx
  split at e
  ·rename_i ws e3
   cases e
   obtain ⟨b, eb, vs, hb, z⟩ := rh.cell i _ e3
   rw [ea] at eb; cases eb
   exact .inl ⟨rfl, vs, .of hb⟩
  ·rename_i ws e3
   cases e
   obtain ⟨b, eb, vs, hb, z⟩ := rh.cell i _ e3
   rw [ea] at eb; cases eb
   exact .inr (.inr (.inl ⟨rfl, .inl ⟨vs, hb⟩⟩))
  ·rename_i ws e3
   cases e
   obtain ⟨b, eb, vs, hb, z⟩ := rh.cell i _ e3
   rw [ea] at eb; cases eb
   exact .inr (.inr (.inl ⟨rfl, .inr ⟨vs, hb⟩⟩))
  ·cases e
 ·cases e
/-- what the library knows of a method -/
structure MtF (T : String) (name : Str) (id : String) : Prop where
 pa : PlainAttrs T
 slot : Slot T name id
 ty : typeOf (.builtin id) = pure (.type "method_descriptor")
abbrev Op0 := D -> Hh -> R D
abbrev Op1 := D -> D -> Hh -> R D
abbrev Op2 := D -> D -> D -> Hh -> R D
def mM0 (f : String -> Option Op0) (o : M D) : M D := fun σ h => (o σ h).bind fun x h1 => match tyM h1 x with
 | some T => match f T with
  | some op => op x h1
  | none => .bad
 | none => .bad
def mM1 (f : String -> Option Op1) (o a : M D) : M D := fun σ h => (o σ h).bind fun x h1 => match tyM h1 x with
 | some T => match f T with
  | some op => (a σ h1).bind fun y h2 => op x y h2
  | none => .bad
 | none => .bad
def mM2 (f : String -> Option Op2) (o a b : M D) : M D := fun σ h => (o σ h).bind fun x h1 => match tyM h1 x with
 | some T => match f T with
  | some op => (a σ h1).bind fun y h2 => (b σ h2).bind fun z h3 => op x y z h3
  | none => .bad
 | none => .bad
section
variable (g : Gx) (X : Cx) (Wx : WX) (id : String)
def SM1 (op : Op1) : Prop := ∀ (x y : D) (h : Hh) (σ : L2.St) (H : Hp) (μ : List Addr) (vx vy : V) (Q : VK), RH g μ h H -> RV g μ H x vx -> RV g μ H y vy ->
 Po g Wx σ μ H (op x y h) (fun w h' μ' H' => ∀ v, RV g μ' H' w v -> Fr H w v -> Q v H') -> aCY X id vx [vy] H Q
def SM2 (op : Op2) : Prop := ∀ (x y z : D) (h : Hh) (σ : L2.St) (H : Hp) (μ : List Addr) (vx vy vz : V) (Q : VK), RH g μ h H -> RV g μ H x vx -> RV g μ H y vy -> RV g μ H z vz ->
 Po g Wx σ μ H (op x y z h) (fun w h' μ' H' => ∀ v, RV g μ' H' w v -> Fr H w v -> Q v H') -> aCY X id vx [vy, vz] H Q
end
section
variable {g : Gx} {X : Cx} {Wx : WX} {o a b : Expr} {mo ma mb : M D} {name : Str} {apos cpos : Pos} {T0 id0 : String}
theorem aKj {f : String -> Option Op1} (hK : X.K = g.K) (F0 : MtF T0 name id0) (hf : ∀ T op, f T = some op -> ∃ id, MtF T name id /\ SM1 g X Wx id op)
  (hbase : attributeBase o name X.env (eval o X.env) = eval o X.env) (hline : (apos.endLine == cpos.line) = true) (hs : starEach [a] X.env = [(false, eval a X.env)])
  (ho : SE g X Wx o mo) (ha : SE g X Wx a ma) : SE g X Wx (.Call (.Attribute o name apos) [a] [] cpos) (mM1 f mo ma) := by
 intro σw h σ H μ Q rs rh po
 have hfew : ((backTo cpos (starEach [a] X.env)).all (fun x => !x.1) && (backToKw cpos (keywordEach [] X.env)).all (fun x => x.1.isSome)
   && decide ([a].length + ([] : List Keyword).length + (if ([] : List Keyword).isEmpty then 0 else 1) < 30)) = true := by rw [hs]; rfl
 unfold mM1 at po
 cases hx : mo σw h with
 | bad => rw [hx] at po; exact po.elim
 | exc c fs h1 =>
  rw [hx] at po
  refine fG (pe_bm F0.pa F0.slot F0.ty aAc bB (pa_cons bB pa_nil hs) hbase hfew hline hs rfl) (ho σw h σ H μ _ rs rh ?_)
  rw [hx]
  exact po
 | ok x h1 =>
  rw [hx] at po
  rw [R.bind_ok] at po
  split at po
  ·rename_i T eT
   split at po
   ·rename_i op ef
    obtain ⟨id, F, sm⟩ := hf T op ef
    refine fG (pe_bm F.pa F.slot F.ty aAc bB (pa_cons bB pa_nil hs) hbase hfew hline hs rfl) (ho σw h σ H μ _ rs rh ?_)
    rw [hx]
    intro μ1 H1 x1 r1 vx qx fx
    refine ⟨by rw [hK]; exact aEE r1 qx eT, ?_⟩
    refine ha σw h1 σ H1 μ1 _ (rs.ext rh.trk x1) r1 ((po.ext x1).bind.imp fun y h2 μ2 H2 x2 r2 p2 vy qy fy => ?_)
    exact sm x y h2 σ H2 μ2 vx vy Q r2 (qx.ext r1.trk x2) qy (p2.imp fun w h3 μ3 H3 x3 r3 q3 v qv fv => q3 v qv (fv.back (x1.trans x2)))
   ·exact po.elim
  ·exact po.elim
theorem aKk {f : String -> Option Op2} (hK : X.K = g.K) (F0 : MtF T0 name id0) (hf : ∀ T op, f T = some op -> ∃ id, MtF T name id /\ SM2 g X Wx id op)
  (hbase : attributeBase o name X.env (eval o X.env) = eval o X.env) (hline : (apos.endLine == cpos.line) = true) (hs : starEach [a, b] X.env = [(false, eval a X.env), (false, eval b X.env)]) (hs2 : starEach [b] X.env = [(false, eval b X.env)])
  (ho : SE g X Wx o mo) (ha : SE g X Wx a ma) (hb : SE g X Wx b mb) : SE g X Wx (.Call (.Attribute o name apos) [a, b] [] cpos) (mM2 f mo ma mb) := by
 intro σw h σ H μ Q rs rh po
 have hfew : ((backTo cpos (starEach [a, b] X.env)).all (fun x => !x.1) && (backToKw cpos (keywordEach [] X.env)).all (fun x => x.1.isSome)
   && decide ([a, b].length + ([] : List Keyword).length + (if ([] : List Keyword).isEmpty then 0 else 1) < 30)) = true := by rw [hs]; rfl
 have pa := pa_cons (X := X) (e := a) (es := [b]) bB (pa_cons bB pa_nil hs2) (by rw [hs, hs2])
 unfold mM2 at po
 cases hx : mo σw h with
 | bad => rw [hx] at po; exact po.elim
 | exc c fs h1 =>
  rw [hx] at po
  refine fG (pe_bm F0.pa F0.slot F0.ty aAc bB pa hbase hfew hline (by rw [hs, hs2]) (by rw [hs2]; rfl)) (ho σw h σ H μ _ rs rh ?_)
  rw [hx]
  exact po
 | ok x h1 =>
  rw [hx] at po
  rw [R.bind_ok] at po
  split at po
  ·rename_i T eT
   split at po
   ·rename_i op ef
    obtain ⟨id, F, sm⟩ := hf T op ef
    refine fG (pe_bm F.pa F.slot F.ty aAc bB pa hbase hfew hline (by rw [hs, hs2]) (by rw [hs2]; rfl)) (ho σw h σ H μ _ rs rh ?_)
    rw [hx]
    intro μ1 H1 x1 r1 vx qx fx
    refine ⟨by rw [hK]; exact aEE r1 qx eT, ?_⟩
    refine ha σw h1 σ H1 μ1 _ (rs.ext rh.trk x1) r1 ((po.ext x1).bind.imp fun y h2 μ2 H2 x2 r2 p2 vy qy fy => ?_)
    refine hb σw h2 σ H2 μ2 _ (rs.ext rh.trk (x1.trans x2)) r2 (p2.bind.imp fun z h3 μ3 H3 x3 r3 p3 vz qz fz => ?_)
    exact sm x y z h3 σ H3 μ3 vx vy vz Q r3 ((qx.ext r1.trk x2).ext r2.trk x3) (qy.ext r2.trk x3) qz (p3.imp fun w h4 μ4 H4 x4 r4 q4 v qv fv => q4 v qv (fv.back ((x1.trans x2).trans x3)))
   ·exact po.elim
  ·exact po.elim
end
/-- the tracked list at i -/
def eC (h : Hh) : D -> Option (Nat × List D)
 | .ref i => match h[i]? with
  | some (.lst ws) => some (i, ws)
  | _ => none
 | _ => none
def gG : Op1 := fun x y h => match eC h x with
 | some (i, ws) => if ws.length < sizeLine /\ y.isTl = false then .ok .non (h.set i (.lst (ws ++ [y]))) else .bad
 | none => .bad
def jQ : Op1 := fun x y h => match eC h x with
 | some (i, ws) => match asM h y with
  | some zs => if ws.length + zs.length <= sizeLine then .ok .non (h.set i (.lst (ws ++ zs))) else .bad
  | none => .bad
 | none => .bad
def kP : Op1 := fun x y h => match eC h x with
 | some (i, ws) => match y with
  | .int n => if -(2 ^ 63) <= n /\ n < 2 ^ 63 then match seqIndex? n ws.length with
    | some k => match ws[k]? with
     | some z => .ok z (h.set i (.lst (ws.eraseIdx k)))
     | none => .bad
    | none => .bad
   else .bad
  | _ => .bad
 | none => .bad
def toS : D -> Option Str
 | .str x => some x
 | _ => none
section
variable {g : Gx} {X : Cx} {Wx : WX} {μ : List Addr} {h : Hh} {H : Hp}
theorem qI {x : D} {vx : V} {i : Nat} {ws : List D} (rh : RH g μ h H) (qx : RV g μ H x vx) (e : eC h x = some (i, ws)) : ∃ a vs, vx = .ref a /\ μ[i]? = some a /\ H a = some (.lst vs) /\ RVs g μ H ws vs := by
 unfold eC at e
 split at e
 ·rename_i j
  obtain ⟨a, ea, rfl⟩ := qx
  split at e
  ·rename_i ws' e3
   cases e
   obtain ⟨b, eb, vs, hb, z⟩ := rh.cell _ _ e3
   rw [ea] at eb; cases eb
   exact ⟨a, vs, rfl, ea, hb, z⟩
  ·cases e
 ·cases e
theorem wrL {a : Addr} {i : Nat} {ws : List D} {vs : List V} (rh : RH g μ h H) (ea : μ[i]? = some a) (z : RVs g μ H ws vs) : Ext μ H μ (upd H a (.lst vs)) /\ RH g μ (h.set i (.lst ws)) (upd H a (.lst vs)) :=
 ⟨.wr rh.trk ea rfl, rh.wr ea rfl ⟨vs, upd_same, z.ext rh.trk (.wr rh.trk ea rfl)⟩⟩
theorem uZ {α β : Type} {f : α -> Option β} : ∀ {l : List α} {r : List β}, aJ f l = some r -> r.length = l.length
 | [], r, e => by unfold aJ at e; cases e; rfl
 | x :: xs, r, e => by
  unfold aJ at e
  split at e
  ·rename_i a b ea eb
   cases e
   simp [uZ eb]
  ·cases e
theorem aEr : SM1 g X Wx "list.append" gG := by
 intro x y h σ H μ vx vy Q rh qx qy po
 unfold gG at po
 split at po
 ·rename_i i ws e
  split at po
  ·rename_i hl
   obtain ⟨a, vs, rfl, ea, ha, z⟩ := qI rh qx e
   have z2 : RVs g μ H (ws ++ [y]) (vs ++ [vy]) := z.append ⟨vy, [], rfl, hl.2, qy, rfl⟩
   obtain ⟨x1, r1⟩ := wrL rh ea z2
   exact aFb mt_append ⟨a, vs, vy, rfl, rfl, ha, by rw [z.length]; exact hl.1, po μ _ x1 r1 _ rfl (.of rfl)⟩
  ·exact po.elim
 ·exact po.elim
theorem aEs : SM1 g X Wx "list.extend" jQ := by
 intro x y h σ H μ vx vy Q rh qx qy po
 unfold jQ at po
 split at po
 ·rename_i i ws e
  split at po
  ·rename_i zs ez
   split at po
   ·rename_i hl
    obtain ⟨a, vs, rfl, ea, ha, z⟩ := qI rh qx e
    obtain ⟨b, us, rfl, hb, zb⟩ := rH rh qy ez
    obtain ⟨x1, r1⟩ := wrL rh ea (z.append zb)
    exact aFb mt_extend ⟨a, b, vs, us, rfl, rfl, ha, hb, by rw [z.length, zb.length]; exact hl, po μ _ x1 r1 _ rfl (.of rfl)⟩
   ·exact po.elim
  ·exact po.elim
 ·exact po.elim
theorem RVs.dropLast {ws : List D} {vs : List V} (r : RVs g μ H ws vs) : RVs g μ H ws.dropLast vs.dropLast := by
 rw [List.dropLast_eq_take, List.dropLast_eq_take, r.length]
 exact r.take _
theorem RVs.eraseIdx {ws : List D} {vs : List V} (r : RVs g μ H ws vs) (k : Nat) : RVs g μ H (ws.eraseIdx k) (vs.eraseIdx k) := by
 rw [List.eraseIdx_eq_take_drop_succ, List.eraseIdx_eq_take_drop_succ]
 exact (r.take _).append (r.drop _)
theorem aFF : SM1 g X Wx "list.pop" kP := by
 intro x y h σ H μ vx vy Q rh qx qy po
 unfold kP at po
 split at po
 ·rename_i i ws e
  split at po
  ·rename_i n
   split at po
   ·rename_i hn
    split at po
    ·rename_i k ek
     split at po
     ·rename_i w ew
      obtain ⟨a, vs, rfl, ea, ha, z⟩ := qI rh qx e
      obtain ⟨v, ev, nt, qv⟩ := z.get ew
      obtain ⟨x1, r1⟩ := wrL rh ea (z.eraseIdx k)
      rw [show vy = .int n from qy]
      exact aFb mt_popAt ⟨a, vs, n, k, v, rfl, rfl, ha, hn.1, hn.2, by rw [z.length]; exact ek, ev, po μ _ x1 r1 _ (qv.ext rh.trk x1) (.of nt)⟩
     ·exact po.elim
    ·exact po.elim
   ·exact po.elim
  ·exact po.elim
 ·exact po.elim
theorem RVs.strs (ys : List Str) : RVs g μ H (ys.map D.str) (ys.map V.str) := by
 induction ys with
 | nil => rfl
 | cons y ys ih => exact ⟨_, _, rfl, rfl, rfl, ih⟩
end
end PV
end
section
namespace PySem
open Sem (wp)
open AutoSeq1 (wpAny_loadPart')
theorem pv_meets_enumerate_newT (l : Addr) (items : Array Value) (n : Nat) (dct : Option Addr) (sl : Array (Option Value)) :
  Meets (Builtin.«enumerate.__new__» ⟨[.type "enumerate", .ref l], []⟩) (fun _ R s => s.heap.get? l = some { cls := .type "tuple", dict := dct, data := .seq items n, slots := sl } /\
   R (.ok (.ret (.ref (s.heap.push { cls := .type "tuple_iterator", data := .fields #[.ref l, .int 0 0] }).objs.size)))
    { s with heap := (s.heap.push { cls := .type "tuple_iterator", data := .fields #[.ref l, .int 0 0] }).push { cls := .type "enumerate", data := .fields #[.none, .bool false, .ref s.heap.objs.size, rawInt 0, .none, .none] } }) :=
 .of_wp fun prog w A R s h => by
  obtain ⟨hp, g, d, tk, os⟩ := s; obtain ⟨hl, h⟩ := h
  have hsub := sub_enumerate
  have hL : Heap.IsTuple (Shared.heap ⟨hp, g, d, tk, os⟩) l items := ⟨_, hl, rfl, n, rfl⟩
  wp_walk using wpAny_loadPart' hl
  refine wpAny_stack_any fun st => wpAny_pure ?_
  split
  ·rename_i c _ _ _ _ _
   cases (c == Value.type "enumerate")
   ·wp_walk using wpAny_loadPart' hl, wpAny_pyIter_tuple hL
    exact ⟨_, rfl, h⟩
   ·wp_walk using wpAny_loadPart' hl, wpAny_pyIter_tuple hL
    exact ⟨_, rfl, h⟩
  ·wp_walk using wpAny_loadPart' hl, wpAny_pyIter_tuple hL
   exact ⟨_, rfl, h⟩
theorem pv_call_enumerate_tuple {prog : Program} {w : World} {A : Around} {E : Value -> Shared -> Prop} {s : Shared} {l : Addr} {items : Array Value} {Q : Value -> Shared -> Prop} (hL : s.heap.IsTuple l items)
  (h : ∀ h', IsEnum h' (s.heap.objs.size + 1) s.heap.objs.size 0 .none -> h'.IsTupleIter s.heap.objs.size l 0 -> h'.objs.size = s.heap.objs.size + 2 ->
   (∀ b o, s.heap.get? b = some o -> h'.get? b = some o) -> Q (.ref (s.heap.objs.size + 1)) { s with heap := h' }) :
  wpAny (model prog w) A (call (.type "enumerate") [.ref l]) Q E s := by
 obtain ⟨⟨c, dct, dt, sl⟩, hl, hc, n, hd⟩ := hL
 replace hc : c = .type "tuple" := hc
 replace hd : dt = .seq items n := hd
 subst hc hd
 refine callType_new F.called_enumerate (by decide) (F.typeCall_enumerate_1 _) (F.newCall_enumerate_1 _) (fun obj => F.args_object_init_2 obj _) F.entry_enumerate_new
  (pv_meets_enumerate_newT l items n dct sl) ⟨hl, ?_⟩
 have hz : (s.heap.push { cls := .type "tuple_iterator", data := .fields #[.ref l, .int 0 0] }).objs.size = s.heap.objs.size + 1 := Heap.size_push ..
 show _ /\ _
 rw [hz]
 have he : IsEnum ((s.heap.push { cls := .type "tuple_iterator", data := .fields #[.ref l, .int 0 0] }).push
   { cls := .type "enumerate", data := .fields #[.none, .bool false, .ref s.heap.objs.size, rawInt 0, .none, .none] }) (s.heap.objs.size + 1) s.heap.objs.size 0 .none := by
  have := Heap.get?_push_size (s.heap.push { cls := .type "tuple_iterator", data := .fields #[.ref l, .int 0 0] })
   (o := { cls := .type "enumerate", data := .fields #[.none, .bool false, .ref s.heap.objs.size, rawInt 0, .none, .none] }) rfl
  rw [hz] at this; exact this
 refine ⟨⟨_, he, rfl⟩, h _ he ⟨_, Heap.get?_push_of_some _ (Heap.get?_push_size _ rfl), rfl, rfl⟩ (by rw [Heap.size_push, hz]) fun b o x => Heap.get?_push_of_some _ (Heap.get?_push_of_some _ x)⟩
end PySem
namespace PV
open PySem PySem.Spec PyProof.Rows L2
/-- the tuple at a, each item in a new pair -/
def aEG (K : PySem.W.Frag) (a : Addr) : It :=
 ⟨fun i H => ∃ (xs : List V) (x : V), SqT K H a xs /\ xs[i]? = some x, fun i H v H' => ∃ T x, v = .ref T /\ H T = none /\ H' = upd H T (.tup [.int (i : Nat), x]) /\ ∀ xs, SqT K H a xs -> xs[i]? = some x, fun i H => ∃ xs : List V, SqT K H a xs /\ xs.length <= i⟩
theorem aDs {P : Program} {w : World} {K : PySem.W.Frag} {elts : List Expr} {kk : Nat} {tpos : Pos} (a e it : Addr) (items : Array Value) :
  Turn P w K (.Tuple elts kk tpos) (aEG K a) [e, it] e (fun i h => (∃ old, IsEnum h e it ((i : Nat) : Int) old) /\ h.IsTupleIter it a i /\ e ≠ it) where
 mem := by simp
 obj := fun i h st b hb => by
  obtain ⟨⟨old, he⟩, ⟨o, ho, hc, hd⟩, _⟩ := st
  have e' : b = e \/ b = it := by simpa using hb
  rcases e' with z | z
  ·rw [z]; exact ⟨_, he, fun v q => nomatch q⟩
  ·rw [z]; exact ⟨o, ho, fun v q => by rw [hd] at q; cases q⟩
 keep := fun i h h' st k => let ⟨⟨old, he⟩, hi, hne⟩ := st; ⟨⟨old, k e (by simp) _ he⟩, hi.at fun o q => k it (by simp) o q, hne⟩
 item := by
  intro X hP hw hK hc i pins s σ H E I hf st hg
  subst hP hw hK
  obtain ⟨⟨old, he⟩, hit, hne⟩ := st
  obtain ⟨xs, x, hq, hx⟩ := hg
  obtain ⟨its, rv, p, hz⟩ := I.tuple hq
  obtain ⟨u, hu, ru⟩ := rv.get hx
  have hel : e < s.heap.objs.size := Heap.lt_size he
  have hil : it < s.heap.objs.size := by obtain ⟨_, q, _⟩ := hit; exact Heap.lt_size q
  have pt : s.heap.IsTuple a its.toArray := p
  have nt : a ≠ it := fun z => by
   obtain ⟨o, e1, c1, _⟩ := pt
   obtain ⟨o2, e2, c2, _⟩ := hit
   rw [z] at e1
   rw [e1] at e2; cases e2
   rw [c1] at c2
   exact absurd (Value.type.inj c2) (by decide)
  have ne : a ≠ e := fun z => by
   obtain ⟨o, e1, c1, _⟩ := pt
   rw [z] at e1
   have he2 : s.heap.get? e = some _ := he
   rw [he2] at e1; cases e1
   exact absurd (Value.type.inj c1) (by decide)
  have hlt : i < its.toArray.size := by
   have := (List.getElem?_eq_some_iff.mp hu).1
   simpa using this
  refine wpAny_pyNext_enum_itemD (Draws.tuple (prog := X.prog) (w := X.w) (A := X.A.in1) (I.ok.hd hc) it a nt its.toArray) he ⟨hit, pt⟩ hlt hne (by simp [hne, Ne.symm ne]) fun u' h' tk hu' ho hst hT hsz hk => ?_
  have eu : u' = u := by
   have z : its.toArray[i]? = some u := by simpa using hu
   rw [hu'] at z; exact Option.some.inj z
  subst eu
  refine ⟨_, rfl, wpAny_letOwnedTupleGo_enum (s := { s with heap := h', toks := tk + 1 }) ho fun h'' he' sb => ?_⟩
  have hT2 : h''.get? s.heap.objs.size = some { cls := .type "tuple", data := .seq #[.int i tk, u'] } := (sb.2 _ (Nat.ne_of_gt hel)).trans hT
  have new : ObjOk X.prog X.w (upd H s.heap.objs.size (.tup [.int (i : Nat), x])) h'' s.heap.objs.size (.tup [.int (i : Nat), x]) :=
   ⟨by show 2 <= sizeLine; decide, [.int i tk, u'], .cons ⟨_, rfl⟩ (.cons ru .nil), ⟨_, hT2, rfl, _, rfl⟩⟩
  have I1 : Inv X pins σ (upd H s.heap.objs.size (.tup [.int (i : Nat), x])) { s with heap := h'', toks := tk + 1 } :=
   I.turnedNew (ch := [e, it]) (fun b ob hb q => (sb.2 b (fun z => hb (by simp [z]))).trans (hk b ob (fun z => hb (by simp [z])) (fun z => hb (by simp [z])) q)) hf (Nat.le_refl _) new
  refine ⟨.ref s.heap.objs.size, _, I1, rfl, ⟨_, x, rfl, I.hok.fresh (Nat.le_refl _), rfl, fun ys hy => by rw [I.tuple_inj hy hq]; exact hx⟩, ⟨⟨u', ?_⟩, hst.1.at fun o q => (sb.2 it (Ne.symm hne)).trans q, hne⟩, fun b hb => ?_⟩
  ·have e1 : ((i + 1 : Nat) : Int) = (i : Int) + 1 := by omega
   rw [e1]; exact he'
  ·have hb' : b < s.heap.objs.size := by
    have e' : b = e \/ b = it := by simpa using hb
    rcases e' with z | z
    ·rw [z]; exact hel
    ·rw [z]; exact hil
   rw [upd_ne (Nat.ne_of_lt hb')]
   exact (hf b hb).1
 done := by
  intro X hP hw hK hc i pins s σ H E I hf st hg
  subst hP hw hK
  obtain ⟨⟨old, he⟩, hit, hne⟩ := st
  obtain ⟨xs, hq, hx⟩ := hg
  obtain ⟨its, rv, p, hz⟩ := I.tuple hq
  obtain ⟨f0, f1, f2, f3, f4, f5⟩ := hf it (by simp)
  have hl := rv.length
  have pt : s.heap.IsTuple a its.toArray := p
  have hT : s.TypeIs (.ref e) "enumerate" := ⟨_, he, rfl⟩
  unfold pyNext
  refine wpAny_bind (wpAny_attempt (wpAny_callSpecial?_slot (name := Str.ofString "__next__") hT F.slot_enumerate_next
   (wpAny_call_entry F.slot_enumerate_next hT F.entry_enumerate_next ?_ (F.args_enumerate_next_1 _))))
  show wpAny _ _ (field (.ref e) 2 >>= _) _ _ _
  refine wpAny_bind (wpAny_field he rfl (x := .ref it) rfl ?_)
  refine wpAny_bind (wpAny_nextOf_tuple_end (A := X.A.in1) (I.ok.hd hc) hit pt (by simp; omega) fun h' x he' hx' => ?_)
  obtain ⟨o, ho, hc'⟩ := hx'
  refine wpAny_bind (wpAny_isInstance (T := "StopIteration") (b := true) ⟨o, ho, hc'⟩ isSubtype_stop ?_)
  exact wpAny_pure ⟨rfl, I.turned (t' := s.toks) (fun b o hb q => he' b o hb q) f0 f1 f3 f4 f5⟩
 self := fun A i s Q E st h => let ⟨⟨_, he⟩, _⟩ := st; wpAny_pyIter_enum he h
def aHS (K : PySem.W.Frag) (ta : TA) : TI := fun σ H R => ta σ H fun vs H1 => ∃ a xs, vs = [.ref a] /\ SqT K H1 a xs /\ R (aEG K a) H1
theorem aFj {X : Cx} {e : Expr} {ta : TA} {p pos tpos : Pos} {elts : List Expr} {kk : Nat} (hg : Gl X "enumerate") (hm : X.mg "enumerate" = none) (ha : PA X [e] ta) (hs : starEach [e] X.env = [(false, eval e X.env)]) :
  PI X (.Tuple elts kk tpos) (.Call (.Name "enumerate" p) [e] [] pos) (aHS X.K ta) := by
 refine ⟨fun pins s σ H R I h => ?_⟩
 refine Call_ (ld_blt I hg hm boot_enumerate (PyProof.Rows.callWith_type1 (thn (ha.run pos pins s σ H _ I h) fun us s1 ⟨vs, H1, I1, r1, q1⟩ => ?_) hs rfl))
 obtain ⟨a, xs, ex, hq, q⟩ := q1
 subst ex
 cases r1 with
 | cons r rr =>
  cases rr
  cases r
  obtain ⟨its, rv, p', hz⟩ := I1.tuple hq
  refine pv_call_enumerate_tuple (show s1.heap.IsTuple a its.toArray from p') fun h' he hit hsz hk => wpAny_pyIter_enum he ?_
  have I2 : Inv X pins σ H1 { s1 with heap := h' } := I1.kept (t' := s1.toks) hk
  refine ⟨s1.heap.objs.size + 1, [s1.heap.objs.size + 1, s1.heap.objs.size], _, _, H1, rfl, I2, aDs a (s1.heap.objs.size + 1) s1.heap.objs.size its.toArray, ⟨⟨.none, he⟩, hit, Nat.succ_ne_self _⟩, fun b hb => ?_, q⟩
  have e' : b = s1.heap.objs.size + 1 \/ b = s1.heap.objs.size := by simpa using hb
  have hle : s1.heap.objs.size <= b := by
   rcases e' with z | z
   ·rw [z]; exact Nat.le_add_right _ _
   ·rw [z]; exact Nat.le_refl _
  exact I1.fpOk hle (I1.hok.fresh hle)
end PV
end
section
namespace PV
open PySem PySem.Spec PyProof.Rows L2
inductive RT where
 | nx (σ : Sg) (h : Hh) | ret (w : D) (h : Hh) | brk (σ : Sg) (h : Hh) | cont (σ : Sg) (h : Hh)
 | exc (c : Nat) (fs : List (Str × D)) (σ : Sg) (h : Hh) | bad
 deriving Inhabited
abbrev MS := Sg -> Hh -> RT
/-- an expression's result, then a statement's -/
def R.then {α : Type} (r : R α) (σ : Sg) (f : α -> Hh -> RT) : RT := match r with
 | .ok a h => f a h
 | .exc c fs h => .exc c fs σ h
 | .bad => .bad
def RT.seq (r : RT) (f : Sg -> Hh -> RT) : RT := match r with
 | .nx σ h => f σ h
 | r => r
@[simp] theorem R.then_ok {α : Type} (a : α) (h : Hh) (σ : Sg) (f : α -> Hh -> RT) : (R.ok a h).then σ f = f a h := id rfl
@[simp] theorem R.then_exc {α : Type} (c : Nat) (fs : List (Str × D)) (h : Hh) (σ : Sg) (f : α -> Hh -> RT) : (R.exc c fs h : R α).then σ f = .exc c fs σ h := id rfl
@[simp] theorem R.then_bad {α : Type} (σ : Sg) (f : α -> Hh -> RT) : (R.bad : R α).then σ f = .bad := id rfl
@[simp] theorem RT.seq_nx (σ : Sg) (h : Hh) (f : Sg -> Hh -> RT) : (RT.nx σ h).seq f = f σ h := id rfl
@[simp] theorem RT.seq_ret (w : D) (h : Hh) (f : Sg -> Hh -> RT) : (RT.ret w h).seq f = .ret w h := id rfl
@[simp] theorem RT.seq_brk (σ : Sg) (h : Hh) (f : Sg -> Hh -> RT) : (RT.brk σ h).seq f = .brk σ h := id rfl
@[simp] theorem RT.seq_cont (σ : Sg) (h : Hh) (f : Sg -> Hh -> RT) : (RT.cont σ h).seq f = .cont σ h := id rfl
@[simp] theorem RT.seq_exc (c : Nat) (fs : List (Str × D)) (σ : Sg) (h : Hh) (f : Sg -> Hh -> RT) : (RT.exc c fs σ h).seq f = .exc c fs σ h := id rfl
@[simp] theorem RT.seq_bad (f : Sg -> Hh -> RT) : RT.bad.seq f = .bad := id rfl
def PoS (g : Gx) (Wx : WX) (μ : List Addr) (H : Hp) (r : RT) (E : Ends) : Prop := match r with
 | .nx σw h' => ∀ μ' H' σ', Ext μ H μ' H' -> RH g μ' h' H' -> RS g μ' H' σw σ' -> E.nx σ' H'
 | .ret w h' => ∀ μ' H' v, Ext μ H μ' H' -> RH g μ' h' H' -> RV g μ' H' w v -> Fr H w v -> E.rt v H'
 | .brk σw h' => ∀ μ' H' σ', Ext μ H μ' H' -> RH g μ' h' H' -> RS g μ' H' σw σ' -> E.bk σ' H'
 | .cont σw h' => ∀ μ' H' σ', Ext μ H μ' H' -> RH g μ' h' H' -> RS g μ' H' σw σ' -> E.ct σ' H'
 | .exc c fs σw h' => ∀ μ' H' σ' cv d, Ext μ H μ' H' -> RH g μ' h' H' -> RS g μ' H' σw σ' -> XV g μ' H' c fs cv d -> Wx cv d σ' H'
 | .bad => False
section
variable {g : Gx} {Wx : WX} {μ μ' : List Addr} {H H' : Hp} {r : RT} {E E' : Ends}
theorem PoS.ext (p : PoS g Wx μ H r E) (x : Ext μ H μ' H') : PoS g Wx μ' H' r E := by
 cases r with
 | nx σ h => exact fun μ2 H2 σ2 x2 r2 s2 => p μ2 H2 σ2 (x.trans x2) r2 s2
 | ret w h => exact fun μ2 H2 v x2 r2 q2 f2 => p μ2 H2 v (x.trans x2) r2 q2 (f2.back x)
 | brk σ h => exact fun μ2 H2 σ2 x2 r2 s2 => p μ2 H2 σ2 (x.trans x2) r2 s2
 | cont σ h => exact fun μ2 H2 σ2 x2 r2 s2 => p μ2 H2 σ2 (x.trans x2) r2 s2
 | exc c fs σ h => exact fun μ2 H2 σ2 cv d x2 r2 s2 v2 => p μ2 H2 σ2 cv d (x.trans x2) r2 s2 v2
 | bad => exact p
/-- from a statement's wish to an expression's -/
theorem PoS.then {α : Type} {r : R α} {σw : Sg} {σ : L2.St} {h : Hh} {f : α -> Hh -> RT} (rs : RS g μ H σw σ) (rh : RH g μ h H) (p : PoS g Wx μ H (r.then σw f) E) :
  Po g Wx σ μ H r fun a h1 μ1 H1 => ∀ μ2 H2, Ext μ H μ2 H2 -> PoS g Wx μ2 H2 (f a h1) E := by
 cases r with
 | ok a h1 => exact fun _ _ _ _ μ2 H2 x2 => PoS.ext (r := f a h1) p x2
 | exc c fs h1 => exact fun μ2 H2 cv d x2 r2 v2 => p μ2 H2 σ cv d x2 r2 (rs.ext rh.trk x2) v2
 | bad => exact p
theorem PoS.imp (p : PoS g Wx μ H r E) (h1 : ∀ σ H, E.nx σ H -> E'.nx σ H) (h2 : ∀ v H, E.rt v H -> E'.rt v H) (h3 : ∀ σ H, E.bk σ H -> E'.bk σ H) (h4 : ∀ σ H, E.ct σ H -> E'.ct σ H) : PoS g Wx μ H r E' := by
 cases r with
 | nx σ h => exact fun μ2 H2 σ2 x2 r2 s2 => h1 _ _ (p μ2 H2 σ2 x2 r2 s2)
 | ret w h => exact fun μ2 H2 v x2 r2 q2 f2 => h2 _ _ (p μ2 H2 v x2 r2 q2 f2)
 | brk σ h => exact fun μ2 H2 σ2 x2 r2 s2 => h3 _ _ (p μ2 H2 σ2 x2 r2 s2)
 | cont σ h => exact fun μ2 H2 σ2 x2 r2 s2 => h4 _ _ (p μ2 H2 σ2 x2 r2 s2)
 | exc c fs σ h => exact p
 | bad => exact p
end
def aFM (X : Cx) (st : Stmt) : TS := fun E σ H => ∀ pins s, Inv X pins σ H s -> wpAny (model X.prog X.w) X.A (exec st X.env) (SP X pins E) X.xe s
theorem aF6 {X : Cx} {st : Stmt} : PS X st (aFM X st) := ⟨fun pins s σ H E I h => h pins s I⟩
theorem mU {X : Cx} {st : Stmt} {t : TS} (p : PS X st t) {σ : L2.St} {H : Hp} {E : Ends} (h : t E σ H) : aFM X st E σ H := fun pins s I => p.run pins s σ H E I h
def vR (X : Cx) (st : List Stmt) : TS := fun E σ H => ∀ pins s, Inv X pins σ H s -> wpAny (model X.prog X.w) X.A (execs st X.env) (SP X pins E) X.xe s
theorem hY {X : Cx} {st : List Stmt} : PSs X st (vR X st) := ⟨fun pins s σ H E I h => h pins s I⟩
theorem tO {X : Cx} {st : List Stmt} {t : TS} (p : PSs X st t) {σ : L2.St} {H : Hp} {E : Ends} (h : t E σ H) : vR X st E σ H := fun pins s I => p.run pins s σ H E I h
section
variable (g : Gx) (X : Cx) (Wx : WX)
def SS (st : Stmt) (m : MS) : Prop := ∀ (σw : Sg) (h : Hh) (σ : L2.St) (H : Hp) (μ : List Addr) (E : Ends), RS g μ H σw σ -> RH g μ h H -> PoS g Wx μ H (m σw h) E -> aFM X st E σ H
def SL (st : List Stmt) (m : MS) : Prop := ∀ (σw : Sg) (h : Hh) (σ : L2.St) (H : Hp) (μ : List Addr) (E : Ends), RS g μ H σw σ -> RH g μ h H -> PoS g Wx μ H (m σw h) E -> vR X st E σ H
end
def dF : MS := fun σ h => .nx σ h
def aM (a b : MS) : MS := fun σ h => (a σ h).seq b
def fR (m : M D) : MS := fun σ h => (m σ h).then σ fun _ h1 => .nx σ h1
def bF (m : M D) : MS := fun σ h => (m σ h).then σ fun w h1 => .ret w h1
def fE (c : M Bool) (a b : MS) : MS := fun σ h => (c σ h).then σ fun x h1 => if x = true then a σ h1 else b σ h1
section
variable {g : Gx} {X : Cx} {Wx : WX} {st : Stmt} {rest a b : List Stmt} {e : Expr} {m m' : MS} {me : M D} {mc : M Bool} {pos : Pos}
theorem PoS.at {σw : Sg} {σ : L2.St} {h : Hh} {μ : List Addr} {H : Hp} {E : Ends} (p : PoS g Wx μ H (.nx σw h) E) (rh : RH g μ h H) (rs : RS g μ H σw σ) : E.nx σ H := p μ H σ (Ext.refl rh.trk) rh rs
theorem aIW : SL g X Wx [] dF := fun σw h σ H μ E rs rh po => tO pss_nil (po.at rh rs)
theorem aG8 (h1 : SS g X Wx st m) (h2 : SL g X Wx rest m') : SL g X Wx (st :: rest) (aM m m') := by
 intro σw h σ H μ E rs rh po
 refine tO (pss_cons aF6 hY) (h1 σw h σ H μ _ rs rh ?_)
 unfold aM at po
 cases hx : m σw h with
 | nx σ1 h1 =>
  rw [hx] at po
  intro μ1 H1 σ1' x1 r1 s1
  exact h2 σ1 h1 σ1' H1 μ1 E s1 r1 (PoS.ext (r := m' σ1 h1) po x1)
 | ret w h1 => rw [hx] at po; exact po
 | brk σ1 h1 => rw [hx] at po; exact po
 | cont σ1 h1 => rw [hx] at po; exact po
 | exc c fs σ1 h1 => rw [hx] at po; exact po
 | bad => rw [hx] at po; exact po
theorem aIX (h1 : SS g X Wx st m) : SL g X Wx [st] m := fun σw h σ H μ E rs rh po => tO (pss_one aF6) (h1 σw h σ H μ E rs rh po)
theorem aHl (he : SE g X Wx e me) (hs : swapsWith e none pos.line X.env = pure false) : SS g X Wx (.Expr e pos) (fR me) := by
 intro σw h σ H μ E rs rh po
 refine mU (ps_expr bB hs) (he σw h σ H μ _ rs rh ((PoS.then rs rh po).imp fun w h1 μ1 H1 x1 r1 p1 v qv fv => ?_))
 exact (p1 μ1 H1 x1).at r1 (rs.ext rh.trk x1)
theorem aI5 (he : SE g X Wx e me) : SS g X Wx (.Return (some e) pos) (bF me) := by
 intro σw h σ H μ E rs rh po
 refine mU (ps_ret bB) (he σw h σ H μ _ rs rh ?_)
 unfold bF at po
 cases hx : me σw h with
 | ok w h1 => rw [hx] at po; exact fun μ1 H1 x1 r1 v qv fv => po μ1 H1 v x1 r1 qv fv
 | exc c fs h1 => rw [hx] at po; exact fun μ2 H2 cv d x2 r2 v2 => po μ2 H2 σ cv d x2 r2 (rs.ext rh.trk x2) v2
 | bad => rw [hx] at po; exact po.elim
theorem aKz (hc : ST g X Wx e mc) (ha : SL g X Wx a m) (hb : SL g X Wx b m') : SS g X Wx (.If e a b pos) (fE mc m m') := by
 intro σw h σ H μ E rs rh po
 refine mU (ps_if qO hY hY) (hc σw h σ H μ _ rs rh ((PoS.then rs rh po).imp fun x h1 μ1 H1 x1 r1 p1 => ?_))
 cases x with
 | true => exact ha σw h1 σ H1 μ1 E (rs.ext rh.trk x1) r1 (p1 μ1 H1 x1)
 | false => exact hb σw h1 σ H1 μ1 E (rs.ext rh.trk x1) r1 (p1 μ1 H1 x1)
end
inductive Tg where
 | nm (i : Nat) | tu (ts : List Tg)
 deriving Inhabited
mutual
def Tg.set : Tg -> D -> Sg -> Hh -> Option Sg
 | .nm i, w, σ, _ => some (σ.set i (some w))
 | .tu ts, w, σ, h => match (match asT w with | some ws => some ws | none => asL h w) with
  | some ws => Tg.sets ts ws σ h
  | none => none
def Tg.sets : List Tg -> List D -> Sg -> Hh -> Option Sg
 | [], [], σ, _ => some σ
 | t :: ts, w :: ws, σ, h => match Tg.set t w σ h with
  | some σ1 => Tg.sets ts ws σ1 h
  | none => none
 | _, _, _, _ => none
end
mutual
def Tg.slots : Tg -> List Nat
 | .nm i => [i]
 | .tu ts => Tg.slotss ts
def Tg.slotss : List Tg -> List Nat
 | [] => []
 | t :: ts => Tg.slots t ++ Tg.slotss ts
end
def aDm (X : Cx) (tg : Expr) : TG := fun v σ H Q => ∀ pins s u, Inv X pins σ H s -> RelV v u -> wpAny (model X.prog X.w) X.A (assign tg X.env u) (fun _ s' => ∃ σ' H', Inv X pins σ' H' s' /\ Q σ' H') X.xe s
theorem aC2 {X : Cx} {tg : Expr} : PG X tg (aDm X tg) := ⟨fun pins s σ H v u Q I r h => h pins s u I r⟩
theorem aFi {X : Cx} {tg : Expr} {t : TG} (p : PG X tg t) {v : V} {σ : L2.St} {H : Hp} {Q : L2.St -> Hp -> Prop} (h : t v σ H Q) : aDm X tg v σ H Q := fun pins s u I r => p.run pins s σ H v u Q I r h
def aDn (X : Cx) (tg : List Expr) : TGs := fun vs σ H Q => ∀ pins s us, Inv X pins σ H s -> Vals vs us -> wpAny (model X.prog X.w) X.A (assignInOrder ((assignEach tg X.env).map (·.2)) us) (fun _ s' => ∃ σ' H', Inv X pins σ' H' s' /\ Q σ' H') X.xe s
theorem aAU {X : Cx} {tg : List Expr} : PGs X tg (aDn X tg) := ⟨fun pins s σ H vs us Q I r h => h pins s us I r⟩
theorem aF4 {X : Cx} {tg : List Expr} {t : TGs} (p : PGs X tg t) {vs : List V} {σ : L2.St} {H : Hp} {Q : L2.St -> Hp -> Prop} (h : t vs σ H Q) : aDn X tg vs σ H Q := fun pins s us I r => p.run pins s σ H vs us Q I r h
/-- a target of names: it sets its own slots and nothing else -/
def SG (g : Gx) (X : Cx) (tg : Expr) (t : Tg) : Prop := ∀ (w : D) (v : V) (σw σw' : Sg) (h : Hh) (σ : L2.St) (H : Hp) (μ : List Addr) (Q : L2.St -> Hp -> Prop), RS g μ H σw σ -> RH g μ h H -> w.isTl = false -> RV g μ H w v ->
 t.set w σw h = some σw' -> (∀ σ', RS g μ H σw' σ' -> (∀ vs : List Nat, (∀ i ∈ t.slots, i ∈ vs) -> wipe σ' vs = wipe σ vs) -> Q σ' H) -> aDm X tg v σ H Q
def SGs (g : Gx) (X : Cx) (tg : List Expr) (ts : List Tg) : Prop := ∀ (ws : List D) (vs : List V) (σw σw' : Sg) (h : Hh) (σ : L2.St) (H : Hp) (μ : List Addr) (Q : L2.St -> Hp -> Prop), RS g μ H σw σ -> RH g μ h H -> RVs g μ H ws vs ->
 Tg.sets ts ws σw h = some σw' -> (∀ σ', RS g μ H σw' σ' -> (∀ vs : List Nat, (∀ i ∈ Tg.slotss ts, i ∈ vs) -> wipe σ' vs = wipe σ vs) -> Q σ' H) -> aDn X tg vs σ H Q
section
variable {g : Gx} {X : Cx} {pos : Pos}
theorem aBw (σ : L2.St) (i : Nat) (o : Option V) : ∀ vs : List Nat, i ∈ vs -> wipe (σ.set i o) vs = wipe σ vs
 | [], h => by simp at h
 | v :: vs, h => by
  unfold wipe
  by_cases e : i ∈ vs
  ·rw [aBw σ i o vs e]
  ·have e1 : i = v := by
    rcases List.mem_cons.mp h with z | z
    ·exact z
    ·exact absurd z e
   subst e1
   apply List.ext_getElem?
   intro j
   by_cases hj : i = j
   ·subst hj
    by_cases hl : i < σ.length
    ·rw [List.getElem?_set_self (by rw [wipe_length, List.length_set]; exact hl), List.getElem?_set_self (by rw [wipe_length]; exact hl)]
    ·rw [List.getElem?_eq_none (by rw [List.length_set, wipe_length, List.length_set]; omega), List.getElem?_eq_none (by rw [List.length_set, wipe_length]; omega)]
   ·rw [List.getElem?_set_ne hj, List.getElem?_set_ne hj]
    -- away from i the two are alike
    have key : ∀ vs : List Nat, i ∉ vs -> ∀ j, i ≠ j -> (wipe (σ.set i o) vs)[j]? = (wipe σ vs)[j]? := by
     intro vs
     induction vs with
     | nil => intro _ j hj; exact List.getElem?_set_ne hj
     | cons v vs ih =>
      intro hn j hj
      unfold wipe
      have hn2 : i ∉ vs := fun z => hn (List.mem_cons_of_mem _ z)
      by_cases hv : v = j
      ·subst hv
       by_cases hl : v < σ.length
       ·rw [List.getElem?_set_self (by rw [wipe_length, List.length_set]; exact hl), List.getElem?_set_self (by rw [wipe_length]; exact hl)]
       ·rw [List.getElem?_eq_none (by rw [List.length_set, wipe_length, List.length_set]; omega), List.getElem?_eq_none (by rw [List.length_set, wipe_length]; omega)]
      ·rw [List.getElem?_set_ne hv, List.getElem?_set_ne hv]
       exact ih hn2 j hj
    exact key vs e j hj
theorem aCs {i : Nat} {x : Str} (hN : X.N.Nodup) (hi : X.N[i]? = some x) (hx : Loc X.env.scope x) (hf : X.fn x = true \/ X.env.scope.names.lookup x = some .local) : SG g X (.Name x pos) (.nm i) := by
 intro w v σw σw' h σ H μ Q rs rh nt q e k
 have e : some (σw.set i (some w)) = some σw' := by simpa [Tg.set] using e
 cases e
 exact aFi (pg_name hN hi hx hf) (k _ (rs.set nt q i) fun vs hv => aBw _ _ _ _ (hv i (by simp [Tg.slots])))
theorem aG5 : SGs g X [] [] := by
 intro ws vs σw σw' h σ H μ Q rs rh q e k
 cases ws with
 | nil =>
  have e : some σw = some σw' := by simpa [Tg.sets] using e
  cases e
  rw [show vs = [] from q]
  exact aF4 pgs_nil ⟨rfl, k σ rs fun _ _ => rfl⟩
 | cons _ _ => simp [Tg.sets] at e
theorem aFC {e : Expr} {es : List Expr} {t : Tg} {ts : List Tg} (h1 : SG g X e t) (h2 : SGs g X es ts) (hs : (assignEach (e :: es) X.env).map (·.2) = assign e X.env :: (assignEach es X.env).map (·.2)) : SGs g X (e :: es) (t :: ts) := by
 intro ws vs σw σw' h σ H μ Q rs rh q e' k
 cases ws with
 | nil => simp [Tg.sets] at e'
 | cons w ws =>
  obtain ⟨v, rr, rfl, nt, qv, z⟩ := q
  simp only [Tg.sets] at e'
  split at e'
  ·rename_i σ1 e1
   refine aF4 (pgs_cons aC2 aAU hs) ⟨v, rr, rfl, ?_⟩
   refine h1 w v σw σ1 h σ H μ _ rs rh nt qv e1 fun σ' rs' w1 => ?_
   refine h2 ws rr σ1 σw' h σ' H μ _ rs' rh z e' fun σ2 rs2 w2 => ?_
   refine k σ2 rs2 fun vs hv => ?_
   rw [w2 vs fun i hi => hv i (by simp [Tg.slotss, hi]), w1 vs fun i hi => hv i (by simp [Tg.slotss, hi])]
  ·cases e'
theorem aIT {es : List Expr} {k : Nat} {ts : List Tg} (hK : X.K = g.K) (hc : X.calm = true) (hs : SGs g X es ts) (hn : (assignEach es X.env).length = ts.length) (hst : (assignEach es X.env).findIdx? (·.1) = none) : SG g X (.Tuple es k pos) (.tu ts) := by
 intro w v σw σw' h σ H μ Q rs rh nt q e kk
 have len : ∀ {ts : List Tg} {ws : List D} {σ σ' : Sg}, Tg.sets ts ws σ h = some σ' -> ws.length = ts.length := by
  intro ts
  induction ts with
  | nil => intro ws σ σ' e; cases ws with
   | nil => rfl
   | cons _ _ => simp [Tg.sets] at e
  | cons t ts ih => intro ws σ σ' e; cases ws with
   | nil => simp [Tg.sets] at e
   | cons w ws =>
    simp only [Tg.sets] at e
    split at e
    ·rename_i σ1 e1; simp [ih e]
    ·cases e
 simp only [Tg.set] at e
 split at e
 ·rename_i ws ew
  split at ew
  ·rename_i ws' e1
   cases ew
   obtain ⟨a, vs, rfl, s1, z⟩ := dC q e1
   refine aFi (pg_tup hc aAU hn hst) ⟨a, vs, rfl, by rw [hK]; exact s1, by rw [z.length]; exact len e, ?_⟩
   exact hs _ vs σw σw' h σ H μ Q rs rh z e fun σ' r' w' => kk σ' r' fun us hu => w' us fun i hi => hu i (by simpa [Tg.slots] using hi)
  ·obtain ⟨a, vs, rfl, s1, z⟩ := fK rh q ew
   refine aFi (pg_lst hc aAU hn hst) ⟨a, vs, rfl, by rw [hK]; exact s1, by rw [z.length]; exact len e, ?_⟩
   exact hs _ vs σw σw' h σ H μ Q rs rh z e fun σ' r' w' => kk σ' r' fun us hu => w' us fun i hi => hu i (by simpa [Tg.slots] using hi)
 ·cases e
end
end PV
end
section
namespace PV
open PySem PySem.Spec PyProof.Rows L2
def aS (t : Tg) (m : M D) : MS := fun σ h => (m σ h).then σ fun w h1 => match t.set (aT w h1).1 σ (aT w h1).2 with
 | some σ1 => .nx σ1 (aT w h1).2
 | none => .bad
section
variable {g : Gx} {X : Cx} {Wx : WX} {e tg : Expr} {me : M D} {t : Tg} {pos : Pos}
theorem aEw (he : SE g X Wx e me) (hg : SG g X tg t) (hs : swapsWithSole [tg] e pos.line X.env = pure false) (hw : swappedStores [tg] e X.env = pure none) (h1 : (assignEach [tg] X.env).map (·.2) = [assign tg X.env]) :
  SS g X Wx (.Assign [tg] e pos) (aS t me) := by
 intro σw h σ H μ E rs rh po
 refine mU (ps_asg bB aC2 hs hw h1) (he σw h σ H μ _ rs rh ((PoS.then rs rh po).imp fun w h1 μ1 H1 x1 r1 p1 v qv fv => ?_))
 obtain ⟨μ1', x1', r1', q1', _⟩ := iP r1 qv fv x1
 have p2 := p1 μ1' H1 x1'
 split at p2
 ·rename_i σ2 e2
  exact hg _ v σw σ2 _ σ H1 μ1' _ (rs.ext rh.trk x1') r1' eY q1' e2 fun σ' rs' _ => p2.at r1' rs'
 ·exact p2.elim
/-- a, b = x, y with plain local names -/
theorem aI4 {i j : Nat} {x y : Str} {a b : Expr} {ma mb : M D} {px py pt : Pos} {kt k2 pt2} (hc : X.calm = true) (hN : X.N.Nodup) (hi : X.N[i]? = some x) (hj : X.N[j]? = some y) (hij : i ≠ j)
  (hx : X.env.scope.names.lookup x = some .local) (hy : X.env.scope.names.lookup y = some .local) (ha : SA g X Wx [a, b] (aA [ma, mb]))
  (hw : swappedStores [.Tuple [.Name x px, .Name y py] kt pt] (.Tuple [a, b] k2 pt2) X.env = pure (some [x, y]))
  (hs : swapsWithSole [.Tuple [.Name x px, .Name y py] kt pt] (.Tuple [a, b] k2 pt2) pos.line X.env = pure false) :
  SS g X Wx (.Assign [.Tuple [.Name x px, .Name y py] kt pt] (.Tuple [a, b] k2 pt2) pos) (aS (.tu [.nm i, .nm j]) (bE (aA [ma, mb]))) := by
 intro σw h σ H μ E rs rh po
 refine mU (ps_par hc hN hi hj hij hx hy wL hw hs) (ha σw h σ H μ _ rs rh ?_)
 unfold aS bE at po
 cases hx : aA [ma, mb] σw h with
 | bad => rw [hx] at po; exact po.elim
 | exc c fs h1 => rw [hx] at po; exact fun μ2 H2 cv d x2 r2 v2 => po μ2 H2 σ cv d x2 r2 (rs.ext rh.trk x2) v2
 | ok ws h1 =>
  rw [hx] at po
  intro μ1 H1 x1 r1 vs qs
  rw [R.bind_ok] at po
  split at po
  ·rw [R.then_ok] at po
   simp only [aT] at po
   have len : ws.length = 2 := by
    have : ∀ {σw h} , aA [ma, mb] σw h = .ok ws h1 -> ws.length = 2 := by
     intro σw h e
     simp only [aA] at e
     cases h2 : ma σw h with
     | bad => rw [h2] at e; cases e
     | exc _ _ _ => rw [h2] at e; cases e
     | ok w2 hh2 =>
      rw [h2, R.bind_ok] at e
      cases h3 : mb σw (aT w2 hh2).2 with
      | bad => rw [h3] at e; cases e
      | exc _ _ _ => rw [h3] at e; cases e
      | ok w3 hh3 => rw [h3] at e; simp only [R.bind_ok] at e; cases e; rfl
    exact this hx
   match ws, len, qs with
   | [w1, w2], _, qs =>
    obtain ⟨v1, r1', rfl, n1, q1, v2, r2', rfl, n2, q2, e3⟩ := qs
    rw [show r2' = [] from e3]
    simp only [Tg.set, asT, Tg.sets] at po
    exact ⟨v1, v2, rfl, po μ1 H1 _ x1 r1 (((rs.ext rh.trk x1).set n1 q1 i).set n2 q2 j)⟩
  ·exact po.elim
theorem rV : ∀ {ms : List (M D)} {σw : Sg} {h h1 : Hh} {ws : List D}, aA ms σw h = .ok ws h1 -> ws.length = ms.length
 | [], σw, h, h1, ws, e => by simp only [aA] at e; cases e; rfl
 | m :: ms, σw, h, h1, ws, e => by
  simp only [aA] at e
  cases h2 : m σw h with
  | bad => rw [h2] at e; cases e
  | exc _ _ _ => rw [h2] at e; cases e
  | ok w2 hh2 =>
   rw [h2, R.bind_ok] at e
   cases h3 : aA ms σw (aT w2 hh2).2 with
   | bad => rw [h3] at e; cases e
   | exc _ _ _ => rw [h3] at e; cases e
   | ok w3 hh3 =>
    rw [h3] at e
    simp only [R.bind_ok] at e
    cases e
    simp [rV h3]
end
def vE {κ : Type} [DecidableEq κ] (kvs : List (κ × D)) (k : κ) (w : D) : List (κ × D) :=
 if kvs.any (fun kv => decide (kv.1 = k)) then kvs.map (fun kv => if kv.1 = k then (kv.1, w) else kv) else kvs ++ [(k, w)]
def oQ (x y w : D) (h : Hh) : Option Hh := match eC h x with
 | some (i, ws) => match y with
  | .int k => match ixN ws.length k with
   | some j => if w.isTl = false then some (h.set i (.lst (ws.set j w))) else none
   | none => none
  | _ => none
 | none => match x with
  | .ref i => match h[i]? with
   | some (.dK kvs) => match toK y with
    | some k => if kvs.length < sizeLine /\ w.isTl = false then some (h.set i (.dK (vE kvs k w))) else none
    | none => none
   | some (.dT kvs) => match y with
    | .tup ks => match aJ toK ks with
     | some ks => if kvs.length < sizeLine /\ w.isTl = false then some (h.set i (.dT (vE kvs ks w))) else none
     | none => none
    | _ => none
   | _ => none
  | _ => none
def aAX (X : Cx) : TSet := fun o i v H Q => ∀ pins s σ ov iv u, Inv X pins σ H s -> RelV o ov -> RelV i iv -> RelV v u -> wpAny (model X.prog X.w) X.A (setItem ov iv u) (fun _ s' => ∃ H', Inv X pins σ H' s' /\ Q H') X.xe s
theorem aGQ {X : Cx} : PSet X (aAX X) := fun pins s σ H o i v ov iv u Q I ro ri rv h => h pins s σ ov iv u I ro ri rv
theorem aAW {X : Cx} {t : TSet} (p : PSet X t) {o i v : V} {H : Hp} {Q : Hp -> Prop} (h : t o i v H Q) : aAX X o i v H Q := fun pins s σ ov iv u I ro ri rv => p pins s σ H o i v ov iv u Q I ro ri rv h
section
variable {g : Gx} {X : Cx} {Wx : WX} {μ : List Addr} {h : Hh} {H : Hp}
theorem RKs.any {κ : Type} [DecidableEq κ] {kvs : List (κ × D)} {vs : List (κ × V)} (r : RKs g μ H kvs vs) (k : κ) : kvs.any (fun kv => decide (kv.1 = k)) = vs.any (fun kv => decide (kv.1 = k)) := by
 induction kvs generalizing vs with
 | nil => rw [show vs = [] from r]; rfl
 | cons p kvs ih => obtain ⟨v, rr, rfl, _, _, z⟩ := r; simp [ih z]
theorem RKs.append {κ : Type} {a b : List (κ × D)} {c d : List (κ × V)} (r : RKs g μ H a c) (s : RKs g μ H b d) : RKs g μ H (a ++ b) (c ++ d) := by
 induction a generalizing c with
 | nil => rw [show c = [] from r]; exact s
 | cons p a ih => obtain ⟨v, rr, rfl, n, q, z⟩ := r; exact ⟨v, _, rfl, n, q, ih z⟩
theorem RKs.length {κ : Type} {kvs : List (κ × D)} {vs : List (κ × V)} (r : RKs g μ H kvs vs) : vs.length = kvs.length := by
 induction kvs generalizing vs with
 | nil => rw [show vs = [] from r]; rfl
 | cons p kvs ih => obtain ⟨v, rr, rfl, _, _, z⟩ := r; simp [ih z]
theorem RKs.repl {κ : Type} [DecidableEq κ] (k : κ) {w : D} {v : V} (nt : w.isTl = false) (q : RV g μ H w v) : ∀ {kvs : List (κ × D)} {vs : List (κ × V)}, RKs g μ H kvs vs ->
  RKs g μ H (kvs.map fun kv => if kv.1 = k then (kv.1, w) else kv) (vs.map fun kv => if kv.1 = k then (kv.1, v) else kv)
 | [], vs, r => by rw [show vs = [] from r]; rfl
 | p :: kvs, _, r => by
  obtain ⟨v', rr, rfl, n, q', z⟩ := r
  by_cases e : p.1 = k
  ·simp only [List.map_cons, e, if_true]
   exact ⟨v, _, rfl, nt, q, RKs.repl k nt q z⟩
  ·simp only [List.map_cons, e, if_false]
   exact ⟨v', _, rfl, n, q', RKs.repl k nt q z⟩
theorem xZ {κ : Type} [DecidableEq κ] {kvs : List (κ × D)} {vs : List (κ × V)} (r : RKs g μ H kvs vs) (k : κ) {w : D} {v : V} (nt : w.isTl = false) (q : RV g μ H w v) : RKs g μ H (vE kvs k w) (putK vs k v) := by
 unfold vE putK
 rw [r.any k]
 split
 ·exact r.repl k nt q
 ·exact r.append ⟨v, [], rfl, nt, q, rfl⟩
theorem RVs.set {ws : List D} {vs : List V} (r : RVs g μ H ws vs) {w : D} {v : V} (nt : w.isTl = false) (q : RV g μ H w v) (j : Nat) : RVs g μ H (ws.set j w) (vs.set j v) := by
 induction ws generalizing vs j with
 | nil => rw [show vs = [] from r]; rfl
 | cons p ws ih =>
  obtain ⟨v', rr, rfl, n, q', z⟩ := r
  cases j with
  | zero => exact ⟨v, rr, rfl, nt, q, z⟩
  | succ j => exact ⟨v', _, rfl, n, q', ih z j⟩
theorem aG4 (hu : X.A.units + 1 < cLine) {x y w : D} {vx vy vw : V} {h2 : Hh} {Q : Hp -> Prop} (rh : RH g μ h H) (qx : RV g μ H x vx) (qy : RV g μ H y vy) (qw : RV g μ H w vw) (e : oQ x y w h = some h2)
  (k : ∀ H', Ext μ H μ H' -> RH g μ h2 H' -> Q H') : aAX X vx vy vw H Q := by
 unfold oQ at e
 split at e
 ·rename_i i ws ew
  split at e
  ·rename_i n
   split at e
   ·rename_i j ej
    split at e
    ·rename_i nt
     cases e
     obtain ⟨a, vs, rfl, ea, ha, z⟩ := qI rh qx ew
     obtain ⟨x1, r1⟩ := wrL rh ea (z.set nt qw j)
     exact aAW set_list ⟨a, vs, n, j, rfl, qy, ha, by rw [z.length]; exact ej, k _ x1 r1⟩
    ·cases e
   ·cases e
  ·cases e
 ·split at e
  ·rename_i i _
   obtain ⟨a, ea, rfl⟩ := qx
   split at e
   ·rename_i kvs e3
    obtain ⟨b, eb, vs, hb, z⟩ := rh.cell i _ e3
    rw [ea] at eb; cases eb
    split at e
    ·rename_i kk ek
     split at e
     ·rename_i hl
      cases e
      have z2 := xZ z kk hl.2 qw
      have x1 : Ext μ H μ (upd H a (.dK (putK vs kk vw))) := .wr rh.trk ea rfl
      rw [aBs ek qy]
      exact aAW (set_dict hu) ⟨a, _, rfl, DPut.k hb (by rw [z.length]; exact hl.1), k _ x1 (rh.wr ea rfl ⟨_, upd_same, z2.ext rh.trk x1⟩)⟩
     ·cases e
    ·cases e
   ·rename_i kvs e3
    obtain ⟨b, eb, vs, hb, z⟩ := rh.cell i _ e3
    rw [ea] at eb; cases eb
    split at e
    ·rename_i ks
     split at e
     ·rename_i kk ek
      split at e
      ·rename_i hl
       cases e
       obtain ⟨c, us, rfl, hc, zc⟩ := qy
       rw [tV ek zc] at hc
       have z2 := xZ z kk hl.2 qw
       have x1 : Ext μ H μ (upd H a (.dT (putK vs kk vw))) := .wr rh.trk ea rfl
       exact aAW (set_dict hu) ⟨a, _, rfl, DPut.t hb hc (by rw [z.length]; exact hl.1), k _ x1 (rh.wr ea rfl ⟨_, upd_same, z2.ext rh.trk x1⟩)⟩
      ·cases e
     ·cases e
    ·cases e
   ·cases e
  ·cases e
variable {e o i : Expr} {me mo mi : M D} {pos tpos : Pos}
def kI (me mo mi : M D) : MS := fun σ h => (mSt me σ h).then σ fun w h1 => (mo σ h1).then σ fun x h2 => (mi σ h2).then σ fun y h3 => match oQ x y w h3 with
 | some h4 => .nx σ h4
 | none => .bad
theorem aI6 (hu : X.A.units + 1 < cLine) (he : SE g X Wx e me) (ho : SE g X Wx o mo) (hi : SE g X Wx i mi)
  (ha : ∀ v, assign (.Subscript o i tpos) X.env v = (do
   let ov <- holding [v] (eval o X.env)
   let iv <- holding [v, ov] (eval i X.env)
   standAt tpos
   holding [v, ov, iv] (setItem ov iv v)
   release [v, ov, iv] []))
  (hs : swapsWithSole [.Subscript o i tpos] e pos.line X.env = pure false) (hw : swappedStores [.Subscript o i tpos] e X.env = pure none) (h1 : (assignEach [.Subscript o i tpos] X.env).map (·.2) = [assign (.Subscript o i tpos) X.env]) :
  SS g X Wx (.Assign [.Subscript o i tpos] e pos) (kI me mo mi) := by
 intro σw h σ H μ E rs rh po
 refine mU (ps_asg bB (pg_sub bB bB aGQ ha) hs hw h1) ?_
 refine aKm he σw h σ H μ _ rs rh ((PoS.then rs rh po).imp fun w h1 μ1 H1 x1 r1 p1 vw qw fw => ?_)
 have rs1 := rs.ext rh.trk x1
 refine ho σw h1 σ H1 μ1 _ rs1 r1 ((PoS.then rs1 r1 (p1 μ1 H1 x1)).imp fun x h2 μ2 H2 x2 r2 p2 vx qx fx => ?_)
 have rs2 := rs1.ext r1.trk x2
 refine hi σw h2 σ H2 μ2 _ rs2 r2 ((PoS.then rs2 r2 (p2 μ2 H2 x2)).imp fun y h3 μ3 H3 x3 r3 p3 vy qy fy => ?_)
 have p4 := p3 μ3 H3 x3
 split at p4
 ·rename_i h4 e4
  refine aG4 hu r3 (qx.ext r2.trk x3) qy ((qw.ext r1.trk x2).ext r2.trk x3) e4 fun H4 x4 r4 => ?_
  exact p4 μ3 H4 σ x4 r4 ((rs2.ext r2.trk x3).ext r3.trk x4)
 ·exact p4.elim
end
def fX : Nat := 16777300
/-- none: not known; some none: it ends -/
abbrev Src := Nat -> Hh -> Option (Option D)
/-- like Ext; what S names may have been written meanwhile -/
structure ExtS (S : Addr -> Prop) (μ : List Addr) (H : Hp) (μ' : List Addr) (H' : Hp) : Prop where
 pre : ∃ e, μ' = μ ++ e /\ ∀ x ∈ e, H x = none
 fr' : ∀ b o, H b = some o -> b ∉ μ -> ¬ S b -> rP o = false -> H' b = some o
 lv : ∀ x ∈ μ, H' x ≠ none
 ls : ∀ x, S x -> H x ≠ none -> H' x ≠ none
 tb : ∀ b ps, H b = some (.tbl ps) -> ¬ S b -> ∃ ps', H' b = some (.tbl ps')
theorem ExtS.fr {S : Addr -> Prop} {μ μ' : List Addr} {H H' : Hp} (x : ExtS S μ H μ' H') (b : Addr) (o : HO) (q : H b = some o) (n : b ∉ μ) (s : ¬ S b) (t : rP o = false := by rfl) : H' b = some o := x.fr' b o q n s t
theorem ExtS.kp {S : Addr -> Prop} {μ μ' : List Addr} {H H' : Hp} (x : ExtS S μ H μ' H') {b : Addr} {o : HO} (q : H b = some o) : H' b ≠ none := by
 by_cases hm : b ∈ μ
 ·exact x.lv b hm
 ·by_cases hs : S b
  ·exact x.ls b hs (by rw [q]; simp)
  ·by_cases ht : rP o = true
   ·obtain ⟨ps, rfl⟩ := aCa ht
    obtain ⟨ps', e⟩ := x.tb b ps q hs
    rw [e]; simp
   ·rw [x.fr' b o q hm hs (by simpa using ht)]; simp
/-- what was in the making at a state -/
def aCw (μ : List Addr) (H : Hp) (b : Addr) : Prop := ∃ o, H b = some o /\ eA o = true /\ b ∉ μ
def FrS (S : Addr -> Prop) (w : D) (v : V) : Prop := match w with
 | .tl _ => ∀ a, v = .ref a -> ¬ S a
 | _ => True
section
variable {g : Gx} {S : Addr -> Prop} {μ μ' μ1 μ2 : List Addr} {H H' H1 H2 : Hp} {w : D} {v : V}
theorem Ext.toS (x : Ext μ H μ' H') (hs : ∀ b, S b -> H b ≠ none -> b ∉ μ) : ExtS S μ H μ' H' := ⟨x.pre, fun b o q n _ t => x.fr' b o q n t, x.lv, fun b sb n => by
 cases q : H b with
 | none => exact absurd q n
 | some o => exact x.kp q, fun b ps q _ => x.tb b ps q⟩
theorem ExtS.trans (a : ExtS S μ H μ1 H1) (b : Ext μ1 H1 μ2 H2) (hs : ∀ b, S b -> b ∉ μ1) : ExtS S μ H μ2 H2 := by
 have kp := fun {b : Addr} {o : HO} (q : H b = some o) => a.kp q
 have kb := fun {c : Addr} {o : HO} (q : H1 c = some o) => b.kp q
 obtain ⟨⟨e1, rfl, f1⟩, r1, l1, s1, t1⟩ := a
 obtain ⟨⟨e2, rfl, f2⟩, r2, l2, t2⟩ := b
 refine ⟨⟨e1 ++ e2, by simp, fun x hx => ?_⟩, fun b o q n ns nt => r2 b o (r1 b o q n ns nt) ?_ nt, fun x hx => l2 x (List.mem_append_left _ hx), fun x sx n => ?_, fun b ps e ns => let ⟨ps1, e1⟩ := t1 b ps e ns; t2 b ps1 e1⟩
 ·rcases List.mem_append.mp hx with hx | hx
  ·exact f1 x hx
  ·cases q : H x with
   | none => rfl
   | some o => exact absurd (f2 x hx) (kp q)
 ·intro hm
  rcases List.mem_append.mp hm with hm | hm
  ·exact n hm
  ·rw [f1 b hm] at q; cases q
 ·cases q : H1 x with
  | none => exact absurd q (s1 x sx n)
  | some o => exact kb q
theorem Ext.transS (a : Ext μ H μ1 H1) (b : ExtS S μ1 H1 μ2 H2) (hs : ∀ b, S b -> H b ≠ none -> b ∉ μ) : ExtS S μ H μ2 H2 := by
 have kp := fun {b : Addr} {o : HO} (q : H b = some o) => a.kp q
 obtain ⟨⟨e1, rfl, f1⟩, r1, l1, t1⟩ := a
 obtain ⟨⟨e2, rfl, f2⟩, r2, l2, s2, t2⟩ := b
 refine ⟨⟨e1 ++ e2, by simp, fun x hx => ?_⟩, fun b o q n ns nt => r2 b o (r1 b o q n nt) ?_ ns nt, fun x hx => l2 x (List.mem_append_left _ hx), fun x sx n => s2 x sx ?_, fun b ps e ns => let ⟨ps1, e1⟩ := t1 b ps e; t2 b ps1 e1 ns⟩
 ·rcases List.mem_append.mp hx with hx | hx
  ·exact f1 x hx
  ·cases q : H x with
   | none => rfl
   | some o => exact absurd (f2 x hx) (kp q)
 ·intro hm
  rcases List.mem_append.mp hm with hm | hm
  ·exact n hm
  ·rw [f1 b hm] at q; cases q
 ·cases q : H x with
  | none => exact absurd q n
  | some o => exact kp q
theorem ExtS.upd {a : Addr} {o' : HO} (x : ExtS S μ H μ' H') (sa : S a) : ExtS S μ H μ' (L2.upd H' a o') :=
 ⟨x.pre, fun b u q nb ns nt => by rw [upd_ne (show b ≠ a from fun z => ns (by rw [z]; exact sa))]; exact x.fr' b u q nb ns nt, fun y hy => by
  by_cases hy' : y = a
  ·subst hy'; rw [upd_same]; simp
  ·rw [upd_ne hy']; exact x.lv y hy, fun y sy n => by
  by_cases hy' : y = a
  ·subst hy'; rw [upd_same]; simp
  ·rw [upd_ne hy']; exact x.ls y sy n, fun b ps e ns => by
  rw [upd_ne (show b ≠ a from fun z => ns (by rw [z]; exact sa))]; exact x.tb b ps e ns⟩
theorem ExtS.get (x : ExtS S μ H μ' H') {i : Nat} {a : Addr} (e : μ[i]? = some a) : μ'[i]? = some a := by
 obtain ⟨⟨e1, rfl, _⟩, _, _⟩ := x
 exact xR e
theorem ExtS.notin (x : ExtS S μ H μ' H') {a : Addr} {o : HO} (q : H a = some o) (n : a ∉ μ) : a ∉ μ' := by
 obtain ⟨⟨e1, rfl, f1⟩, _, _⟩ := x
 intro hm
 rcases List.mem_append.mp hm with hm | hm
 ·exact n hm
 ·rw [f1 a hm] at q; cases q
theorem Fr.toS (f : Fr H w v) : FrS (aCw μ H) w v := by
 cases w <;> first | exact True.intro | skip
 rintro a e ⟨o, q, _⟩
 have := f a e
 rw [this] at q; cases q
/-- S names what may be written, and nothing tracked -/
structure SOk (S : Addr -> Prop) (μ : List Addr) (H : Hp) : Prop where
 mu : ∀ b, S b -> ∃ o, H b = some o /\ eA o = true
 nin : ∀ b, S b -> b ∉ μ
theorem SOk.of (x : Ext μ H μ' H') : SOk (aCw μ H) μ' H' := ⟨fun b ⟨o, q, m, n⟩ => ⟨o, x.fr' b o q n (uV m), m⟩, fun b ⟨o, q, m, n⟩ => x.notin q n⟩
theorem SOk.ext (s : SOk S μ H) (x : Ext μ H μ' H') : SOk S μ' H' := ⟨fun b sb => let ⟨o, q, m⟩ := s.mu b sb; ⟨o, x.fr' b o q (s.nin b sb) (uV m), m⟩, fun b sb => let ⟨o, q, m⟩ := s.mu b sb; x.notin q (s.nin b sb)⟩
end
mutual
theorem RV.extS {g : Gx} {S : Addr -> Prop} {μ μ' : List Addr} {H H' : Hp} (t : Trk μ H) (s : SOk S μ H) (x : ExtS S μ H μ' H') : ∀ {w : D} {v : V}, FrS S w v -> RV g μ H w v -> RV g μ' H' w v
 | .non, _, _, r => r
 | .bl _, _, _, r => r
 | .int _, _, _, r => r
 | .str _, _, _, r => r
 | .ty _, _, _, r => r
 | .fn _, _, _, r => r
 | .cls _, _, _, r => r
 | .ref i, _, _, r => by
  obtain ⟨a, e, q⟩ := r
  exact ⟨a, x.get e, q⟩
 | .xc c ks ws, _, _, r => by
  obtain ⟨a, C, d, vs, e, hC, q, hl, hd, z⟩ := r
  refine ⟨a, C, d, vs, e, hC, x.fr _ _ q (fun hm => ?_) (fun hm => ?_), hl, ?_, RVs.extS t s x z⟩
  ·obtain ⟨o, eo, k⟩ := t a hm
   rw [q] at eo; cases eo; cases k
  ·obtain ⟨o, eo, k⟩ := s.mu a hm
   rw [q] at eo; cases eo; cases k
  ·rcases hd with hd | ⟨dx, e1, e2⟩
   ·exact .inl hd
   ·refine .inr ⟨dx, e1, x.fr _ _ e2 (fun hm => ?_) fun hm => ?_⟩
    ·obtain ⟨o, eo, k⟩ := t dx hm
     rw [e2] at eo; cases eo; cases k
    ·obtain ⟨o, eo, k⟩ := s.mu dx hm
     rw [e2] at eo; cases eo; cases k
 | .tup ws, _, _, r => by
  obtain ⟨a, vs, e, q, z⟩ := r
  refine ⟨a, vs, e, x.fr _ _ q (fun hm => ?_) fun hm => ?_, RVs.extS t s x z⟩
  ·obtain ⟨o, eo, k⟩ := t a hm
   rw [q] at eo; cases eo; cases k
  ·obtain ⟨o, eo, k⟩ := s.mu a hm
   rw [q] at eo; cases eo; cases k
 | .kt ws, _, _, r => by
  obtain ⟨a, vs, e, q, z⟩ := r
  refine ⟨a, vs, e, ?_, RVs.extS t s x z⟩
  rcases q with (q | ⟨o, q⟩) | q
  ·refine .inl (.inl (x.fr _ _ q (fun hm => ?_) fun hm => ?_))
   ·obtain ⟨o, eo, k⟩ := t a hm
    rw [q] at eo; cases eo; cases k
   ·obtain ⟨o, eo, k⟩ := s.mu a hm
    rw [q] at eo; cases eo; cases k
  ·refine .inl (.inr ⟨o, x.fr _ _ q (fun hm => ?_) fun hm => ?_⟩)
   ·obtain ⟨o, eo, k⟩ := t a hm
    rw [q] at eo; cases eo; cases k
   ·obtain ⟨o, eo, k⟩ := s.mu a hm
    rw [q] at eo; cases eo; cases k
  ·exact .inr q
 | .fl ws, _, _, r => by
  obtain ⟨a, vs, e, q, z⟩ := r
  refine ⟨a, vs, e, ?_, RVs.extS t s x z⟩
  rcases q with ⟨o, q⟩ | q
  ·refine .inl ⟨o, x.fr _ _ q (fun hm => ?_) fun hm => ?_⟩
   ·obtain ⟨o, eo, k⟩ := t a hm
    rw [q] at eo; cases eo; cases k
   ·obtain ⟨o, eo, k⟩ := s.mu a hm
    rw [q] at eo; cases eo; cases k
  ·exact .inr q
 | .tl ws, _, f, r => by
  obtain ⟨a, vs, e, q, n, z⟩ := r
  exact ⟨a, vs, e, x.fr _ _ q n (f a e), x.notin q n, RVs.extS t s x z⟩
theorem RVs.extS {g : Gx} {S : Addr -> Prop} {μ μ' : List Addr} {H H' : Hp} (t : Trk μ H) (s : SOk S μ H) (x : ExtS S μ H μ' H') : ∀ {ws : List D} {vs : List V}, RVs g μ H ws vs -> RVs g μ' H' ws vs
 | [], _, r => r
 | w :: ws, _, r => by
  obtain ⟨v, rr, e, nt, q, z⟩ := r
  exact ⟨v, rr, e, nt, RV.extS t s x (by cases w <;> first | exact True.intro | cases nt) q, RVs.extS t s x z⟩
end
/-- the source may be asked at every later state -/
structure SrcOk (g : Gx) (J : It) (src : Src) (S : Addr -> Prop) (μ : List Addr) (H : Hp) : Prop where
 so : SOk S μ H
 ok : ∀ μ' H' h', ExtS S μ H μ' H' -> RH g μ' h' H' -> ∀ i, match src i h' with
  | none => True
  | some none => J.stop i H'
  | some (some w) => J.go i H' /\ ∀ x H2, J.yld i H' x H2 -> Ext μ' H' μ' H2 /\ RH g μ' h' H2 /\ w.isTl = false /\ RV g μ' H2 w x
theorem SrcOk.ext {g : Gx} {J : It} {src : Src} {S : Addr -> Prop} {μ μ' : List Addr} {H H' : Hp} (s : SrcOk g J src S μ H) (x : Ext μ H μ' H') : SrcOk g J src S μ' H' := ⟨s.so.ext x, fun μ2 H2 h2 x2 r2 i => s.ok μ2 H2 h2 (x.transS x2 fun b sb _ => s.so.nin b sb) r2 i⟩
theorem SrcOk.at {g : Gx} {J : It} {src : Src} {S : Addr -> Prop} {μ : List Addr} {H : Hp} {h : Hh} (s : SrcOk g J src S μ H) (r : RH g μ h H) (i : Nat) : match src i h with
  | none => True
  | some none => J.stop i H
  | some (some w) => J.go i H /\ ∀ x H2, J.yld i H x H2 -> Ext μ H μ H2 /\ RH g μ h H2 /\ w.isTl = false /\ RV g μ H2 w x := s.ok μ H h ((Ext.refl r.trk).toS fun b sb _ => s.so.nin b sb) r i
def aDo (X : Cx) (tg iter : Expr) : TI := fun σ H R => ∀ pins s, Inv X pins σ H s -> wpAny (model X.prog X.w) X.A (eval iter X.env) (fun v s1 => wpAny (model X.prog X.w) X.A (pyIter v) (PIE X pins σ tg R) X.xe s1) X.xe s
theorem wM {X : Cx} {tg iter : Expr} : PI X tg iter (aDo X tg iter) := ⟨fun pins s σ H R I h => h pins s I⟩
theorem rZ {X : Cx} {tg iter : Expr} {t : TI} (p : PI X tg iter t) {σ : L2.St} {H : Hp} {R : It -> Hp -> Prop} (h : t σ H R) : aDo X tg iter σ H R := fun pins s I => p.run pins s σ H R I h
def SI (g : Gx) (X : Cx) (Wx : WX) (tg iter : Expr) (m : M Src) : Prop := ∀ (σw : Sg) (h : Hh) (σ : L2.St) (H : Hp) (μ : List Addr) (R : It -> Hp -> Prop), RS g μ H σw σ -> RH g μ h H ->
 Po g Wx σ μ H (m σw h) (fun src h' μ' H' => ∀ J, SrcOk g J src (aCw μ H) μ' H' -> R J H') -> aDo X tg iter σ H R
def hA (src : Src) (t : Tg) (b : MS) : Nat -> Nat -> MS
 | 0, _ => fun _ _ => .bad
 | n + 1, i => fun σ h => match src i h with
  | none => .bad
  | some none => .nx σ h
  | some (some w) => match t.set w σ h with
   | none => .bad
   | some σ1 => match b σ1 h with
    | .nx σ2 h2 => hA src t b n (i + 1) σ2 h2
    | .cont σ2 h2 => hA src t b n (i + 1) σ2 h2
    | .brk σ2 h2 => .nx σ2 h2
    | r => r
def fJ (mi : M Src) (t : Tg) (b : MS) : MS := fun σ h => (mi σ h).then σ fun src h1 => hA src t b fX 0 σ h1
section
variable {g : Gx} {X : Cx} {Wx : WX} {tg iter : Expr} {body : List Stmt} {mi : M Src} {t : Tg} {mb : MS} {pos : Pos}
theorem aI3 (hp : PassesOwn (model X.prog X.w) X.A X.env X.xe) (hc : X.calm = true) (hi : SI g X Wx tg iter mi) (hg : SG g X tg t) (hb : SL g X Wx body mb) (hs : ∀ x, foldedSetIterable iter X.env x = pure x) :
  SS g X Wx (.For tg iter body [] pos) (fJ mi t mb) := by
 intro σw h σ H μ E rs rh po
 refine mU (ps_for hp hc wM aC2 hY hs) (hi σw h σ H μ _ rs rh ((PoS.then rs rh po).imp fun src h1 μ1 H1 x1 r1 p1 J sk => ?_))
 generalize aCw μ H = S0 at sk
 refine ⟨fun i m σ H => ∃ σw h μ, RS g μ H σw σ /\ RH g μ h H /\ SrcOk g J src S0 μ H /\ PoS g Wx μ H (hA src t mb m i σw h) E, ⟨fX, σw, h1, μ1, rs.ext rh.trk x1, r1, sk, p1 μ1 H1 x1⟩, ?_⟩
 rintro i m σ H ⟨σw, h, μ, rs, rh, sk, po⟩
 cases m with
 | zero => exact po.elim
 | succ n =>
  simp only [hA] at po
  have sk1 := sk.at rh i
  cases e1 : src i h with
  | none => rw [e1] at po; exact po.elim
  | some o =>
   rw [e1] at po sk1
   cases o with
   | none => exact .inl ⟨sk1, po.at rh rs⟩
   | some w =>
    obtain ⟨go, yl⟩ := sk1
    refine .inr ⟨go, fun σ' H' => ∃ σw h μ, RS g μ H' σw σ' /\ RH g μ h H' /\ SrcOk g J src S0 μ H' /\ PoS g Wx μ H' (hA src t mb n (i + 1) σw h) E, fun σ' H' q => ⟨n, Nat.lt_succ_self n, q⟩, fun x H2 y => ?_⟩
    obtain ⟨x2, r2, nt, q2⟩ := yl x H2 y
    simp only at po
    cases e2 : t.set w σw h with
    | none => rw [e2] at po; exact po.elim
    | some σ1 =>
     rw [e2] at po
     simp only at po
     refine hg w x σw σ1 h σ H2 μ _ (rs.ext rh.trk x2) r2 nt q2 e2 fun σ3 rs3 _ => ?_
     refine hb σ1 h σ3 H2 μ _ rs3 r2 ?_
     cases hx : mb σ1 h with
     | nx σ4 h4 => rw [hx] at po; exact fun μ5 H5 σ5 x5 r5 s5 => ⟨σ4, h4, μ5, s5, r5, sk.ext (x2.trans x5), PoS.ext (r := hA src t mb n (i + 1) σ4 h4) po (x2.trans x5)⟩
     | cont σ4 h4 => rw [hx] at po; exact fun μ5 H5 σ5 x5 r5 s5 => ⟨σ4, h4, μ5, s5, r5, sk.ext (x2.trans x5), PoS.ext (r := hA src t mb n (i + 1) σ4 h4) po (x2.trans x5)⟩
     | brk σ4 h4 => rw [hx] at po; exact fun μ5 H5 σ5 x5 r5 s5 => po μ5 H5 σ5 (x2.trans x5) r5 s5
     | ret w4 h4 => rw [hx] at po; exact fun μ5 H5 v x5 r5 q5 f5 => po μ5 H5 v (x2.trans x5) r5 q5 (f5.back x2)
     | exc c fs σ4 h4 => rw [hx] at po; exact fun μ5 H5 σ5 cv d x5 r5 s5 v5 => po μ5 H5 σ5 cv d (x2.trans x5) r5 s5 v5
     | bad => rw [hx] at po; exact po.elim
end
end PV
end
section
namespace PV
open PySem PySem.Spec PyProof.Rows L2
def oR (x : D) : Src := fun i h => match asL h x with
 | some ws => some ws[i]?
 | none => none
def vQ (ws : List D) : Src := fun i _ => some ws[i]?
def aBo (z : Str) : Src := fun i _ => some ((z.cps.toList[i]?).map fun c => .str ⟨#[c]⟩)
def jZ (lo : Int) (n : Nat) : Src := fun i _ => some (if i < n then some (.int (lo + i)) else none)
def qU (s : Src) : Src := fun i h => match s i h with
 | some (some w) => some (some (.tup [.int (i : Nat), w]))
 | r => r
section
variable {g : Gx} {X : Cx} {Wx : WX} {S : Addr -> Prop} {μ : List Addr} {H : Hp} {h : Hh}
theorem fst {x : D} {v : V} {ws : List D} (e : asT x = some ws) : FrS S x v := by
 cases x <;> first | exact True.intro | cases e
theorem aFG {x : D} {a : Addr} (hv : RV g μ H x (.ref a)) (tr : Trk μ H) (so : SOk S μ H) (fx : FrS S x (.ref a)) : SrcOk g (Itl g.K a) (oR x) S μ H := by
 refine ⟨so, ?_⟩
 intro μ' H' h' x1 r1 i
 unfold oR
 cases e : asL h' x with
 | none => exact True.intro
 | some ws =>
  obtain ⟨b, vs, eb, s1, z⟩ := fK r1 (hv.extS tr so x1 fx) e
  cases eb
  cases e2 : ws[i]? with
  | none => simp only [e2]; exact ⟨vs, s1, by rw [z.length]; exact List.getElem?_eq_none_iff.mp e2⟩
  | some w =>
   simp only [e2]
   obtain ⟨v, ev, nt, q⟩ := z.get e2
   refine ⟨⟨vs, v, s1, ev⟩, fun y H2 yl => ?_⟩
   obtain ⟨rfl, yl⟩ := yl
   have := yl vs s1
   rw [ev] at this; cases this
   exact ⟨.refl r1.trk, r1, nt, q⟩
theorem aHk {x : D} {ws : List D} {a : Addr} (hv : RV g μ H x (.ref a)) (tr : Trk μ H) (so : SOk S μ H) (e : asT x = some ws) : SrcOk g (Itt g.K a) (vQ ws) S μ H := by
 refine ⟨so, ?_⟩
 intro μ' H' h' x1 r1 i
 unfold vQ
 obtain ⟨b, vs, eb, s1, z⟩ := dC (hv.extS tr so x1 (fst e)) e
 cases eb
 cases e2 : ws[i]? with
 | none => exact ⟨vs, s1, by rw [z.length]; exact List.getElem?_eq_none_iff.mp e2⟩
 | some w =>
  obtain ⟨v, ev, nt, q⟩ := z.get e2
  refine ⟨⟨vs, v, s1, ev⟩, fun y H2 yl => ?_⟩
  obtain ⟨rfl, yl⟩ := yl
  have := yl vs s1
  rw [ev] at this; cases this
  exact ⟨.refl r1.trk, r1, nt, q⟩
theorem aHj (so : SOk S μ H) (z : Str) : SrcOk g (Its z) (aBo z) S μ H := by
 refine ⟨so, ?_⟩
 intro μ' H' h' x1 r1 i
 unfold aBo
 cases e2 : z.cps.toList[i]? with
 | none =>
  have := List.getElem?_eq_none_iff.mp e2
  show z.cps.size <= i
  simpa using this
 | some c =>
  have e3 : z.cps[i]? = some c := by simpa using e2
  refine ⟨?_, fun y H2 yl => ?_⟩
  ·show i < z.cps.size
   have := (List.getElem?_eq_some_iff.mp e2).1
   simpa using this
  ·obtain ⟨rfl, c', ec, rfl⟩ := yl
   rw [e3] at ec; cases ec
   exact ⟨.refl r1.trk, r1, rfl, rfl⟩
theorem aHi (so : SOk S μ H) (lo : Int) (n : Nat) : SrcOk g (Itr lo n) (jZ lo n) S μ H := by
 refine ⟨so, ?_⟩
 intro μ' H' h' x1 r1 i
 unfold jZ
 by_cases hi : i < n
 ·rw [if_pos hi]
  refine ⟨hi, fun y H2 yl => ?_⟩
  obtain ⟨rfl, rfl⟩ := yl
  exact ⟨.refl r1.trk, r1, rfl, rfl⟩
 ·rw [if_neg hi]
  exact Nat.le_of_not_lt hi
theorem aAS {h' : Hh} {μ' : List Addr} {H' : Hp} {T : Addr} {w1 w2 : D} {v1 v2 : V} (r1 : RH g μ' h' H') (n : H' T = none) (n1 : w1.isTl = false) (n2 : w2.isTl = false) (q1 : RV g μ' H' w1 v1) (q2 : RV g μ' H' w2 v2) :
  Ext μ' H' μ' (upd H' T (.tup [v1, v2])) /\ RH g μ' h' (upd H' T (.tup [v1, v2])) /\ (D.tup [w1, w2]).isTl = false /\ RV g μ' (upd H' T (.tup [v1, v2])) (.tup [w1, w2]) (.ref T) :=
 ⟨.new r1.trk n, r1.new n, rfl, .newT r1 n ⟨v1, [v2], rfl, n1, q1, v2, [], rfl, n2, q2, rfl⟩⟩
theorem aEu {x : D} {a : Addr} (hv : RV g μ H x (.ref a)) (tr : Trk μ H) (so : SOk S μ H) (fx : FrS S x (.ref a)) : SrcOk g (Ite g.K a) (qU (oR x)) S μ H := by
 refine ⟨so, ?_⟩
 intro μ' H' h' x1 r1 i
 unfold qU oR
 cases e : asL h' x with
 | none => exact True.intro
 | some ws =>
  obtain ⟨b, vs, eb, s1, z⟩ := fK r1 (hv.extS tr so x1 fx) e
  cases eb
  cases e2 : ws[i]? with
  | none => simp only [e2]; exact ⟨vs, s1, by rw [z.length]; exact List.getElem?_eq_none_iff.mp e2⟩
  | some w =>
   simp only [e2]
   obtain ⟨v, ev, nt, q⟩ := z.get e2
   refine ⟨⟨vs, v, s1, ev⟩, fun y H2 yl => ?_⟩
   obtain ⟨T, v', rfl, nT, rfl, yl⟩ := yl
   have := yl vs s1
   rw [ev] at this; cases this
   exact aAS r1 nT rfl nt rfl q
theorem aEv {x : D} {ws : List D} {a : Addr} (hv : RV g μ H x (.ref a)) (tr : Trk μ H) (so : SOk S μ H) (e : asT x = some ws) : SrcOk g (aEG g.K a) (qU (vQ ws)) S μ H := by
 refine ⟨so, ?_⟩
 intro μ' H' h' x1 r1 i
 unfold qU vQ
 obtain ⟨b, vs, eb, s1, z⟩ := dC (hv.extS tr so x1 (fst e)) e
 cases eb
 cases e2 : ws[i]? with
 | none => exact ⟨vs, s1, by rw [z.length]; exact List.getElem?_eq_none_iff.mp e2⟩
 | some w =>
  obtain ⟨v, ev, nt, q⟩ := z.get e2
  refine ⟨⟨vs, v, s1, ev⟩, fun y H2 yl => ?_⟩
  obtain ⟨T, v', rfl, nT, rfl, yl⟩ := yl
  have := yl vs s1
  rw [ev] at this; cases this
  exact aAS r1 nT rfl nt rfl q
end
/-- what a plain expression is walked as -/
def nZ (x : D) (h : Hh) : Option Src := match asT x with
 | some ws => some (vQ ws)
 | none => match asL h x with
  | some _ => some (oR x)
  | none => match x with
   | .str z => some (aBo z)
   | _ => none
def miE (m : M D) : M Src := fun σ h => (m σ h).bind fun x h1 => match nZ x h1 with
 | some s => .ok s h1
 | none => .bad
def gM (m : M D) : M Src := fun σ h => (m σ h).bind fun x h1 => match x with
 | .int j => if -(2 ^ 62) <= j /\ j < 2 ^ 62 then .ok (jZ 0 j.toNat) h1 else .bad
 | _ => .bad
def qJ (m : M D) : M Src := fun σ h => (m σ h).bind fun x h1 => match asT x with
 | some ws => .ok (qU (vQ ws)) h1
 | none => match asL h1 x with
  | some _ => .ok (qU (oR x)) h1
  | none => .bad
section
variable {g : Gx} {X : Cx} {Wx : WX} {tg e e2 : Expr} {me me2 : M D} {p pos tpos : Pos} {elts : List Expr} {kk : Nat}
theorem aL0 (hK : X.K = g.K) (he : SE g X Wx e me) : SI g X Wx tg e (miE me) := by
 intro σw h σ H μ Rr rs rh po
 unfold miE at po
 cases hx : me σw h with
 | bad => rw [hx] at po; exact po.elim
 | exc c fs h1 =>
  rw [hx] at po
  refine rZ (pi_list bB) (he σw h σ H μ _ rs rh ?_)
  rw [hx]; exact po
 | ok x h1 =>
  rw [hx, PV.R.bind_ok] at po
  unfold nZ at po
  cases e1 : asT x with
  | some ws =>
   rw [e1] at po
   refine rZ (pi_tup bB) (he σw h σ H μ _ rs rh ?_)
   rw [hx]
   intro μ1 H1 x1 r1 v q f
   obtain ⟨a, vs, rfl, s1, z⟩ := dC q e1
   refine ⟨a, rfl, ⟨vs, by rw [hK]; exact s1⟩, ?_⟩
   rw [hK]
   exact po μ1 H1 x1 r1 _ (aHk q r1.trk (.of x1) e1)
  | none =>
   rw [e1] at po
   cases e2 : asL h1 x with
   | some ws =>
    simp only [e2] at po
    refine rZ (pi_list bB) (he σw h σ H μ _ rs rh ?_)
    rw [hx]
    intro μ1 H1 x1 r1 v q f
    obtain ⟨a, vs, rfl, s1, z⟩ := fK r1 q e2
    refine ⟨a, rfl, ⟨vs, by rw [hK]; exact s1⟩, ?_⟩
    rw [hK]
    exact po μ1 H1 x1 r1 _ (aFG q r1.trk (.of x1) f.toS)
   | none =>
    simp only [e2] at po
    cases x <;> first | exact po.elim | skip
    rename_i z
    refine rZ (pi_str bB) (he σw h σ H μ _ rs rh ?_)
    rw [hx]
    intro μ1 H1 x1 r1 v q f
    exact ⟨z, q, po μ1 H1 x1 r1 _ (aHj (.of x1) z)⟩
theorem aKo (hg : Gl X "range") (hm : X.mg "range" = none) (hs : starEach [e] X.env = [(false, eval e X.env)]) (he : SE g X Wx e me) : SI g X Wx tg (.Call (.Name "range" p) [e] [] pos) (gM me) := by
 intro σw h σ H μ Rr rs rh po
 refine rZ (pi_range1 hg hm (pa_cons bB pa_nil hs) hs) (he σw h σ H μ _ rs rh (po.bind.imp fun x h1 μ1 H1 x1 r1 p1 v q f => ?_))
 split at p1
 ·split at p1
  ·rename_i j hj
   rw [show v = .int j from q]
   exact ⟨j, rfl, hj.1, hj.2, p1.at r1 _ (aHi (.of x1) 0 j.toNat)⟩
  ·exact p1.elim
 ·exact p1.elim
theorem aKn (hK : X.K = g.K) (hg : Gl X "enumerate") (hm : X.mg "enumerate" = none) (hs : starEach [e] X.env = [(false, eval e X.env)]) (he : SE g X Wx e me) :
  SI g X Wx (.Tuple elts kk tpos) (.Call (.Name "enumerate" p) [e] [] pos) (qJ me) := by
 intro σw h σ H μ Rr rs rh po
 unfold qJ at po
 cases hx : me σw h with
 | bad => rw [hx] at po; exact po.elim
 | exc c fs h1 =>
  rw [hx] at po
  refine rZ (pi_enum hg hm (pa_cons bB pa_nil hs) hs) (he σw h σ H μ _ rs rh ?_)
  rw [hx]; exact po
 | ok x h1 =>
  rw [hx, PV.R.bind_ok] at po
  cases e1 : asT x with
  | some ws =>
   rw [e1] at po
   refine rZ (aFj hg hm (pa_cons bB pa_nil hs) hs) (he σw h σ H μ _ rs rh ?_)
   rw [hx]
   intro μ1 H1 x1 r1 v q f
   obtain ⟨a, vs, rfl, s1, z⟩ := dC q e1
   refine ⟨a, vs, rfl, by rw [hK]; exact s1, ?_⟩
   rw [hK]
   exact po μ1 H1 x1 r1 _ (aEv q r1.trk (.of x1) e1)
  | none =>
   rw [e1] at po
   cases e2 : asL h1 x with
   | none => simp only [e2] at po; exact po.elim
   | some ws =>
    simp only [e2] at po
    refine rZ (pi_enum hg hm (pa_cons bB pa_nil hs) hs) (he σw h σ H μ _ rs rh ?_)
    rw [hx]
    intro μ1 H1 x1 r1 v q f
    obtain ⟨a, vs, rfl, s1, z⟩ := fK r1 q e2
    refine ⟨a, vs, rfl, by rw [hK]; exact s1, ?_⟩
    rw [hK]
    exact po μ1 H1 x1 r1 _ (aEu q r1.trk (.of x1) f.toS)
end
end PV
end
section
namespace PV
open PySem PySem.Spec PyProof.Rows L2
section
variable {g : Gx} {μ μ' μ1 : List Addr} {h : Hh} {H H' H1 : Hp} {a : Addr} {o o' : HO}
theorem aHg {b : Addr} {vs : List V} (q : H a = some o) (m : eA o = true) (s : SqT g.K H b vs) : SqT g.K (upd H a o') b vs := by
 rcases s with (s | ⟨ob, s⟩) | s
 ·refine .inl (.inl ?_)
  rw [upd_ne (fun z => by subst z; rw [q] at s; cases s; cases m)]
  exact s
 ·refine .inl (.inr ⟨ob, ?_⟩)
  rw [upd_ne (fun z => by subst z; rw [q] at s; cases s; cases m)]
  exact s
 ·exact .inr s
theorem aHe {b : Addr} {vs : List V} (q : H a = some o) (m : eA o = true) (s : SqF g.K H b vs) : SqF g.K (upd H a o') b vs := by
 rcases s with ⟨ob, s⟩ | s
 ·refine .inl ⟨ob, ?_⟩
  rw [upd_ne (fun z => by subst z; rw [q] at s; cases s; cases m)]
  exact s
 ·exact .inr s
end
mutual
theorem RV.upd {g : Gx} {μ : List Addr} {H : Hp} {a : Addr} {o o' : HO} (q : H a = some o) (m : eA o = true) : ∀ {w : D} {v : V}, w.isTl = false -> RV g μ H w v -> RV g μ (L2.upd H a o') w v
 | .non, _, _, r => r
 | .bl _, _, _, r => r
 | .int _, _, _, r => r
 | .str _, _, _, r => r
 | .ty _, _, _, r => r
 | .fn _, _, _, r => r
 | .cls _, _, _, r => r
 | .ref i, _, _, r => r
 | .xc c ks ws, _, _, r => by
  obtain ⟨b, C, d, vs, e, hC, s, hl, hd, z⟩ := r
  refine ⟨b, C, d, vs, e, hC, ?_, hl, ?_, RVs.upd q m z⟩
  ·rw [upd_ne (fun y => by subst y; rw [q] at s; cases s; cases m)]
   exact s
  ·rcases hd with hd | ⟨dx, e1, e2⟩
   ·exact .inl hd
   ·refine .inr ⟨dx, e1, ?_⟩
    rw [upd_ne (fun y => by subst y; rw [q] at e2; cases e2; cases m)]
    exact e2
 | .tup ws, _, _, r => by
  obtain ⟨b, vs, e, s, z⟩ := r
  refine ⟨b, vs, e, ?_, RVs.upd q m z⟩
  rw [upd_ne (fun y => by subst y; rw [q] at s; cases s; cases m)]
  exact s
 | .kt ws, _, _, r => by
  obtain ⟨b, vs, e, s, z⟩ := r
  exact ⟨b, vs, e, aHg q m s, RVs.upd q m z⟩
 | .fl ws, _, _, r => by
  obtain ⟨b, vs, e, s, z⟩ := r
  exact ⟨b, vs, e, aHe q m s, RVs.upd q m z⟩
 | .tl ws, _, n, _ => by cases n
theorem RVs.upd {g : Gx} {μ : List Addr} {H : Hp} {a : Addr} {o o' : HO} (q : H a = some o) (m : eA o = true) : ∀ {ws : List D} {vs : List V}, RVs g μ H ws vs -> RVs g μ (L2.upd H a o') ws vs
 | [], _, r => r
 | w :: ws, _, r => by
  obtain ⟨v, rr, e, nt, z, zs⟩ := r
  exact ⟨v, rr, e, nt, RV.upd q m nt z, RVs.upd q m zs⟩
end
section
variable {g : Gx} {μ μ' μ1 : List Addr} {h : Hh} {H H' H1 : Hp} {a : Addr} {o o' : HO}
theorem RKs.upd {κ : Type} (q : H a = some o) (m : eA o = true) : ∀ {ws : List (κ × D)} {vs : List (κ × V)}, RKs g μ H ws vs -> RKs g μ (L2.upd H a o') ws vs
 | [], _, r => r
 | w :: ws, _, r => by
  obtain ⟨v, rr, e, nt, z, zs⟩ := r
  exact ⟨v, rr, e, nt, z.upd q m nt, RKs.upd q m zs⟩
theorem RH.upd (r : RH g μ h H) (q : H a = some o) (m : eA o = true) (na : a ∉ μ) : RH g μ h (L2.upd H a o') :=
 ⟨r.len, r.nd, fun i c e => by
  obtain ⟨b, eb, rc⟩ := r.cell i c e
  have nb : b ≠ a := fun z => na (by rw [<- z]; exact fZ eb)
  refine ⟨b, eb, ?_⟩
  cases c with
  | lst ws => obtain ⟨vs, e1, z⟩ := rc; exact ⟨vs, (upd_ne nb).trans e1, z.upd q m⟩
  | dK ws => obtain ⟨vs, e1, z⟩ := rc; exact ⟨vs, (upd_ne nb).trans e1, z.upd q m⟩
  | dT ws => obtain ⟨vs, e1, z⟩ := rc; exact ⟨vs, (upd_ne nb).trans e1, z.upd q m⟩
  | ins c fs => obtain ⟨C, dx, vs, k, e1, z⟩ := rc; exact ⟨C, dx, vs, k, (upd_ne nb).trans e1, z.upd q m⟩, aCu ⟨o, q, m⟩ r.tabs⟩
theorem Ext.updN (x : Ext μ1 H1 μ H) (t : Trk μ1 H1) (n : H1 a = none) : Ext μ1 H1 μ (L2.upd H a o') :=
 ⟨x.pre, fun b u q nb nt => by rw [upd_ne (ne_of_none q n)]; exact x.fr' b u q nb nt, fun y hy => by
  rw [upd_ne (t.ne n hy)]; exact x.lv y hy, fun b ps q => by
  rw [upd_ne (ne_of_none q n)]; exact x.tb b ps q⟩
end
/-- a loop over J: each turn by stp, at the end Fin -/
def zT (J : It) (stp : V -> Hp -> (Hp -> Prop) -> Prop) (H : Hp) (Fin : Hp -> Prop) : Prop := ∃ W : Nat -> Nat -> Hp -> Prop, (∃ m, W 0 m H) /\ ∀ i m H, W i m H ->
 (J.stop i H /\ Fin H) \/ (J.go i H /\ ∃ Nx : Hp -> Prop, (∀ H', Nx H' -> ∃ m', m' < m /\ W (i + 1) m' H') /\ ∀ x H', J.yld i H x H' -> stp x H' Nx)
/-- what has been made so far: acc, told by rel; Gr: the ground it stands on -/
structure Gd (g : Gx) {α : Type} (rel : List Addr -> Hp -> α -> HO -> Prop) (Gr : List Addr -> Hp -> Prop) (a : Addr) (μ : List Addr) (h : Hh) (acc : α) (H : Hp) : Prop where
 x : Gr μ H
 r : RH g μ h H
 na : a ∉ μ
 ob : ∃ o, H a = some o /\ eA o = true /\ rel μ H acc o
structure GrOk (Gr : List Addr -> Hp -> Prop) (a : Addr) : Prop where
 ext : ∀ {μ H μ' H'}, Gr μ H -> Trk μ H -> Ext μ H μ' H' -> Gr μ' H'
 up : ∀ {μ H o o'}, Gr μ H -> H a = some o -> eA o = true -> a ∉ μ -> eA o' = true -> Gr μ (upd H a o')
def PoL (g : Gx) {α : Type} (rel : List Addr -> Hp -> α -> HO -> Prop) (Gr : List Addr -> Hp -> Prop) (a : Addr) (r : R α) (Fin : Hp -> Prop) : Prop := match r with
 | .ok acc h => ∀ μ H, Gd g rel Gr a μ h acc H -> Fin H
 | .exc _ _ _ => False
 | .bad => False
def lcL {α : Type} (src : Src) (t : Tg) (body : α -> Sg -> Hh -> R α) (σ0 : Sg) : Nat -> Nat -> α -> Hh -> R α
 | 0, _, _, _ => .bad
 | n + 1, i, acc, h => match src i h with
  | none => .bad
  | some none => .ok acc h
  | some (some w) => match t.set w σ0 h with
   | none => .bad
   | some σ1 => (body acc σ1 h).bind fun acc' h' => lcL src t body σ0 n (i + 1) acc' h'
/-- an exception out of a comprehension is not known here -/
def noX {α : Type} (r : R α) : R α := match r with
 | .exc _ _ _ => .bad
 | r => r
theorem aCO {μ1 : List Addr} {H1 : Hp} {a : Addr} (tr : Trk μ1 H1) (nw : H1 a = none) : GrOk (Ext μ1 H1) a := ⟨fun x _ y => x.trans y, fun x _ _ _ _ => x.updN tr nw⟩
section
variable {g : Gx} {α : Type} {rel : List Addr -> Hp -> α -> HO -> Prop} {Gr Gr' : List Addr -> Hp -> Prop} {a : Addr} {J : It} {src : Src} {t : Tg} {body : α -> Sg -> Hh -> R α} {σ0 : Sg} {stp : V -> Hp -> (Hp -> Prop) -> Prop} {Fin : Hp -> Prop}
theorem PoL.bind {r : R α} {f : α -> Hh -> R α} (p : PoL g rel Gr a (r.bind f) Fin) : PoL g rel Gr a r fun H => ∃ acc h μ, Gd g rel Gr a μ h acc H /\ PoL g rel Gr a (f acc h) Fin := by
 cases r with
 | ok acc h => exact fun μ H G => ⟨acc, h, μ, G, p⟩
 | exc _ _ _ => exact p
 | bad => exact p
theorem Gd.sub {μ : List Addr} {h : Hh} {acc : α} {H : Hp} (G : Gd g rel Gr a μ h acc H) (s : Gr μ H -> Gr' μ H) : Gd g rel Gr' a μ h acc H := ⟨s G.x, G.r, G.na, G.ob⟩
theorem PoL.sub {r : R α} (p : PoL g rel Gr a r Fin) (s : ∀ {μ H}, Gr' μ H -> Gr μ H) : PoL g rel Gr' a r Fin := by
 cases r with
 | ok acc h => exact fun μ H G => p μ H (G.sub s)
 | exc _ _ _ => exact p
 | bad => exact p
theorem Gd.ext {μ μ' : List Addr} {h h' : Hh} {acc : α} {H H' : Hp} (go : GrOk Gr a) (mono : ∀ {μ μ' H H' acc o}, Trk μ H -> Ext μ H μ' H' -> rel μ H acc o -> rel μ' H' acc o)
  (G : Gd g rel Gr a μ h acc H) (x : Ext μ H μ' H') (r : RH g μ' h' H') : Gd g rel Gr a μ' h' acc H' := by
 obtain ⟨o, eo, mo, ro⟩ := G.ob
 exact ⟨go.ext G.x G.r.trk x, r, x.notin eo G.na, o, x.fr' a o eo G.na (uV mo), mo, mono G.r.trk x ro⟩
theorem xU (go : GrOk Gr a) (mono : ∀ {μ μ' H H' acc o}, Trk μ H -> Ext μ H μ' H' -> rel μ H acc o -> rel μ' H' acc o)
  (sk : ∀ μ H h, Gr μ H -> RH g μ h H -> ∀ i, match src i h with
   | none => True
   | some none => J.stop i H
   | some (some w) => J.go i H /\ ∀ x H2, J.yld i H x H2 -> Ext μ H μ H2 /\ RH g μ h H2 /\ w.isTl = false /\ RV g μ H2 w x)
  (step : ∀ (w : D) (x : V) (acc : α) (h : Hh) (μ : List Addr) (H : Hp) (σ1 : Sg) (Nx : Hp -> Prop), Gd g rel Gr a μ h acc H -> w.isTl = false -> RV g μ H w x -> t.set w σ0 h = some σ1 -> PoL g rel Gr a (body acc σ1 h) Nx -> stp x H Nx)
  {n : Nat} {acc : α} {h : Hh} {μ : List Addr} {H : Hp} (G : Gd g rel Gr a μ h acc H) (po : PoL g rel Gr a (lcL src t body σ0 n 0 acc h) Fin) : zT J stp H Fin := by
 refine ⟨fun i m H => ∃ acc h μ, Gd g rel Gr a μ h acc H /\ PoL g rel Gr a (lcL src t body σ0 m i acc h) Fin, ⟨n, acc, h, μ, G, po⟩, ?_⟩
 rintro i m H ⟨acc, h, μ, G, po⟩
 cases m with
 | zero => exact po.elim
 | succ n =>
  simp only [lcL] at po
  have sk1 := sk μ H h G.x G.r i
  cases e1 : src i h with
  | none => rw [e1] at po; exact po.elim
  | some ow =>
   rw [e1] at po sk1
   cases ow with
   | none => exact .inl ⟨sk1, po μ H G⟩
   | some w =>
    obtain ⟨go1, yl⟩ := sk1
    refine .inr ⟨go1, fun H' => ∃ acc h μ, Gd g rel Gr a μ h acc H' /\ PoL g rel Gr a (lcL src t body σ0 n (i + 1) acc h) Fin, fun H' q => ⟨n, Nat.lt_succ_self n, q⟩, fun x H2 y => ?_⟩
    obtain ⟨x2, r2, nt, q2⟩ := yl x H2 y
    simp only at po
    cases e2 : t.set w σ0 h with
    | none => rw [e2] at po; exact po.elim
    | some σ1 =>
     rw [e2] at po
     exact step w x acc h μ H2 σ1 _ (G.ext go mono x2 r2) nt q2 e2 (PoL.bind (f := fun acc' h' => lcL src t body σ0 n (i + 1) acc' h') po)
theorem pD {α : Type} {r : R α} {c : Nat} {fs : List (Str × D)} {h : Hh} : noX r ≠ .exc c fs h := by
 cases r <;> intro z <;> cases z
theorem bind_exc {α β : Type} {r : R α} {f : α -> Hh -> R β} {c : Nat} {fs : List (Str × D)} {h : Hh} (e : r.bind f = .exc c fs h) : r = .exc c fs h \/ ∃ a h', r = .ok a h' /\ f a h' = .exc c fs h := by
 cases r with
 | ok a h' => exact .inr ⟨a, h', rfl, e⟩
 | exc c' fs' h' => refine .inl ?_; cases e; rfl
 | bad => cases e
theorem tG {α : Type} {src : Src} {t : Tg} {body : α -> Sg -> Hh -> R α} {σ0 : Sg} (hb : ∀ acc σ h c fs h', body acc σ h ≠ .exc c fs h') {c : Nat} {fs : List (Str × D)} {h' : Hh} : ∀ (n i : Nat) (acc : α) (h : Hh), lcL src t body σ0 n i acc h ≠ .exc c fs h'
 | 0, i, acc, h => fun z => by cases z
 | n + 1, i, acc, h => fun z => by
  simp only [lcL] at z
  split at z
  ·cases z
  ·cases z
  ·split at z
   ·cases z
   ·rcases bind_exc z with z | ⟨a, h2, _, z⟩
    ·exact hb _ _ _ _ _ _ z
    ·exact tG hb n (i + 1) a h2 z
end
def eF (σ : Sg) : List Nat -> Sg
 | [] => σ
 | v :: vs => (eF σ vs).set v none
theorem RS.wipe {g : Gx} {μ : List Addr} {H : Hp} {σw : Sg} {σ : L2.St} (r : RS g μ H σw σ) : ∀ vs : List Nat, RS g μ H (eF σw vs) (L2.wipe σ vs)
 | [] => r
 | v :: vs => by
  have ih := RS.wipe r vs
  refine ⟨by unfold eF L2.wipe; rw [List.length_set, List.length_set]; exact ih.1, fun i w e => ?_⟩
  unfold eF at e
  unfold L2.wipe
  by_cases hv : v = i
  ·subst hv
   by_cases hl : v < (eF σw vs).length
   ·rw [List.getElem?_set_self hl] at e; cases e
   ·rw [List.getElem?_eq_none (by simpa using hl)] at e; cases e
  ·rw [List.getElem?_set_ne hv] at e ⊢
   exact ih.2 i w e
theorem sP (σ : L2.St) (vs : List Nat) : wipe (wipe σ vs) vs = wipe σ vs := by
 have key : ∀ (us : List Nat) (τ : L2.St), (∀ i ∈ us, i < τ.length -> τ[i]? = some none) -> wipe τ us = τ := by
  intro us
  induction us with
  | nil => intro τ _; rfl
  | cons v us ih =>
   intro τ hz
   unfold wipe
   rw [ih τ fun i hi hl => hz i (List.mem_cons_of_mem _ hi) hl]
   by_cases hv : v < τ.length
   ·have e := hz v (by simp) hv
    apply List.ext_getElem?
    intro j
    by_cases hj : v = j
    ·subst hj
     rw [List.getElem?_set_self hv, e]
    ·rw [List.getElem?_set_ne hj]
   ·rw [List.set_eq_of_length_le (by omega)]
 refine key vs (wipe σ vs) fun i hi hl => ?_
 cases q : (wipe σ vs)[i]? with
 | none => rw [List.getElem?_eq_none_iff] at q; omega
 | some o =>
  cases o with
  | none => rfl
  | some v => exact absurd hi (wipe_some q).2
abbrev oP (g : Gx) : List Addr -> Hp -> List D -> HO -> Prop := fun μ H acc o => ∃ vs, o = .lst vs /\ RVs g μ H acc vs
def jC (mt : M Bool) (me : M D) : List D -> Sg -> Hh -> R (List D) := fun acc σ h => (noX (mt σ h)).bind fun b h2 => if b = true then
  (noX (me σ h2)).bind fun y h3 => if acc.length < sizeLine then .ok (acc ++ [(aT y h3).1]) (aT y h3).2 else .bad
 else .ok acc h2
def mLc (mi : M Src) (t : Tg) (mt : M Bool) (me : M D) (vs : List Nat) : M D := fun σ h => (mi σ h).bind fun src h1 => (lcL src t (jC mt me) (eF σ vs) fX 0 [] h1).bind fun acc h2 => .ok (.tl acc) h2
/-- no exception is wanted -/
abbrev WF : WX := fun _ _ _ _ => False
section
variable {g : Gx} {X : Cx} {Wx : WX} {elt tg iter tg1 iter1 : Expr} {ifs ifs1 : List Expr} {scope : Scope} {own : List (Str × Nat)} {pos : Pos} {mi mi1 : M Src} {t t1 : Tg} {mt mt1 : M Bool} {me : M D}
/-- in every block that the comprehension may run in -/
abbrev BX (X : Cx) (scope : Scope) (s : Shared) (H : Hp) (C : Addr) (cl : List (Str × Addr)) (fp : List Addr) : Cx := X.blk s H scope (compEnvC scope cl C X.env) fp
def tB1 (X : Cx) (scope : Scope) (e : Expr) : TE := fun σ H Q => ∀ s0 H0 C cl fp, tOf (BX X scope s0 H0 C cl fp) e σ H Q
def tBG (X : Cx) (scope : Scope) (e : Expr) : TG := fun v σ H Q => ∀ s0 H0 C cl fp, aDm (BX X scope s0 H0 C cl fp) e v σ H Q
def SB (g : Gx) (X : Cx) (scope : Scope) (e : Expr) (m : M D) : Prop := ∀ s0 H0 C cl fp, SE g (BX X scope s0 H0 C cl fp) WF e m
def SBT (g : Gx) (X : Cx) (scope : Scope) (e : Expr) (m : M Bool) : Prop := ∀ s0 H0 C cl fp, ST g (BX X scope s0 H0 C cl fp) WF e m
def SBG (g : Gx) (X : Cx) (scope : Scope) (e : Expr) (t : Tg) : Prop := ∀ s0 H0 C cl fp, SG g (BX X scope s0 H0 C cl fp) e t
def tBT (X : Cx) (scope : Scope) (e : Expr) : TT := fun σ H Q => ∀ s0 H0 C cl fp, aDq (BX X scope s0 H0 C cl fp) e σ H Q
/-- from a loop's wish to an expression's, within a block -/
theorem PoL.po {α β : Type} {rel : List Addr -> Hp -> β -> HO -> Prop} {Gr : List Addr -> Hp -> Prop} {μ : List Addr} {H : Hp} {a : Addr} {σ : L2.St} {acc : β} {h : Hh} {r : R α} {f : α -> Hh -> R β} {Nx : Hp -> Prop} (go : GrOk Gr a)
  (mono : ∀ {μ μ' H H' acc o}, Trk μ H -> Ext μ H μ' H' -> rel μ H acc o -> rel μ' H' acc o) (G : Gd g rel Gr a μ h acc H) (p : PoL g rel Gr a ((noX r).bind f) Nx) :
  Po g WF σ μ H r fun x h1 μ1' H1' => (∀ μ2 H2, Ext μ H μ2 H2 -> RH g μ2 h1 H2 -> Gd g rel Gr a μ2 h1 acc H2) /\ PoL g rel Gr a (f x h1) Nx := by
 cases r with
 | ok x h1 => exact fun μ2 H2 x2 r2 => ⟨fun μ3 H3 x3 r3 => G.ext go mono x3 r3, p⟩
 | exc c fs h1 => exact p.elim
 | bad => exact p.elim
theorem nV {μ μ' : List Addr} {H H' : Hp} {acc : List D} {o : HO} (tr : Trk μ H) (x : Ext μ H μ' H') (r : oP g μ H acc o) : oP g μ' H' acc o := by
 obtain ⟨vs, e, z⟩ := r
 exact ⟨vs, e, z.ext tr x⟩
/-- the tests of a clause: none or one -/
inductive STs (g : Gx) (X : Cx) (scope : Scope) : List Expr -> M Bool -> Prop
 | nil : STs g X scope [] (fun _ h => .ok true h)
 | one {c : Expr} {m : M Bool} (hc : SBT g X scope c m) : STs g X scope [c] m
def tTs (X : Cx) (scope : Scope) : List Expr -> TT
 | [c] => tBT X scope c
 | _ => tYes
theorem tP {m : M Bool} (h : STs g X scope ifs m) (s0 : Shared) (H0 : Hp) (C : Addr) (cl : List (Str × Addr)) (fp : List Addr) : PTs (BX X scope s0 H0 C cl fp) ifs (tTs X scope ifs) := by
 cases h with
 | nil => exact pts_nil
 | one hc => exact pts_one ⟨fun pins s σ H Q I hq => hq s0 H0 C cl fp pins s I⟩
theorem aBr {m : M Bool} (h : STs g X scope ifs m) {σw : Sg} {hh : Hh} {σ : L2.St} {H : Hp} {μ : List Addr} {Q : Bool -> Hp -> Prop} (rs : RS g μ H σw σ) (rh : RH g μ hh H) (p : Po g WF σ μ H (m σw hh) (fun b h' μ' H' => Q b H')) : tTs X scope ifs σ H Q := by
 cases h with
 | nil => exact p.at rh
 | one hc => exact fun s0 H0 C cl fp => hc s0 H0 C cl fp σw hh σ H μ Q rs rh p
theorem aDz {acc : List D} {σ : Sg} {h : Hh} {c : Nat} {fs : List (Str × D)} {h' : Hh} : jC mt me acc σ h ≠ .exc c fs h' := fun z => by
 unfold jC at z
 rcases bind_exc z with z | ⟨b, h2, _, z⟩
 ·exact pD z
 ·split at z
  ·rcases bind_exc z with z | ⟨y, h3, _, z⟩
   ·exact pD z
   ·split at z <;> cases z
  ·cases z
/-- one turn's end: the test, the element -/
theorem aKH {Gr : List Addr -> Hp -> Prop} {μ : List Addr} {H : Hp} {a : Addr} {acc : List D} {h : Hh} {σw : Sg} {σ : L2.St} {Nx : Hp -> Prop} (go : GrOk Gr a) (hts : STs g X scope ifs mt) (he : SB g X scope elt me)
  (G : Gd g (oP g) Gr a μ h acc H) (rs : RS g μ H σw σ) (p : PoL g (oP g) Gr a (jC mt me acc σw h) Nx) :
  tTs X scope ifs σ H fun b H3 => if b = true then tB1 X scope elt σ H3 fun y H4 => ∃ acc, H4 a = some (.lst acc) /\ acc.length < sizeLine /\ Nx (upd H4 a (.lst (acc ++ [y]))) else Nx H3 := by
 refine aBr hts rs G.r ((PoL.po (rel := oP g) go nV G p).imp fun b h2 μ2 H2 x2 r2 q2 => ?_)
 obtain ⟨G2, p2⟩ := q2
 have G2 := G2 μ2 H2 x2 r2
 cases b with
 | false => exact p2 μ2 H2 G2
 | true =>
  simp only [if_true] at p2 ⊢
  intro s0 H0 C cl fp
  refine he s0 H0 C cl fp σw h2 σ H2 μ2 _ (rs.ext G.r.trk x2) r2 ((PoL.po (rel := oP g) go nV G2 p2).imp fun y h3 μ3 H3 x3 r3 q3 v qv fv => ?_)
  obtain ⟨G3, p3⟩ := q3
  obtain ⟨μ3', x3', r3', qv', _⟩ := iP r3 qv fv x3
  have G4 : Gd g (oP g) Gr a μ3' (aT y h3).2 acc H3 := G2.ext go nV x3' r3'
  obtain ⟨x4, r4, na4, o, eo, mo, vs, rfl, z⟩ := G4
  split at p3
  ·rename_i hl
   refine ⟨vs, eo, by rw [z.length]; exact hl, p3 μ3' _ ⟨go.up x4 eo rfl na4 rfl, r4.upd eo rfl na4, na4, _, upd_same, rfl, vs ++ [v], rfl, ?_⟩⟩
   exact RVs.append (z.upd eo rfl) ⟨v, [], rfl, eY, qv'.upd eo rfl eY, rfl⟩
  ·exact p3.elim
theorem aH3 {Wx : WX} {μ0 μ1 : List Addr} {H0 H1 : Hp} {D : Addr} {r : R (List PV.D)} {σ : L2.St} {Q : VK} (nx : ∀ c fs h, r ≠ .exc c fs h) (x1 : Ext μ0 H0 μ1 H1) (nD : H1 D = none)
  (p1 : Po g Wx σ μ1 H1 (r.bind fun acc h2 => .ok (.tl acc) h2) fun w h' μ' H' => ∀ v, RV g μ' H' w v -> Fr H0 w v -> Q v H') : PoL g (oP g) (Ext μ1 H1) D r fun H2 => Q (.ref D) H2 := by
 cases r with
 | bad => exact p1.elim
 | exc c fs h2 => exact absurd rfl (nx c fs h2)
 | ok acc h2 =>
  intro μ2 H2 G2
  obtain ⟨o, eo, mo, vs, rfl, z⟩ := G2.ob
  refine p1 μ2 H2 G2.x G2.r (.ref D) ⟨D, vs, rfl, eo, G2.na, z⟩ fun c ec => ?_
  cases ec
  exact Fr.back (w := .tl []) (v := .ref D) x1 (fun c ec => by cases ec; exact nD) D rfl
theorem aHR {μ1 : List Addr} {H1 : Hp} {h1 : Hh} {D : Addr} (r1 : RH g μ1 h1 H1) (nD : H1 D = none) : Gd g (oP g) (Ext μ1 H1) D μ1 h1 [] (upd H1 D (.lst [])) := ⟨.new r1.trk nD, r1.new nD, fun hm => r1.trk.ne nD hm rfl, _, upd_same, rfl, [], rfl, rfl⟩
/-- the block's slots -/
theorem aCf (hi : SI g X Wx tg iter mi) (hg : SBG g X scope tg t) (hts : STs g X scope ifs mt) (he : SB g X scope elt me) (hsl : ∀ i ∈ t.slots, i ∈ own.map (·.2))
  {σw : Sg} {h : Hh} {σ : L2.St} {H : Hp} {μ : List Addr} {Q : VK} (rs : RS g μ H σw σ) (rh : RH g μ h H)
  (po : Po g Wx σ μ H (mLc mi t mt me (own.map (·.2)) σw h) (fun w h' μ' H' => ∀ v, RV g μ' H' w v -> Fr H w v -> Q v H')) :
  tLc (aDo X tg iter) (tBG X scope tg) (tTs X scope ifs) (tB1 X scope elt) (own.map (·.2)) σ H Q := by
 refine hi σw h σ H μ _ rs rh (po.bind.imp fun src h1 μ1 H1 x1 r1 p1 J sk D nD => ?_)
 have rs1 := (rs.ext rh.trk x1).wipe (own.map (·.2))
 have pl := aH3 (fun c fs h => tG (fun _ _ _ _ _ _ => aDz) _ _ _ _) x1 nD p1
 have go := aCO (a := D) r1.trk nD
 refine xU (rel := oP g) go nV (fun μ H h x r i => (sk.ext x).at r i) (fun w x acc h μ H' σ1 Nx G nt qx e2 p2 => ?_) (aHR r1 nD) pl
 intro s0 H0 C cl fp
 refine hg s0 H0 C cl fp w x _ σ1 h _ H' μ _ (rs1.ext r1.trk G.x) G.r nt qx e2 fun σ' rs' w' => ⟨?_, aKH go hts he G rs' p2⟩
 rw [w' _ hsl, sP]
theorem aKi (hc : X.calm = true) (hN : X.N.Nodup) (ok : BlkOk X.N X.env.scope scope own) (hsl : ∀ i ∈ t.slots, i ∈ own.map (·.2)) (hs : ∀ x, foldedSetIterable iter X.env x = pure x)
  (hi : SI g X Wx tg iter mi) (hg : SBG g X scope tg t) (hts : STs g X scope ifs mt) (he : SB g X scope elt me) : SE g X Wx (.ListComp elt [⟨tg, iter, ifs, 0⟩] scope pos) (mLc mi t mt me (own.map (·.2))) := by
 intro σw h σ H μ Q rs rh po
 refine fG (pe_lc hc hN wM ok (fun s0 H0 C cl fp => (⟨fun pins s σ H v u Q I r q => q s0 H0 C cl fp pins s u I r⟩ : PG _ _ (tBG X scope tg))) (fun s0 H0 C cl fp => tP hts s0 H0 C cl fp)
  (fun s0 H0 C cl fp => (⟨fun pins s σ H Q I q => q s0 H0 C cl fp pins s I⟩ : PE _ _ (tB1 X scope elt))) hs) ?_
 exact aCf hi hg hts he hsl rs rh po
end
end PV
end
section
namespace PV
open PySem PySem.Spec PyProof.Rows L2
structure FnG (P : Program) (w : World) (K : PySem.W.Frag) (mg : Str -> Option Value) (base : Heap) (CX : CXT) (k : Nat) (f : Addr) (fd : FuncData) (ps : List Str) (sp : Sp) : Prop where
 len : ∀ vs H Q E, sp vs H Q E -> vs.length = ps.length
 run : ∀ (A : Around) (outer : List Env) (s : Shared) (H : Hp) (args : Args) (us : List Value) (vs : List V) (Q : VK) (E : XK), A.guards = some [] -> Room k A -> Env0 P w K mg base A outer s H -> BindsTo s fd args (ps.zip us) -> Vals vs us -> sp vs H Q E ->
  codeAny (model P w) A (.call (.ref f) args) (CR CX outer P w H s Q E) s
theorem aHK {CX : CXT} {P : Program} {w : World} {K : PySem.W.Frag} {mg : Str -> Option Value} {base : Heap} {k : Nat} {f : Addr} {name qual : Str} {params : Arguments} {body : List Stmt} {scope : Scope} {dV kV doc pm cdv ct oc : Value} {an od : Option Addr}
  {osl : Array (Option Value)} {N ps : List Str} {sp : Sp} (lk : K.lookup f = some ⟨oc, od, .func (PySem.W.fnOf name qual params body scope dV kV doc pm an cdv ct), osl⟩) (hcd : PySem.W.codeIn K cdv qual = true) (S : FnScope N ps scope)
  (len : ∀ vs H Q E, sp vs H Q E -> vs.length = ps.length)
  (hbody : ∀ (A : Around) (outer : List Env) (s : Shared) (H : Hp) (vs : List V) (Q : VK) (E : XK), A.guards = some [] -> Room k (A.deeper (envOfC qual scope s.heap.objs.size f cdv)) -> sp vs H Q E ->
   ∃ t, PSs (cxOf CX P w K mg base N qual scope f cdv A outer s H E) body t /\ t { nx := fun _ H' => Q .non H', rt := Q } (start N vs) H) :
  FnG P w K mg base CX (k + 1) f (PySem.W.fnOf name qual params body scope dV kV doc pm an cdv ct) ps sp := by
 refine ⟨len, fun A outer s H args us vs Q E hgd hr e0 hb r hsp => ?_⟩
 have hl := len _ _ _ _ hsp
 have KX : K.In s.heap := e0.mod.kin.keeps fun b o e => (e0.bs b o e).1
 have lim : s.heap.NoLimit := e0.mod.nolimit.keeps fun b o e => (e0.bs b o e).1
 have hkind : ∀ y ∈ ps.zip us, scope.names.lookup y.1 = some .local \/ (scope.names.lookup y.1 = some .cell /\ ((cellsFrom (s.heap.objs.size + 1) scope.names []).lookup y.1).isSome = true) := fun ⟨n, v⟩ hy => by
  rcases S.par n (List.of_mem_zip hy).1 with q | q
  ·exact .inl q
  ·exact .inr ⟨q, PySem.W.cellsFrom_some _ _ _ (.inl q)⟩
 refine codeAny_call_function hr.depth (KX _ _ lk) rfl S.co S.gen rfl (PySem.W.codeRec_of KX hcd) (hb _ _ _ _ ?_)
 refine wpAny_newFunctionEnv_cells S.kind hkind fun env he s1 x => ?_
 subst he
 refine ⟨lim.keeps x.toInCall.keep, codeAny_func ?_⟩
 obtain ⟨t, ht, hq⟩ := hbody A outer s H vs Q E hgd (hr.deeper _) hsp
 have I : Inv (cxOf CX P w K mg base N qual scope f cdv A outer s H E) [] (start N vs) H s1 := inv_start S hr.hd e0 hl r x
 refine wpAny_mono (ht.run [] s1 (start N vs) H _ I hq) (fun fl s' hs => ?_) fun e s' hs => hs
 have fin : ∀ {σ' : L2.St} {H' : Hp} {v : V} {u : Value}, Inv (cxOf CX P w K mg base N qual scope f cdv A outer s H E) [] σ' H' s' -> RelV v u -> Q v H' -> CE outer P w H s Q u s' :=
  fun {σ' H' v u} J rv q => ⟨v, H', J.os, J.bare, J.base, J.hok, rv, q⟩
 cases fl with
 | ret u =>
  obtain ⟨v, σ', H', J, rv, q⟩ := hs
  exact fin J rv q
 | next =>
  obtain ⟨σ', H', J, q⟩ := hs
  exact fin (v := V.non) (u := Value.none) J rfl q
 | brk =>
  obtain ⟨_, _, _, q⟩ := hs
  exact False.elim q
 | cont =>
  obtain ⟨_, _, _, q⟩ := hs
  exact False.elim q
def aEP (X : Cx) (f : Addr) (vs : List V) (σ : L2.St) (H : Hp) (Q : VK) : Prop := ∀ pins s us, Inv X pins σ H s -> Vals vs us -> wpAny (model X.prog X.w) X.A (call (.ref f) us) (EP X pins σ Q) X.xe s
section
variable {X : Cx} {W : WX} {k : Nat} {f : Addr} {fd : FuncData} {ps : List Str} {sp : Sp} {dvs : List V} {ds : List Value} {x : Str} {p pos : Pos} {e : Expr} {es : List Expr}
theorem aHG {σ : L2.St} {H : Hp} {Q : VK} {vs : List V} (tk : Takes X W) (hgd : X.A.guards = some []) (F : FnG X.prog X.w X.K X.mg X.base (CX X.prog X.w) k f fd ps sp) (hr : Room k X.A) (hb : Binds X.K fd ps ds) (hd : Vals dvs ds)
  (h : sp (vs ++ dvs) H Q (fun cv d H' => W cv d σ H')) : aEP X f vs σ H Q := by
 intro pins s us I r
 have r2 : Vals (vs ++ dvs) (us ++ ds) := r.append hd
 have hl : (us ++ ds).length = ps.length := by rw [<- r2.length]; exact F.len _ _ _ _ h
 refine wpAny_call (codeAny_mono (F.run X.A X.stack s H ⟨us, []⟩ (us ++ ds) (vs ++ dvs) Q _ hgd hr I.env0 (hb s us I.kIn hl) r2 h) fun r s' hq => ?_)
 cases r with
 | error e => exact tk _ _ (XE.of_call I (fun _ _ _ z => z) hq)
 | ok fl =>
  cases fl with
  | ret u => exact I.after hq
  | next => exact False.elim hq
  | brk => exact False.elim hq
  | cont => exact False.elim hq
def tCG (X : Cx) (f : Addr) (t : TA) : TE := fun σ H Q => t σ H fun vs H1 => aEP X f vs σ H1 Q
theorem aJV (hg : Gl X x) (hm : X.mg x = some (.ref f)) (hk : PySem.W.keepIn X.K (.ref f) = true) (hdb : (x == ("__debug__" : Str)) = false) (he : starEach (e :: es) X.env = (false, eval e X.env) :: starEach es X.env)
  (hpl : (backTo pos (starEach es X.env)).any (·.1) = false) : PE X (.Call (.Name x p) (e :: es) [] pos) (tCG X f (aDl X (e :: es))) := by
 refine ⟨fun pins s σ H Q I h => ?_⟩
 refine wpAny_Call_Name_kw (ld_glob I hg hm ?_ hdb)
 refine PySem.W.callWith_K (h₀ := X.base) I.ok.mod.kin hk (thn (h pos pins s I) fun us s1 ⟨vs, H1, I1, r, q⟩ => ⟨I1.kIn, ?_⟩) he hpl
 exact q pins s1 us I1 r
end
mutual
def D.lim (n : Nat) : D -> Bool
 | .ref i => decide (i < n)
 | .tup ws => D.lims n ws
 | .kt ws => D.lims n ws
 | .tl ws => D.lims n ws
 | .fl ws => D.lims n ws
 | .xc _ _ ws => D.lims n ws
 | _ => true
def D.lims (n : Nat) : List D -> Bool
 | [] => true
 | w :: ws => D.lim n w && D.lims n ws
end
def gL {κ : Type} (n : Nat) : List (κ × D) -> Bool
 | [] => true
 | p :: ps => D.lim n p.2 && gL n ps
def Cl.lim (n : Nat) : Cl -> Bool
 | .lst ws => D.lims n ws
 | .dK kvs => gL n kvs
 | .dT kvs => gL n kvs
 | .ins _ fs => gL n fs
/-- the cells of the caller as they were, or without a hold on new ones -/
def hJ (n : Nat) : Hh -> Hh -> Bool
 | [], _ => true
 | c :: cs, d :: ds => (decide (d = c) || d.lim n) && hJ n cs ds
 | _ :: _, [] => false
def gc (h : Hh) (w : D) (h' : Hh) : R D := if hJ h.length h h' = true then
  if w.lim h.length = true then .ok w (h'.take h.length) else match w with
   | .ref i => match h'[i]? with
    | some (.lst ws) => if D.lims h.length ws = true /\ h.length <= i then .ok (.tl ws) (h'.take h.length) else .ok w h'
    | some c => if c.lim h.length = true /\ h.length <= i then .ok (.ref h.length) (h'.take h.length ++ [c]) else .ok w h'
    | none => .ok w h'
   | w => .ok w h'
 else .ok w h'
def gcX (h : Hh) (c : Nat) (fs : List (Str × D)) (h' : Hh) : R D := if hJ h.length h h' = true /\ gL h.length fs = true then .exc c fs (h'.take h.length) else .exc c fs h'
def gcR (h : Hh) (r : R D) : R D := match r with
 | .ok w h' => gc h w h'
 | .exc c fs h' => gcX h c fs h'
 | .bad => .bad
mutual
theorem RV.lim {g : Gx} {μ : List Addr} {H : Hp} : ∀ {w : D} {v : V}, RV g μ H w v -> D.lim μ.length w = true
 | .non, _, _ => rfl
 | .bl _, _, _ => rfl
 | .int _, _, _ => rfl
 | .str _, _, _ => rfl
 | .ty _, _, _ => rfl
 | .fn _, _, _ => rfl
 | .cls _, _, _ => rfl
 | .ref i, _, r => by
  obtain ⟨a, e, _⟩ := r
  simp only [D.lim, decide_eq_true_eq]
  rcases Nat.lt_or_ge i μ.length with z | z
  ·exact z
  ·rw [List.getElem?_eq_none z] at e; cases e
 | .tup ws, _, r => by obtain ⟨_, _, _, _, z⟩ := r; simp only [D.lim]; exact RVs.lim z
 | .xc c ks ws, _, r => by obtain ⟨_, _, _, _, _, _, _, _, _, z⟩ := r; simp only [D.lim]; exact RVs.lim z
 | .kt ws, _, r => by obtain ⟨_, _, _, _, z⟩ := r; simp only [D.lim]; exact RVs.lim z
 | .fl ws, _, r => by obtain ⟨_, _, _, _, z⟩ := r; simp only [D.lim]; exact RVs.lim z
 | .tl ws, _, r => by obtain ⟨_, _, _, _, _, z⟩ := r; simp only [D.lim]; exact RVs.lim z
theorem RVs.lim {g : Gx} {μ : List Addr} {H : Hp} : ∀ {ws : List D} {vs : List V}, RVs g μ H ws vs -> D.lims μ.length ws = true
 | [], _, _ => rfl
 | w :: ws, _, r => by
  obtain ⟨v, rr, _, _, q, z⟩ := r
  simp only [D.lims, RV.lim q, RVs.lim z, Bool.and_self]
end
mutual
theorem RV.cut {g : Gx} {μ e : List Addr} {H : Hp} : ∀ {w : D} {v : V}, D.lim μ.length w = true -> RV g (μ ++ e) H w v -> RV g μ H w v
 | .non, _, _, r => r
 | .bl _, _, _, r => r
 | .int _, _, _, r => r
 | .str _, _, _, r => r
 | .ty _, _, _, r => r
 | .fn _, _, _, r => r
 | .cls _, _, _, r => r
 | .ref i, _, l, r => by
  obtain ⟨a, ea, q⟩ := r
  simp only [D.lim, decide_eq_true_eq] at l
  rw [List.getElem?_append_left l] at ea
  exact ⟨a, ea, q⟩
 | .xc c ks ws, _, l, r => by obtain ⟨a, C, d, vs, e1, hC, q, hl, hd, z⟩ := r; exact ⟨a, C, d, vs, e1, hC, q, hl, hd, RVs.cut (by simpa only [D.lim] using l) z⟩
 | .tup ws, _, l, r => by obtain ⟨a, vs, e1, q, z⟩ := r; exact ⟨a, vs, e1, q, RVs.cut (by simpa only [D.lim] using l) z⟩
 | .kt ws, _, l, r => by obtain ⟨a, vs, e1, q, z⟩ := r; exact ⟨a, vs, e1, q, RVs.cut (by simpa only [D.lim] using l) z⟩
 | .fl ws, _, l, r => by obtain ⟨a, vs, e1, q, z⟩ := r; exact ⟨a, vs, e1, q, RVs.cut (by simpa only [D.lim] using l) z⟩
 | .tl ws, _, l, r => by obtain ⟨a, vs, e1, q, n, z⟩ := r; exact ⟨a, vs, e1, q, fun hm => n (List.mem_append_left _ hm), RVs.cut (by simpa only [D.lim] using l) z⟩
theorem RVs.cut {g : Gx} {μ e : List Addr} {H : Hp} : ∀ {ws : List D} {vs : List V}, D.lims μ.length ws = true -> RVs g (μ ++ e) H ws vs -> RVs g μ H ws vs
 | [], _, _, r => r
 | w :: ws, _, l, r => by
  obtain ⟨v, rr, e1, nt, q, z⟩ := r
  simp only [D.lims, Bool.and_eq_true] at l
  exact ⟨v, rr, e1, nt, RV.cut l.1 q, RVs.cut l.2 z⟩
end
section
variable {g : Gx} {μ e : List Addr} {H H' : Hp} {h h' : Hh}
theorem RKs.cut {κ : Type} : ∀ {ws : List (κ × D)} {vs : List (κ × V)}, gL μ.length ws = true -> RKs g (μ ++ e) H ws vs -> RKs g μ H ws vs
 | [], _, _, r => r
 | w :: ws, _, l, r => by
  obtain ⟨v, rr, e1, nt, q, z⟩ := r
  simp only [gL, Bool.and_eq_true] at l
  exact ⟨v, rr, e1, nt, q.cut l.1, RKs.cut l.2 z⟩
theorem RKs.lim {κ : Type} : ∀ {ws : List (κ × D)} {vs : List (κ × V)}, RKs g μ H ws vs -> gL μ.length ws = true
 | [], _, _ => rfl
 | w :: ws, _, r => by
  obtain ⟨v, rr, _, _, q, z⟩ := r
  simp only [gL, q.lim, RKs.lim z, Bool.and_self]
theorem RC.lim {a : Addr} {c : Cl} (r : RC g μ H a c) : c.lim μ.length = true := by
 cases c with
 | lst ws => obtain ⟨_, _, z⟩ := r; exact z.lim
 | dK ws => obtain ⟨_, _, z⟩ := r; exact z.lim
 | dT ws => obtain ⟨_, _, z⟩ := r; exact z.lim
 | ins c fs => obtain ⟨_, _, _, _, _, z⟩ := r; exact z.lim
theorem RC.cut {a : Addr} {c : Cl} (l : c.lim μ.length = true) (r : RC g (μ ++ e) H a c) : RC g μ H a c := by
 cases c with
 | lst ws => obtain ⟨vs, q, z⟩ := r; exact ⟨vs, q, z.cut l⟩
 | dK ws => obtain ⟨vs, q, z⟩ := r; exact ⟨vs, q, z.cut l⟩
 | dT ws => obtain ⟨vs, q, z⟩ := r; exact ⟨vs, q, z.cut l⟩
 | ins c fs => obtain ⟨C, dx, vs, k, q, z⟩ := r; exact ⟨C, dx, vs, k, q, z.cut l⟩
theorem aAz {n : Nat} : ∀ {h h' : Hh} {i : Nat} {c : Cl}, hJ n h h' = true -> i < h.length -> h'[i]? = some c -> h[i]? = some c \/ c.lim n = true
 | [], _, i, c, _, hl, _ => by simp at hl
 | d :: ds, [], i, c, k, _, _ => by simp [hJ] at k
 | d :: ds, d' :: ds', 0, c, k, _, e => by
  simp only [hJ, Bool.and_eq_true, Bool.or_eq_true, decide_eq_true_eq] at k
  simp at e; subst e
  rcases k.1 with z | z
  ·exact .inl (by simp [z])
  ·exact .inr z
 | d :: ds, d' :: ds', i + 1, c, k, hl, e => by
  simp only [hJ, Bool.and_eq_true] at k
  simp at e hl
  rcases aAz k.2 (by simpa using hl) e with z | z
  ·exact .inl (by simpa using z)
  ·exact .inr z
theorem aAA {n : Nat} : ∀ {h h' : Hh}, hJ n h h' = true -> h.length <= h'.length
 | [], _, _ => Nat.zero_le _
 | d :: ds, [], k => by simp [hJ] at k
 | d :: ds, d' :: ds', k => by
  simp only [hJ, Bool.and_eq_true] at k
  simp only [List.length_cons]
  exact Nat.succ_le_succ (aAA k.2)
/-- the cells of the caller, by themselves -/
theorem RH.shrink (r0 : RH g μ h H) (r : RH g (μ ++ e) h' H') (k : hJ h.length h h' = true) : RH g μ (h'.take h.length) H' := by
 have hl := aAA k
 refine ⟨by rw [List.length_take, r0.len]; omega, r0.nd, fun i c ei => ?_, r.tabs⟩
 have hi : i < h.length := by
  rcases Nat.lt_or_ge i h.length with z | z
  ·exact z
  ·rw [List.getElem?_take_eq_none z] at ei; cases ei
 rw [List.getElem?_take_of_lt hi] at ei
 obtain ⟨a, ea, rc⟩ := r.cell i c ei
 rw [List.getElem?_append_left (by rw [r0.len]; exact hi)] at ea
 refine ⟨a, ea, rc.cut ?_⟩
 rcases aAz k hi ei with z | z
 ·obtain ⟨b, _, rc0⟩ := r0.cell i c z
  exact rc0.lim
 ·rw [r0.len]; exact z
theorem Ext.shrink (x : Ext μ H (μ ++ e) H') : Ext μ H μ H' := ⟨⟨[], by simp, by simp⟩, x.fr', x.lv, x.tb⟩
/-- what a call leaves is enough -/
theorem aFY {σ : L2.St} {Wx : WX} {r : R D} {Q' : VK} (r0 : RH g μ h H) (po : Po g Wx σ μ H (gcR h r) (fun w h' μ' H' => ∀ v, RV g μ' H' w v -> Fr H w v -> Q' v H')) :
  Po g Wx σ μ H r (fun w h' μ' H' => ∀ v, RV g μ' H' w v -> Fr H w v -> Q' v H') := by
 cases r with
 | bad => exact po
 | exc c fs h1 =>
  simp only [gcR, gcX] at po
  split at po
  ·rename_i k
   intro μ1 H1 cv d x1 r1 xv
   obtain ⟨⟨e1, rfl, _⟩, _, _⟩ := id x1
   obtain ⟨C, vs, k1, k2, k3, z⟩ := xv
   exact po μ H1 cv d x1.shrink (r0.shrink r1 k.1) ⟨C, vs, k1, k2, k3, z.cut (by rw [r0.len]; exact k.2)⟩
  ·exact po
 | ok w h1 =>
  simp only [gcR, gc] at po
  split at po
  ·rename_i k
   intro μ1 H1 x1 r1 v qv fv
   obtain ⟨⟨e1, rfl, fr1⟩, _, _⟩ := id x1
   have r2 := r0.shrink r1 k
   split at po
   ·rename_i kl
    exact po μ H1 x1.shrink r2 v (qv.cut (by rw [r0.len]; exact kl)) fv
   ·split at po
    ·rename_i i _
     have plain : ∀ {r : R D}, r = .ok (.ref i) h1 -> Po g Wx σ μ H r (fun w h' μ' H' => ∀ v, RV g μ' H' w v -> Fr H w v -> Q' v H') -> Q' v H1 := fun er p => by
      subst er; exact p (μ ++ e1) H1 x1 r1 v qv fv
     obtain ⟨a, ea, rfl⟩ := qv
     split at po
     ·rename_i ws ec
      split at po
      ·rename_i hc
       obtain ⟨b, eb, vs, hb, z⟩ := r1.cell i _ ec
       rw [ea] at eb; cases eb
       rw [List.getElem?_append_right (by rw [r0.len]; exact hc.2)] at ea
       have hm : a ∈ e1 := fZ ea
       have na : a ∉ μ := fun h2 => (List.nodup_append.mp r1.nd).2.2 a h2 a hm rfl
       exact po μ H1 x1.shrink r2 (.ref a) ⟨a, vs, rfl, hb, na, z.cut (by rw [r0.len]; exact hc.1)⟩ fun c ec => by cases ec; exact fr1 a hm
      ·exact plain rfl po
     ·rename_i c ncl ec
      split at po
      ·rename_i hc
       obtain ⟨b, eb, rc⟩ := r1.cell i _ ec
       rw [ea] at eb; cases eb
       rw [List.getElem?_append_right (by rw [r0.len]; exact hc.2)] at ea
       have hm : a ∈ e1 := fZ ea
       have na : a ∉ μ := fun h2 => (List.nodup_append.mp r1.nd).2.2 a h2 a hm rfl
       have x3 : Ext μ H (μ ++ [a]) H1 := ⟨⟨[a], rfl, fun y hy => by
        have : y = a := by simpa using hy
        subst this; exact fr1 _ hm⟩, x1.fr', x1.lv, x1.tb⟩
       refine po (μ ++ [a]) H1 x3 (r2.track na (rc.cut (by rw [r0.len]; exact hc.1))) (.ref a) ⟨a, ?_, rfl⟩ (.of rfl)
       rw [<- r0.len]; simp
      ·exact plain rfl po
     ·exact plain rfl po
    ·exact po (μ ++ e1) H1 x1 r1 v qv fv
  ·exact po
end
end PV
end
section
namespace PV
open PySem PySem.Spec PyProof.Rows L2
/-- the values in the order of the parameters -/
def cY {α : Type} (perm : List Nat) (l : List α) : Option (List α) := aJ (fun i => l[i]?) perm
abbrev Cll := Nat -> List D -> Hh -> R D
def aK (cl : Cll) (f : Nat) (m : M (List D)) : M D := fun σ h => gcR h ((m σ h).bind fun ws h1 => cl f ws h1)
def mR (cl : Cll) (f : Nat) (m : M (List D)) (perm : List Nat) : M D := fun σ h => gcR h ((m σ h).bind fun ws h1 => match cY perm ws with
 | some ws => cl f ws h1
 | none => .bad)
/-- a def by its own-level meaning -/
def qT (g : Gx) (n : Nat) (cl : List D -> Hh -> R D) : Sp := fun vs H Q E => ∃ (ws : List D) (h : Hh) (μ : List Addr) (σ : L2.St), vs.length = n /\ RVs g μ H ws vs /\ RH g μ h H /\
 Po g (fun cv d _ H' => E cv d H') σ μ H (cl ws h) (fun w h' μ' H' => ∀ v, RV g μ' H' w v -> Fr H w v -> Q v H')
section
variable {g : Gx} {X : Cx} {Wx : WX} {k : Nat} {f : Nat} {fa : Addr} {fd : FuncData} {ps : List Str} {cl : Cll} {x : Str} {p pos : Pos} {e : Expr} {es : List Expr} {ms : List (M D)}
theorem aHF {n : Nat} {ds : List Value} {dws : List D} {dvs : List V} {σ : L2.St} {H : Hp} {Q : VK} {vs : List V} {ws : List D} {h : Hh} {μ : List Addr} (tk : Takes X Wx) (hgd : X.A.guards = some []) (hr : Room k X.A)
  (F : FnG X.prog X.w X.K X.mg X.base (CX X.prog X.w) k fa fd ps (qT g ps.length (cl f))) (hb : Binds X.K fd ps ds) (hd : Vals dvs ds) (rd : RVs g μ H dws dvs)
  (hl : vs.length + dvs.length = ps.length) (q : RVs g μ H ws vs) (rh : RH g μ h H)
  (po : Po g Wx σ μ H (cl f (ws ++ dws) h) (fun w h' μ' H' => ∀ v, RV g μ' H' w v -> Fr H w v -> Q v H')) : aEP X fa vs σ H Q := by
 refine aHG tk hgd F hr hb hd ⟨ws ++ dws, h, μ, σ, by rw [List.length_append]; exact hl, q.append rd, rh, ?_⟩
 cases hx : cl f (ws ++ dws) h with
 | ok w h1 => rw [hx] at po; exact po
 | exc c fs h1 => rw [hx] at po; exact po
 | bad => rw [hx] at po; exact po
theorem aG3 {ds : List Value} {dws : List D} {dvs : List V} (tk : Takes X Wx) (hgd : X.A.guards = some []) (hr : Room k X.A) (F : FnG X.prog X.w X.K X.mg X.base (CX X.prog X.w) k fa fd ps (qT g ps.length (cl f)))
  (hb : Binds X.K fd ps ds) (hd : Vals dvs ds) (rd : ∀ μ H, RVs g μ H dws dvs) (hg : Gl X x) (hm : X.mg x = some (.ref fa)) (hk : PySem.W.keepIn X.K (.ref fa) = true) (hdb : (x == ("__debug__" : Str)) = false)
  (he : starEach (e :: es) X.env = (false, eval e X.env) :: starEach es X.env) (hpl : (backTo pos (starEach es X.env)).any (·.1) = false) (hl : ms.length + dws.length = ps.length)
  (ha : SA g X Wx (e :: es) (aA ms)) : SE g X Wx (.Call (.Name x p) (e :: es) [] pos) (aK (fun f ws h => cl f (ws ++ dws) h) f (aA ms)) := by
 intro σw h σ H μ Q rs rh po
 refine fG (aJV hg hm hk hdb he hpl) ?_
 have po2 := aFY rh po
 cases hx : aA ms σw h with
 | bad => rw [hx] at po2; exact po2.elim
 | exc c fs h1 =>
  rw [hx] at po2
  refine ha σw h σ H μ _ rs rh ?_
  rw [hx]; exact po2
 | ok ws h1 =>
  rw [hx, R.bind_ok] at po2
  refine ha σw h σ H μ _ rs rh ?_
  rw [hx]
  intro μ1 H1 x1 r1 vs qs
  have l1 := qs.length
  have l2 := rV hx
  have l3 := (rd μ1 H1).length
  exact aHF (n := 0) tk hgd hr F hb hd (rd μ1 H1) (by omega) qs r1 ((po2.ext x1).imp fun w h3 μ3 H3 x3 r3 q3 v qv fv => q3 v qv (fv.back x1))
def aDp (X : Cx) (kws : List Keyword) : TA := fun σ H Q => ∀ pos pins s, Inv X pins σ H s -> wpAny (model X.prog X.w) X.A (evalAll ((backToKw pos (keywordEach kws X.env)).map (·.2))) (AP X pins σ Q) X.xe s
theorem aJY {kws : List Keyword} : PK X kws (aDp X kws) := ⟨fun pos pins s σ H Q I h => h pos pins s I⟩
theorem aIe {kws : List Keyword} {t : TA} (p : PK X kws t) {σ : L2.St} {H : Hp} {Q : List V -> Hp -> Prop} (h : t σ H Q) : aDp X kws σ H Q := fun pos pins s I => p.run pos pins s σ H Q I h
def SK (g : Gx) (X : Cx) (Wx : WX) (kws : List Keyword) (m : M (List D)) : Prop := ∀ (σw : Sg) (h : Hh) (σ : L2.St) (H : Hp) (μ : List Addr) (Q : List V -> Hp -> Prop), RS g μ H σw σ -> RH g μ h H ->
 Po g Wx σ μ H (m σw h) (fun ws h' μ' H' => ∀ vs, RVs g μ' H' ws vs -> Q vs H') -> aDp X kws σ H Q
theorem aIU : SK g X Wx [] (aA []) := fun σw h σ H μ Q rs rh po => aIe pk_nil (po.at rh [] rfl)
theorem aG7 {nm : Option Str} {kpos : Pos} {kws : List Keyword} {ma : M D} (ha : SE g X Wx e ma) (hr : SK g X Wx kws (aA ms)) : SK g X Wx (⟨nm, e, kpos⟩ :: kws) (aA (ma :: ms)) := by
 intro σw h σ H μ Q rs rh po
 refine aIe (pk_cons bB aJY) (ha σw h σ H μ _ rs rh (po.bind2.imp fun w h1 μ1 H1 x1 r1 p1 v qv fv => ?_))
 obtain ⟨μ1', x1', r1', q1', _⟩ := iP r1 qv fv x1
 refine hr σw _ σ H1 μ1' _ (rs.ext rh.trk x1') r1' ((p1 μ1' H1 x1').bind.imp fun ws h2 μ2 H2 x2 r2 p2 vs qs => ?_)
 exact p2.at r2 (v :: vs) ⟨v, vs, rfl, eY, q1'.ext r1'.trk x2, qs⟩
/-- how a call with keywords binds -/
def KB (K : PySem.W.Frag) (fd : FuncData) (ps : List Str) (n : Nat) (ks : List Str) (perm : List Nat) : Prop := ∀ (s : Shared) (us ws xs : List Value), K.In s.heap -> us.length = n -> ws.length = ks.length -> cY perm (us ++ ws) = some xs ->
 BindsTo s fd ⟨us, ks.zip ws⟩ (ps.zip xs)
theorem aD5 {μ : List Addr} {H : Hp} {ws xs : List D} {vs : List V} : ∀ {perm : List Nat}, cY perm ws = some xs -> RVs g μ H ws vs -> ∃ ys, cY perm vs = some ys /\ RVs g μ H xs ys
 | perm, e, r => by
  unfold cY at e ⊢
  induction perm generalizing xs with
  | nil => unfold aJ at e; cases e; exact ⟨[], rfl, rfl⟩
  | cons i perm ih =>
   unfold aJ at e
   split at e
   ·rename_i a b ea eb
    cases e
    obtain ⟨v, ev, nt, q⟩ := r.get ea
    obtain ⟨ys, ey, z⟩ := ih eb
    refine ⟨v :: ys, ?_, v, ys, rfl, nt, q, z⟩
    unfold aJ
    rw [ev, ey]
   ·cases e
theorem aC1 {vs ys : List V} {us : List Value} : ∀ {perm : List Nat}, cY perm vs = some ys -> Vals vs us -> ∃ xs, cY perm us = some xs /\ Vals ys xs
 | perm, e, r => by
  unfold cY at e ⊢
  induction perm generalizing ys with
  | nil => unfold aJ at e; cases e; exact ⟨[], rfl, .nil⟩
  | cons i perm ih =>
   unfold aJ at e
   split at e
   ·rename_i a b ea eb
    cases e
    obtain ⟨u, eu, q⟩ := r.get ea
    obtain ⟨xs, ex, z⟩ := ih eb
    refine ⟨u :: xs, ?_, .cons q z⟩
    unfold aJ
    rw [eu, ex]
   ·cases e
/-- the call by values, with keywords -/
theorem aGq {kws : List Keyword} {ks : List Str} {perm : List Nat} {n : Nat} {σ : L2.St} {H : Hp} {Q : VK} {vs zs ys : List V} {us zus : List Value} {pins : List (Addr × Obj)} {s : Shared} {sp : Sp} (tk : Takes X Wx) (hgd : X.A.guards = some []) (hr : Room k X.A)
  (F : FnG X.prog X.w X.K X.mg X.base (CX X.prog X.w) k fa fd ps sp) (kb : KB X.K fd ps n ks perm) (I : Inv X pins σ H s) (r : Vals vs us) (rz : Vals zs zus) (hn : vs.length = n) (hz : zs.length = ks.length)
  (ep : cY perm (vs ++ zs) = some ys) (h : sp ys H Q (fun cv d H' => Wx cv d σ H')) : wpAny (model X.prog X.w) X.A (call (.ref fa) us (ks.zip zus)) (EP X pins σ Q) X.xe s := by
 obtain ⟨xs, ex, rx⟩ := aC1 ep (r.append rz)
 have hu : us.length = n := by rw [<- r.length]; exact hn
 have hw : zus.length = ks.length := by rw [<- rz.length]; exact hz
 refine wpAny_call (codeAny_mono (F.run X.A X.stack s H ⟨us, ks.zip zus⟩ xs ys Q _ hgd hr I.env0 (kb s us zus xs I.kIn hu hw ex) rx h) fun r s' hq => ?_)
 cases r with
 | error e => exact tk _ _ (XE.of_call I (fun _ _ _ z => z) hq)
 | ok fl =>
  cases fl with
  | ret u => exact I.after hq
  | next => exact False.elim hq
  | brk => exact False.elim hq
  | cont => exact False.elim hq
theorem aEm {kws : List Keyword} {ks : List Str} {perm : List Nat} (tk : Takes X Wx) (hgd : X.A.guards = some []) (hr : Room k X.A) (F : FnG X.prog X.w X.K X.mg X.base (CX X.prog X.w) k fa fd ps (qT g ps.length (cl f)))
  (kb : KB X.K fd ps 0 ks perm) (hg : Gl X x) (hm : X.mg x = some (.ref fa)) (hk : PySem.W.keepIn X.K (.ref fa) = true) (hdb : (x == ("__debug__" : Str)) = false)
  (hall : (backToKw pos (keywordEach kws X.env)).all (·.1.isSome) = true) (hks : (backToKw pos (keywordEach kws X.env)).filterMap (·.1) = ks) (hno : (backToKw pos (keywordEach kws X.env)).any (·.1.isNone) = false)
  (hp : perm.length = ps.length) (hlk : ms.length = ks.length) (ha : SK g X Wx kws (aA ms)) : SE g X Wx (.Call (.Name x p) [] kws pos) (mR cl f (aA ms) perm) := by
 intro σw h σ H μ Q rs rh po
 have po2 := aFY rh po
 intro pins s I
 refine wpAny_Call_Name_kw (ld_glob I hg hm ?_ hdb)
 have main : aDp X kws σ H fun zs H1 => ∀ pins s us, Inv X pins σ H1 s -> Vals zs us -> wpAny (model X.prog X.w) X.A (call (.ref fa) [] (ks.zip us)) (EP X pins σ Q) X.xe s := by
  refine ha σw h σ H μ _ rs rh ?_
  cases hx : aA ms σw h with
  | bad => rw [hx] at po2; exact po2.elim
  | exc c fs h1 => rw [hx] at po2; exact po2
  | ok ws h1 =>
   rw [hx, R.bind_ok] at po2
   intro μ1 H1 x1 r1 vs qs pins s us I r
   have l1 := qs.length
   have l2 := rV hx
   cases ep : cY perm ws with
   | none => rw [ep] at po2; exact po2.elim
   | some xs =>
    rw [ep] at po2
    simp only at po2
    obtain ⟨ys, ey, z⟩ := aD5 ep qs
    refine aGq (kws := kws) tk hgd hr F kb I (.nil) r rfl (by omega) (by simpa using ey) ⟨xs, h1, μ1, σ, ?_, z, r1, ?_⟩
    ·rw [uZ ey]; exact hp
    ·have po3 := (po2.ext x1).imp (Q' := fun w h' μ' H' => ∀ v, RV g μ' H' w v -> Fr H1 w v -> Q v H') fun w h3 μ3 H3 x3 r3 q3 v qv fv => q3 v qv (fv.back x1)
     cases hc : cl f xs h1 with
     | ok w h4 => rw [hc] at po3; exact po3
     | exc c fs h4 => rw [hc] at po3; exact po3
     | bad => rw [hc] at po3; exact po3
 refine PySem.W.callWith_KW0 (h₀ := X.base) I.ok.mod.kin hk hall (thn (main pos pins s I) fun us s1 ⟨vs, H1, I1, r, q⟩ => ⟨I1.kIn, ?_⟩) (by rw [hno]; rfl)
 rw [hks]
 exact q pins s1 us I1 r
end
end PV
end
section
namespace PV
open PySem PySem.Spec PyProof.Rows L2
def vB (x : D) (h : Hh) : R D := match x with
 | .int i => .ok (.int (-i)) h
 | _ => .bad
section
variable {g : Gx} {X : Cx} {Wx : WX} {a b c : Expr} {ma mb mc : M D} {f f' : D -> D -> Hh -> R D} {pos : Pos}
theorem aIO (ha : SE g X Wx a ma) : SE g X Wx (.UnaryOp .USub a pos) (mF1 vB ma) := by
 intro σw h σ H μ Q rs rh po
 refine fG (pe_un un_neg bB) (ha σw h σ H μ _ rs rh (po.bind.imp fun x h1 μ1 H1 x1 r1 p1 v qv fv => ?_))
 unfold vB at p1
 split at p1
 ·exact ⟨_, qv, p1.at r1 _ rfl (.of rfl)⟩
 ·exact p1.elim
end
end PV
end
section
namespace PV
open PySem PySem.Spec PyProof.Rows L2
section
variable {g : Gx} {X : Cx} {Wx : WX} {elt tg iter tg1 iter1 : Expr} {ifs ifs1 : List Expr} {scope : Scope} {own : List (Str × Nat)} {pos py spos : Pos} {mi mi1 : M Src} {t t1 : Tg} {mt mt1 : M Bool} {me : M D} {vs1 : List Nat} {i : Nat} {y : Str}
theorem aBW {m : M D} {t : TE} (hr : ∀ {σw : Sg} {h : Hh} {σ : L2.St} {H : Hp} {μ : List Addr} {Q : VK}, RS g μ H σw σ -> RH g μ h H -> Po g Wx σ μ H (m σw h) (fun w h' μ' H' => ∀ v, RV g μ' H' w v -> Fr H w v -> Q v H') -> t σ H Q)
  {σw : Sg} {h : Hh} {σ : L2.St} {H : Hp} {μ : List Addr} {E : Ends} (rs : RS g μ H σw σ) (rh : RH g μ h H) (po : PoS g Wx μ H (aS (.nm i) m σw h) E) : tAsg t (gName i) E σ H := by
 refine hr rs rh ((PoS.then rs rh po).imp fun w h1 μ1 H1 x1 r1 p1 v qv fv => ?_)
 obtain ⟨μ1', x1', r1', q1', _⟩ := iP r1 qv fv x1
 have p2 := p1 μ1' H1 x1'
 simp only [Tg.set] at p2
 exact p2.at r1' ((rs.ext rh.trk x1').set eY q1' i)
theorem aFK (hc : X.calm = true) (hN : X.N.Nodup) (hy : X.N[i]? = some y) (hyl : X.env.scope.names.lookup y = some .local) (hsw : swapsWith (.ListComp elt [⟨tg, iter, ifs, 0⟩] scope pos) (some (.Name y py)) spos.line X.env = pure true)
  (ok : BlkOk X.N X.env.scope scope own) (hsl : ∀ i ∈ t.slots, i ∈ own.map (·.2)) (hs : ∀ x, foldedSetIterable iter X.env x = pure x)
  (hi : SI g X Wx tg iter mi) (hg : SBG g X scope tg t) (hts : STs g X scope ifs mt) (he : SB g X scope elt me) : SS g X Wx (.Assign [.Name y py] (.ListComp elt [⟨tg, iter, ifs, 0⟩] scope pos) spos) (aS (.nm i) (mLc mi t mt me (own.map (·.2)))) := by
 intro σw h σ H μ E rs rh po
 refine mU (ps_setLc hc hN hy hyl hsw wM ok (fun s0 H0 C cl fp => (⟨fun pins s σ H v u Q I r q => q s0 H0 C cl fp pins s u I r⟩ : PG _ _ (tBG X scope tg))) (fun s0 H0 C cl fp => tP hts s0 H0 C cl fp)
  (fun s0 H0 C cl fp => (⟨fun pins s σ H Q I q => q s0 H0 C cl fp pins s I⟩ : PE _ _ (tB1 X scope elt))) hs) ?_
 exact aBW (aCf hi hg hts he hsl) rs rh po
end
abbrev FST := Program -> World -> PySem.W.Frag -> (Str -> Option Value) -> Heap -> Gx -> Nat -> Cll -> Prop
structure Good (FS : FST) (g : Gx) (k : Nat) (cl : Cll) (N : List Str) (sc : Scope) (fq : Str -> Bool) (X : Cx) (Wx : WX) : Prop where
 K : X.K = g.K
 calm : X.calm = true
 eN : X.N = N
 nd : N.Nodup
 sc : X.env.scope = sc
 fn : X.fn = fq
 room : Room (k + 3) X.A
 gd : X.A.guards = some []
 tk : Takes X Wx
 fs : FS X.prog X.w X.K X.mg X.base g k cl
def okV (N : List Str) (sc : Scope) (i : Nat) (x : Str) : Bool := decide (N[i]? = some x) && (match sc.names.lookup x with
 | some .local => true
 | some .cell => true
 | some .free => true
 | _ => false) && !(x == ("__debug__" : Str)) && !(x == ("__classdict__" : Str))
def okT (N : List Str) (sc : Scope) (fq : Str -> Bool) (i : Nat) (x : Str) : Bool := decide (N[i]? = some x) && (match sc.names.lookup x with
 | some .local => true
 | some .cell => fq x
 | _ => false)
def okL (N : List Str) (sc : Scope) (i : Nat) (x : Str) : Bool := decide (N[i]? = some x) && (match sc.names.lookup x with
 | some .local => true
 | _ => false)
def okG (sc : Scope) (x : Str) : Bool := (match sc.names.lookup x with
 | some .globalImplicit => true
 | _ => false) && !(x == ("__debug__" : Str)) && !(decide (x = "__name__"))
section
variable {FS : FST} {g : Gx} {k : Nat} {cl : Cll} {N : List Str} {sc : Scope} {fq : Str -> Bool} {X : Cx} {Wx : WX} {pos p : Pos} {x : Str} {i : Nat}
theorem Good.un (G : Good FS g k cl N sc fq X Wx) : X.A.units + 65 < cLine := by have := G.room.un; omega
theorem Good.xN (G : Good FS g k cl N sc fq X Wx) : X.N.Nodup := by rw [G.eN]; exact G.nd
theorem Good.var (G : Good FS g k cl N sc fq X Wx) (i : Nat) (h : okV N sc i x = true) : SE g X Wx (.Name x pos) (mV i) := by
 unfold okV at h
 simp only [Bool.and_eq_true, Bool.not_eq_true', decide_eq_true_eq] at h
 obtain ⟨⟨⟨h1, h2⟩, h3⟩, h4⟩ := h
 refine aEn (by rw [G.eN]; exact h1) ?_ h3 h4
 rw [G.sc]
 unfold Vis
 split at h2
 ·exact .inl ‹_›
 ·exact .inr (.inl ‹_›)
 ·exact .inr (.inr ‹_›)
 ·cases h2
theorem Good.tgt (G : Good FS g k cl N sc fq X Wx) (i : Nat) (h : okT N sc fq i x = true) : SG g X (.Name x pos) (.nm i) := by
 unfold okT at h
 simp only [Bool.and_eq_true, decide_eq_true_eq] at h
 obtain ⟨h1, h2⟩ := h
 refine aCs G.xN (by rw [G.eN]; exact h1) ?_ ?_
 ·rw [G.sc]
  unfold L2.Loc
  split at h2
  ·exact .inl ‹_›
  ·exact .inr ‹_›
  ·cases h2
 ·rw [G.sc, G.fn]
  split at h2
  ·exact .inr ‹_›
  ·exact .inl h2
  ·cases h2
theorem Good.loc (G : Good FS g k cl N sc fq X Wx) (h : okL N sc i x = true) : X.N[i]? = some x /\ X.env.scope.names.lookup x = some .local := by
 unfold okL at h
 simp only [Bool.and_eq_true, decide_eq_true_eq] at h
 obtain ⟨h1, h2⟩ := h
 refine ⟨by rw [G.eN]; exact h1, ?_⟩
 rw [G.sc]
 split at h2
 ·rename_i e; exact e
 ·cases h2
theorem Good.gl (G : Good FS g k cl N sc fq X Wx) (h : okG sc x = true) : Gl X x /\ (x == ("__debug__" : Str)) = false /\ x ≠ "__name__" := by
 unfold okG at h
 simp only [Bool.and_eq_true, Bool.not_eq_true', decide_eq_false_iff_not] at h
 obtain ⟨⟨h1, h2⟩, h3⟩ := h
 refine ⟨?_, h2, h3⟩
 unfold Gl Env.kindOf
 rw [G.sc]
 split at h1
 ·rename_i e; exact e
 ·cases h1
/-- a name of the module that holds a plain value -/
theorem Good.con (G : Good FS g k cl N sc fq X Wx) {u : Value} {v : V} {w : D} (h : okG sc x = true) (hm : X.mg x = some u) (ru : RelV v u) (nt : w.isTl = false) (rv : ∀ μ H, RV g μ H w v) : SE g X Wx (.Name x pos) (mC w) := by
 obtain ⟨h1, h2, h3⟩ := G.gl h
 exact yE ⟨fun pins s σ H Q I q => ld_glob I h1 hm ⟨v, H, I, ru, q⟩ h2⟩ nt rv
/-- a built-in type by its name -/
theorem Good.typ (G : Good FS g k cl N sc fq X Wx) {n : String} (h : okG sc x = true) (hm : X.mg x = none) (hv : bootBuiltins x = some (.type n)) : SE g X Wx (.Name x pos) (mC (.ty n)) := by
 obtain ⟨h1, h2, h3⟩ := G.gl h
 exact yE ⟨fun pins s σ H Q I q => ld_blt I h1 hm hv (show _ from ⟨.ty n, H, I, rfl, q⟩) h3 h2⟩ rfl fun _ _ => rfl
theorem Good.b1 (G : Good FS g k cl N sc fq X Wx) {bv : Value} {f : D -> Hh -> R D} {a : Expr} {ma : M D} (h : okG sc x = true) (hm : X.mg x = none) (hv : bootBuiltins x = some bv) (hb : oO bv = true) (s : SC1 g X Wx bv f) (he : starEach [a] X.env = [(false, eval a X.env)]) (ha : SE g X Wx a ma) :
  SE g X Wx (.Call (.Name x p) [a] [] pos) (mF1 f ma) := by
 obtain ⟨h1, h2, h3⟩ := G.gl h
 exact aGd s hb h1 hm hv h3 h2 he ha
theorem Good.b2 (G : Good FS g k cl N sc fq X Wx) {bv : Value} {f : D -> D -> Hh -> R D} {a b : Expr} {ma mb : M D} (h : okG sc x = true) (hm : X.mg x = none) (hv : bootBuiltins x = some bv) (hb : oO bv = true) (s : SC2 g X Wx bv f)
  (he : starEach [a, b] X.env = [(false, eval a X.env), (false, eval b X.env)]) (he2 : starEach [b] X.env = [(false, eval b X.env)]) (ha : SE g X Wx a ma) (hb' : SE g X Wx b mb) :
  SE g X Wx (.Call (.Name x p) [a, b] [] pos) (mOp f ma mb) := by
 obtain ⟨h1, h2, h3⟩ := G.gl h
 exact aKe s hb h1 hm hv h3 h2 he he2 ha hb'
end
/-- a def of the module: its object, its promise -/
def FnF (P : Program) (w : World) (K : PySem.W.Frag) (mg : Str -> Option Value) (base : Heap) (g : Gx) (k : Nat) (cl : Cll) (f : Nat) (x : Str) (st : Stmt) (ps : List Str) : Prop :=
 ∃ fa fd, mg x = some (.ref fa) /\ g.fa f = some fa /\ FunD K x x (defArgs st) (defBody st) (defScope st) [] [] fa fd /\ FnG P w K mg base (CX P w) (k + 3) fa fd ps (qT g ps.length (cl f))
/-- how its arguments are bound, all by place -/
def BdF (x : Str) (st : Stmt) (ps : List Str) : Prop := ∀ (kV doc pm : Value) (an : Option Addr) (cdv ct : Value) (us : List Value), us.length = ps.length -> bindArgs (PySem.W.fnOf x x (defArgs st) (defBody st) (defScope st) .none kV doc pm an cdv ct) ⟨us, []⟩ = pure (ps.zip us)
def BdK (x : Str) (st : Stmt) (ps ks : List Str) (perm : List Nat) : Prop := ∀ (kV doc pm : Value) (an : Option Addr) (cdv ct : Value) (ws xs : List Value), ws.length = ks.length -> cY perm ws = some xs ->
 bindArgs (PySem.W.fnOf x x (defArgs st) (defBody st) (defScope st) .none kV doc pm an cdv ct) ⟨[], ks.zip ws⟩ = pure (ps.zip xs)
section
variable {FS : FST} {g : Gx} {k : Nat} {cl : Cll} {N : List Str} {sc : Scope} {fq : Str -> Bool} {X : Cx} {Wx : WX} {pos p : Pos} {x : Str} {i f : Nat} {st : Stmt} {ps : List Str} {e : Expr} {es : List Expr} {ms : List (M D)}
theorem aE5 (cl : Cll) (f : Nat) (m : M (List D)) : aK (fun f ws h => cl f (ws ++ []) h) f m = aK cl f m := by
 simp only [List.append_nil]
theorem Good.call (G : Good FS g k cl N sc fq X Wx) (h : okG sc x = true) (F : FnF X.prog X.w X.K X.mg X.base g k cl f x st ps) (bd : BdF x st ps)
  (he : starEach (e :: es) X.env = (false, eval e X.env) :: starEach es X.env) (hpl : (backTo pos (starEach es X.env)).any (·.1) = false) (hl : ms.length = ps.length)
  (ha : SA g X Wx (e :: es) (aA ms)) : SE g X Wx (.Call (.Name x p) (e :: es) [] pos) (aK cl f (aA ms)) := by
 obtain ⟨h1, h2, h3⟩ := G.gl h
 obtain ⟨fa, fd, hm, hf, D, FG⟩ := F
 rw [<- aE5]
 exact aG3 (dws := []) (dvs := []) (ds := []) G.tk G.gd G.room FG (D.bindsN bd) .nil (fun _ _ => rfl) h1 hm D.kp h2 he hpl (by simpa using hl) ha
theorem FunD.kb {K : PySem.W.Frag} {fa : Addr} {fd : FuncData} {ks : List Str} {perm : List Nat} (D : FunD K x x (defArgs st) (defBody st) (defScope st) [] [] fa fd) (bd : BdK x st ps ks perm) : KB K fd ps 0 ks perm := by
 obtain ⟨oc, od, dV, kV, doc, pm, an, cdv, ct, osl, rfl, lk, hcd, hD, hK⟩ := D.ex
 rcases hD with ⟨_, rfl⟩ | ⟨e, _⟩
 ·intro s us ws xs KX hu hw ex
  have : us = [] := List.eq_nil_of_length_eq_zero hu
  subst this
  exact .of_eq (bd kV doc pm an cdv ct ws xs hw ex)
 ·exact absurd rfl e
theorem Good.callK (G : Good FS g k cl N sc fq X Wx) {kws : List Keyword} (ks : List Str) (perm : List Nat) (h : okG sc x = true) (F : FnF X.prog X.w X.K X.mg X.base g k cl f x st ps) (bd : BdK x st ps ks perm)
  (hall : (backToKw pos (keywordEach kws X.env)).all (·.1.isSome) = true) (hks : (backToKw pos (keywordEach kws X.env)).filterMap (·.1) = ks) (hno : (backToKw pos (keywordEach kws X.env)).any (·.1.isNone) = false)
  (hp : perm.length = ps.length) (hlk : ms.length = ks.length) (ha : SK g X Wx kws (aA ms)) : SE g X Wx (.Call (.Name x p) [] kws pos) (mR cl f (aA ms) perm) := by
 obtain ⟨h1, h2, h3⟩ := G.gl h
 obtain ⟨fa, fd, hm, hf, D, FG⟩ := F
 exact aEm G.tk G.gd G.room FG (FunD.kb D bd) h1 hm D.kp h2 hall hks hno hp hlk ha
end
theorem Good.blk {FS : FST} {g : Gx} {k : Nat} {cl : Cll} {N : List Str} {sc : Scope} {fq : Str -> Bool} {X : Cx} {Wx : WX} (G : Good FS g k cl N sc fq X Wx) (scope : Scope) (s0 : Shared) (H0 : Hp) (C : Addr) (cls : List (Str × Addr)) (fp : List Addr) :
  Good FS g k cl N (relS scope sc) (fun x => scope.names.lookup x == some .cell) (BX X scope s0 H0 C cls fp) WF where
 K := G.K
 calm := G.calm
 eN := G.eN
 nd := G.nd
 sc := by rw [<- G.sc]; rfl
 fn := rfl
 room := G.room
 gd := G.gd
 tk := fun u s' ⟨a, B, sI, pins, σ, H, cls, d, e, I, nb, up, sky, na, os, ag, w⟩ => w.elim
 fs := G.fs
/-- the names of a block -/
def okB (N : List Str) (sc scope : Scope) (own : List (Str × Nat)) : Bool := (match scope.kind with
  | .function => true
  | _ => false) && scope.names.all (fun y => match scope.names.lookup y.1, y.2 with
  | some .local, .local => true
  | some .cell, .cell => true
  | some .free, .free => true
  | some .globalImplicit, .globalImplicit => true
  | _, _ => false) && own.all (fun p => decide (N[p.2]? = some p.1)) && scope.names.all (fun y => match y.2 with
  | .free => (match sc.names.lookup y.1 with
   | some .cell => true
   | some .free => true
   | _ => false)
  | .local => decide (y.1 ∈ own.map (·.1)) || decide (y.1 ∉ N)
  | .cell => decide (y.1 ∈ own.map (·.1)) || decide (y.1 ∉ N)
  | .globalImplicit => true
  | _ => false)
theorem Good.bok {FS : FST} {g : Gx} {k : Nat} {cl : Cll} {N : List Str} {sc : Scope} {fq : Str -> Bool} {X : Cx} {Wx : WX} {scope : Scope} {own : List (Str × Nat)} (G : Good FS g k cl N sc fq X Wx) (h : okB N sc scope own = true) : BlkOk X.N X.env.scope scope own := by
 unfold okB at h
 simp only [Bool.and_eq_true, List.all_eq_true, decide_eq_true_eq] at h
 obtain ⟨⟨⟨h1, h2⟩, h3⟩, h4⟩ := h
 rw [G.eN, G.sc]
 refine ⟨?_, fun y hy => ?_, h3, fun y hy e => ?_, fun y hy e => ?_⟩
 ·split at h1
  ·assumption
  ·cases h1
 ·have z := h2 y hy
  split at z
  ·rw [‹y.2 = _›]; assumption
  ·rw [‹y.2 = _›]; assumption
  ·rw [‹y.2 = _›]; assumption
  ·rw [‹y.2 = _›]; assumption
  ·cases z
 ·have z := h4 y hy
  rw [e] at z
  simp only at z
  split at z
  ·exact .inl ‹_›
  ·exact .inr ‹_›
  ·cases z
 ·have z := h4 y hy
  rcases e with e | e
  ·rw [e] at z
   simpa using z
  ·rw [e] at z
   simpa using z
def sJ (l vs : List Nat) : Bool := l.all fun i => decide (i ∈ vs)
theorem tU {l vs : List Nat} (h : sJ l vs = true) : ∀ i ∈ l, i ∈ vs := fun i hi => of_decide_eq_true (List.all_eq_true.mp h i hi)
section
variable {FS : FST} {g : Gx} {k : Nat} {cl : Cll} {N : List Str} {sc : Scope} {fq : Str -> Bool} {X : Cx} {Wx : WX} {elt tg iter tg1 iter1 : Expr} {ifs ifs1 : List Expr} {scope : Scope} {pos py spos : Pos} {mi mi1 : M Src} {t t1 : Tg} {mt mt1 : M Bool} {me : M D} {y : Str}
abbrev fqB (scope : Scope) : Str -> Bool := fun x => scope.names.lookup x == some .cell
/-- none or one test, within a block -/
inductive GTs (FS : FST) (g : Gx) (k : Nat) (cl : Cll) (N : List Str) (sc : Scope) (fq : Str -> Bool) : List Expr -> M Bool -> Prop
 | nil : GTs FS g k cl N sc fq [] (fun _ h => .ok true h)
 | one {c : Expr} {m : M Bool} (hc : ∀ X, Good FS g k cl N sc fq X WF -> ST g X WF c m) : GTs FS g k cl N sc fq [c] m
theorem GTs.sts (G : Good FS g k cl N sc fq X Wx) (h : GTs FS g k cl N (relS scope sc) (fqB scope) ifs mt) : STs g X scope ifs mt := by
 cases h with
 | nil => exact .nil
 | one hc => exact .one fun s0 H0 C c1 fp => hc _ (G.blk scope s0 H0 C c1 fp)
theorem Good.lc (G : Good FS g k cl N sc fq X Wx) (own : List (Str × Nat)) (vs : List Nat) (hB : okB N sc scope own = true) (hvs : own.map (·.2) = vs) (hsl : sJ t.slots vs = true) (hs : ∀ x, foldedSetIterable iter X.env x = pure x) (hi : SI g X Wx tg iter mi)
  (hg : ∀ X, Good FS g k cl N (relS scope sc) (fqB scope) X WF -> SG g X tg t) (ht : GTs FS g k cl N (relS scope sc) (fqB scope) ifs mt) (he : ∀ X, Good FS g k cl N (relS scope sc) (fqB scope) X WF -> SE g X WF elt me) :
  SE g X Wx (.ListComp elt [⟨tg, iter, ifs, 0⟩] scope pos) (mLc mi t mt me vs) := by
 subst hvs
 exact aKi G.calm G.xN (G.bok hB) (tU hsl) hs hi (fun s0 H0 C c1 fp => hg _ (G.blk scope s0 H0 C c1 fp)) (ht.sts G) (fun s0 H0 C c1 fp => he _ (G.blk scope s0 H0 C c1 fp))
/-- the compiler stores the list at once: a local name of the def, on one line -/
def vC (sc scope : Scope) (y : Str) (py pos : Pos) : Bool := (match sc.kind with
  | .function => true
  | _ => false) && (py.line == pos.line) && !(scope.names.any fun (n, k) => n == y && (k == .local || k == .cell))
theorem Good.sw (G : Good FS g k cl N sc fq X Wx) {gs : List Comprehension} {l : Nat} (h : vC sc scope y py pos = true) (hy : X.env.scope.names.lookup y = some .local) : swapsWith (.ListComp elt gs scope pos) (some (.Name y py)) l X.env = pure true := by
 unfold vC at h
 simp only [Bool.and_eq_true, Bool.not_eq_true'] at h
 obtain ⟨⟨h1, h2⟩, h3⟩ := h
 refine sw_true ?_ hy h2 h3
 rw [G.sc]
 split at h1
 ·rename_i e; exact e
 ·cases h1
theorem Good.setLc (G : Good FS g k cl N sc fq X Wx) (i : Nat) (own : List (Str × Nat)) (vs : List Nat) (hl : okL N sc i y = true) (hw : vC sc scope y py pos = true) (hB : okB N sc scope own = true) (hvs : own.map (·.2) = vs) (hsl : sJ t.slots vs = true) (hs : ∀ x, foldedSetIterable iter X.env x = pure x) (hi : SI g X Wx tg iter mi)
  (hg : ∀ X, Good FS g k cl N (relS scope sc) (fqB scope) X WF -> SG g X tg t) (ht : GTs FS g k cl N (relS scope sc) (fqB scope) ifs mt) (he : ∀ X, Good FS g k cl N (relS scope sc) (fqB scope) X WF -> SE g X WF elt me) :
  SS g X Wx (.Assign [.Name y py] (.ListComp elt [⟨tg, iter, ifs, 0⟩] scope pos) spos) (aS (.nm i) (mLc mi t mt me vs)) := by
 subst hvs
 obtain ⟨h1, h2⟩ := G.loc hl
 exact aFK G.calm G.xN h1 h2 (G.sw hw h2) (G.bok hB) (tU hsl) hs hi (fun s0 H0 C c1 fp => hg _ (G.blk scope s0 H0 C c1 fp)) (ht.sts G) (fun s0 H0 C c1 fp => he _ (G.blk scope s0 H0 C c1 fp))
theorem aCt {ts : List Expr} {v : Expr} {env env' : Env} (h : env.scope = env'.scope) : swappedStores ts v env = swappedStores ts v env' := by
 unfold swappedStores Env.blockKind Env.kindOf
 rw [h]
/-- some environment with this scope -/
def env0 (sc : Scope) : Env := { scope := sc, locals := 0, globals := 0, cells := [], qual := "", func := none, code := .none, frame := none, builtins := 0 }
theorem Good.par (G : Good FS g k cl N sc fq X Wx) (i j : Nat) {x y : Str} {a b : Expr} {ma mb : M D} {px py pt : Pos} {kt k2 pt2} (hi : okL N sc i x = true) (hj : okL N sc j y = true) (hij : i ≠ j) (ha : SA g X Wx [a, b] (aA [ma, mb]))
  (hw : swappedStores [.Tuple [.Name x px, .Name y py] kt pt] (.Tuple [a, b] k2 pt2) (env0 sc) = pure (some [x, y])) (hs : swapsWithSole [.Tuple [.Name x px, .Name y py] kt pt] (.Tuple [a, b] k2 pt2) spos.line X.env = pure false) :
  SS g X Wx (.Assign [.Tuple [.Name x px, .Name y py] kt pt] (.Tuple [a, b] k2 pt2) spos) (aS (.tu [.nm i, .nm j]) (bE (aA [ma, mb]))) := by
 obtain ⟨h1, h2⟩ := G.loc hi
 obtain ⟨h3, h4⟩ := G.loc hj
 exact aI4 G.calm G.xN h1 h3 hij h2 h4 ha ((aCt G.sc).trans hw) hs
end
end PV
end
section
namespace PV
open PySem PySem.Spec PyProof.Rows L2
/-- what a def's own body has, and a try's body too -/
structure HP (X : Cx) : Prop where
 p : PassesOwn (model X.prog X.w) X.A X.env X.xe
 st : X.stack = X.env :: X.outer
 fr : X.env.frame = some X.env.locals
 ex : X.ex = []
def aV (n : Nat) (ws : List D) : Sg := ws.map some ++ List.replicate (n - ws.length) none
def fF (r : RT) : R D := match r with
 | .nx _ h => .ok .non h
 | .ret w h => .ok w h
 | .exc c fs _ h => .exc c fs h
 | _ => .bad
/-- a def: how many names, how many parameters, what its body does -/
structure Fd where
 nN : Nat
 np : Nat
 body : Cll -> MS
abbrev Tab := Nat -> Option Fd
def aBb (d : Fd) (cl : Cll) (ws : List D) (h : Hh) : R D := if ws.length = d.np then fF (d.body cl (aV d.nN ws) h) else .bad
def aL (T : Tab) : Nat -> Cll
 | 0 => fun _ _ _ => .bad
 | k + 1 => fun f ws h => match T f with
  | some d => aBb d (aL T k) ws h
  | none => .bad
theorem aEz {g : Gx} {μ : List Addr} {H : Hp} {N : List Str} : ∀ {ws : List D} {vs : List V}, RVs g μ H ws vs -> ws.length <= N.length -> RS g μ H (aV N.length ws) (L2.start N vs) := by
 intro ws vs q hl
 have l := q.length
 refine ⟨?_, fun i w e => ?_⟩
 ·unfold aV L2.start
  simp [l]
 ·unfold aV at e
  unfold L2.start
  rcases Nat.lt_or_ge i ws.length with hi | hi
  ·rw [List.getElem?_append_left (by simpa using hi)] at e
   rw [List.getElem?_map] at e
   cases e2 : ws[i]? with
   | none => rw [e2] at e; cases e
   | some w' =>
    rw [e2] at e
    cases e
    obtain ⟨v, ev, nt, z⟩ := q.get e2
    refine ⟨v, ?_, nt, z⟩
    rw [List.getElem?_append_left (by simpa [l] using hi), List.getElem?_map, ev]
    rfl
  ·rw [List.getElem?_append_right (by simpa using hi)] at e
   rw [List.getElem?_replicate] at e
   split at e <;> cases e
section
variable {FS : FST} {P : Program} {w : World} {K : PySem.W.Frag} {mg : Str -> Option Value} {base : Heap} {g : Gx} {k : Nat} {x : Str} {st : Stmt} {fa : Addr} {fd : FuncData} {N ps : List Str} {T : Tab} {f : Nat} {m : Cll -> MS}
theorem aEU {n : Nat} : FnG P w K mg base (CX P w) n fa fd ps (qT g ps.length (aL T 0 f)) :=
 ⟨fun vs H Q E ⟨ws, h, μ, σ, hl, _⟩ => hl, fun A outer s H args us vs Q E _ _ _ _ _ ⟨ws, h, μ, σ, hl, q, rh, po⟩ => po.elim⟩
theorem aAu {q : Str} {dvs : List V} {kws : List (Str × V)} (D : FunD K x q (defArgs st) (defBody st) (defScope st) dvs kws fa fd) (S : FnScope N ps (defScope st)) (hK : K = g.K) (fs : FS P w K mg base g k (aL T k)) (hT : T f = some ⟨N.length, ps.length, m⟩) (hn : ps.length <= N.length)
  (sl : ∀ X Wx, Good FS g k (aL T k) N (defScope st) (fun _ => true) X Wx -> HP X -> SL g X Wx (defBody st) (m (aL T k))) :
  FnG P w K mg base (CX P w) (k + 1 + 3) fa fd ps (qT g ps.length (aL T (k + 1) f)) := by
 obtain ⟨oc, od, dV, kV, doc, pm, an, cdv, ct, osl, rfl, lk, hcd, _, _⟩ := D.ex
 refine aHK (k := k + 3) lk hcd S (fun vs H Q E ⟨ws, h, μ, σ, hl, _⟩ => hl) fun A outer s H vs Q E hgd hr ⟨ws, h, μ, σ, hl, qq, rh, po⟩ => ?_
 have l := qq.length
 refine ⟨_, hY, ?_⟩
 have G : Good FS g k (aL T k) N (defScope st) (fun _ => true) (cxOf (CX P w) P w K mg base N q (defScope st) fa cdv A outer s H E) (fun cv d _ H' => E cv d H') :=
  ⟨hK, rfl, rfl, S.nd, rfl, rfl, hr, hgd, takes_of rfl rfl rfl rfl, fs⟩
 refine sl _ _ G ⟨passes_of rfl, rfl, rfl, rfl⟩ (aV N.length ws) h (L2.start N vs) H μ _ (aEz qq (by omega)) rh ?_
 have e : aL T (k + 1) f ws h = aBb ⟨N.length, ps.length, m⟩ (aL T k) ws h := by simp only [aL, hT]
 rw [e] at po
 have hw : ws.length = ps.length := by omega
 simp only [aBb, hw, if_true] at po
 cases hx : m (aL T k) (aV N.length ws) h with
 | nx σ1 h1 => rw [hx] at po; exact fun μ1 H1 σ1' x1 r1 s1 => po μ1 H1 x1 r1 .non rfl (.of rfl)
 | ret w1 h1 => rw [hx] at po; exact fun μ1 H1 v x1 r1 q1 f1 => po μ1 H1 x1 r1 v q1 f1
 | brk σ1 h1 => rw [hx] at po; exact po.elim
 | cont σ1 h1 => rw [hx] at po; exact po.elim
 | exc c fs1 σ1 h1 => rw [hx] at po; exact fun μ1 H1 σ1' cv d x1 r1 s1 v1 => po μ1 H1 cv d x1 r1 v1
 | bad => rw [hx] at po; exact po.elim
theorem bN (D : FunD K x x (defArgs st) (defBody st) (defScope st) [] [] fa fd) (hm : mg x = some (.ref fa)) (hf : g.fa f = some fa) : FnF P w K mg base g 0 (aL T 0) f x st ps := ⟨fa, fd, hm, hf, D, aEU⟩
end
end PV
end
section
namespace PV
open PySem PySem.Spec PyProof.Rows L2
/-- the script alone may be tracked, and it is never written -/
structure Alone (K : PySem.W.Frag) (H : Hp) (a : Addr) : Prop where
 at_ : ∀ b, H b = none \/ b = a /\ ∃ o xs, H b = some (.frz o (.lst xs))
 own : H a = none \/ K.lookup a = none
section
variable {P : Program} {w : World} {K : PySem.W.Frag} {mg mb : Str -> Option Value} {k : Nat} {fa a : Addr} {fd : FuncData} {x : Str} {sp : Sp} {s₁ : Shared} {vs : List Value} {ns : List Int} {H : Hp}
theorem aAH (al : Alone K H a) (KX : K.In s₁.heap) (hns : s₁.heap.Ns mainGlobals mg) (hb : s₁.heap.Ns builtinsNs mb) (hbb : ∀ x : Str, x ≠ "__name__" -> mb x = bootBuiltins x) (hlim : s₁.heap.NoLimit) (hg : s₁.gens = #[])
  (ha : s₁.heap.get? a = some { cls := .type "list", data := .seq vs.toArray }) (hok : HOk P w H s₁.heap) (hr : Room k callerA)
  (F : ∀ base : Heap, K.In base -> base.Ns mainGlobals mg -> FnG P w K mg base (CX P w) k fa fd [x] sp) (hbind : ∀ (s : Shared) (u : Value), BindsTo s fd ⟨[u], []⟩ [(x, u)])
  (hsp : sp [.ref a] H (fun v _ => v = .bl true) fun _ _ _ => False) :
  codeAny (model P w) callerA (.call (.ref fa) ⟨[.ref a], []⟩) (fun r s' => r = .ok (.ret (.bool true)) /\ OldK s₁.heap s'.heap /\ s'.os = s₁.os /\ AllBare s'.gens) s₁ := by
 generalize hB : hidT s₁.heap H = B
 have get : ∀ {b : Addr} {o : Obj}, s₁.heap.get? b = some o -> H b = none -> B.get? b = some o := fun e n => by rw [<- hB]; exact hidT_get e n
 have dict : ∀ {b : Addr} {o : Obj} {es : Array DictEntry} {ep : Nat}, s₁.heap.get? b = some o -> o.data = .dict es ep -> H b = none := by
  intro b o es ep e d
  rcases al.at_ b with z | ⟨rfl, _⟩
  ·exact z
  ·exfalso
   rw [ha] at e
   cases Option.some.inj e
   exact Data.noConfusion d
 have keepNs : ∀ {b : Addr} {m : Str -> Option Value}, s₁.heap.Ns b m -> B.Ns b m := by
  rintro b m ⟨o, es, ep, e, d, r⟩
  exact ⟨o, es, ep, get e (dict e d), d, r⟩
 have kb : K.In B := by
  intro b o e
  refine get (KX b o e) ?_
  rcases al.at_ b with z | ⟨rfl, _⟩
  ·exact z
  ·rcases al.own with z | z
   ·exact z
   ·rw [z] at e; cases e
 obtain ⟨mc, c1, c2⟩ := hlim
 have env : Env0 P w K mg B callerA [] s₁ H := ⟨rfl, ⟨kb, keepNs hns, ⟨mb, keepNs hb, hbb⟩, ⟨mc, keepNs c1, c2⟩⟩, fun b o e => of_hidT (by rw [hB]; exact e), by rw [<- hB]; exact Nat.le_of_eq (hidT_size _ _), trivial, fun b hb => absurd (show b ∈ ([] : List Addr) from hb) (by simp), hok, .of_eq hg⟩
 have run := (F B kb (keepNs hns)).run callerA [] s₁ H ⟨[.ref a], []⟩ [.ref a] [.ref a] _ _ rfl hr env (hbind s₁ (.ref a)) (.cons rfl .nil) hsp
 refine codeAny_mono run ?_
 rintro (e | fl) s' hq
 ·obtain ⟨_, _, _, _, _, _, _, _, _, _, _, _, z⟩ := hq
  exact z.elim
 ·cases fl with
  | next => exact False.elim hq
  | brk => exact False.elim hq
  | cont => exact False.elim hq
  | ret u =>
   obtain ⟨v, H', os, bare, un, hok', rv, qv⟩ := hq
   rw [show v = .bl true from qv] at rv
   rw [show u = Value.bool true from rv]
   refine ⟨rfl, OldK.of_keep fun b o e => ?_, os, bare⟩
   rcases al.at_ b with z | ⟨rfl, ob, xs, z⟩
   ·exact un.keep b o e z (fun z => absurd (show b ∈ ([] : List Addr) from z) (by simp)) (by simp)
   ·have h1 := (hok b _ z).1
    have h2 := (hok' b _ (un.frzs b ob _ z)).1
    exact h2.trans (h1.symm.trans e)
theorem aDU (KX : K.In s₁.heap) (hns : s₁.heap.Ns mainGlobals mg) (hb : s₁.heap.Ns builtinsNs mb) (hbb : ∀ x : Str, x ≠ "__name__" -> mb x = bootBuiltins x) (hlim : s₁.heap.NoLimit) (hg : s₁.gens = #[])
  (ha : s₁.heap.get? a = some { cls := .type "list", data := .seq vs.toArray }) (hi : IntsAre vs ns) (hl : ns.length <= sizeLine) (hr : Room k callerA)
  (F : ∀ base : Heap, K.In base -> base.Ns mainGlobals mg -> FnG P w K mg base (CX P w) k fa fd [x] sp) (hbind : ∀ (s : Shared) (u : Value), BindsTo s fd ⟨[u], []⟩ [(x, u)])
  (hsp : ∀ H : Hp, SqF K H a (ns.map V.int) -> sp [.ref a] H (fun v _ => v = .bl true) fun _ _ _ => False) :
  codeAny (model P w) callerA (.call (.ref fa) ⟨[.ref a], []⟩) (fun r s' => r = .ok (.ret (.bool true)) /\ OldK s₁.heap s'.heap /\ s'.os = s₁.os /\ AllBare s'.gens) s₁ := by
 have rv := vals_ints hi
 have lv := hi.length
 by_cases hk : K.lookup a = none
 ·have e : (fun b : Addr => if b = a then some (HO.frz { cls := .type "list", data := .seq vs.toArray } (.lst (ns.map V.int))) else none) a = some (HO.frz { cls := .type "list", data := .seq vs.toArray } (.lst (ns.map V.int))) := if_pos rfl
  generalize hH : (fun b : Addr => if b = a then some (HO.frz { cls := .type "list", data := .seq vs.toArray } (.lst (ns.map V.int))) else none) = H at e
  have other : ∀ b, b ≠ a -> H b = none := fun b n => by rw [<- hH]; exact if_neg n
  refine aAH (H := H) ⟨fun b => ?_, .inr hk⟩ KX hns hb hbb hlim hg ha (fun b u z => ?_) hr F hbind (hsp H (.inl ⟨_, e⟩))
  ·by_cases n : b = a
   ·exact .inr ⟨n, by rw [n]; exact ⟨_, _, e⟩⟩
   ·exact .inl (other b n)
  ·by_cases n : b = a
   ·subst n
    rw [e] at z
    cases Option.some.inj z
    exact ⟨ha, by rw [List.length_map]; exact hl, vs, _, rv, ha⟩
   ·rw [other b n] at z; cases z
 ·cases q : K.lookup a with
  | none => exact absurd q hk
  | some o =>
   have e := KX a o q
   rw [ha] at e
   cases Option.some.inj e
   exact aAH (H := fun _ => none) ⟨fun _ => .inl rfl, .inl rfl⟩ KX hns hb hbb hlim hg ha (fun b u z => by cases z) hr F hbind
    (hsp _ (.inr ⟨_, vs.toArray, _, q, rfl, rfl, rfl, by rw [List.size_toArray, lv]; exact hl, by simpa using rv⟩))
end
theorem walkG {l : PySem.W.OpenLaw} {n k : Nat} {q : Program} {loose : List Str} {XP : (Str -> Option Value) -> Heap -> Prop} {YP : World -> Heap -> Prop} {d : DefRec} {x : Str} (hn : l.most = some n) (hn2 : n <= sizeLine) (hdf : d.params.defaults = []) (hr : Room k callerA)
  (F : ∀ (w : World) (mg : Str -> Option Value) (fa : Addr) (h : Heap), YP w h -> h.Ns mainGlobals mg -> mg d.name = some (.ref fa) ->
   ∃ (K : PySem.W.Frag) (fd : FuncData) (sp : Sp), K.In h /\ (∀ (s : Shared) (u : Value), BindsTo s fd ⟨[u], []⟩ [(x, u)]) /\
    (∀ (H : Hp) (a : Addr) (ns : List Int), ns.length <= n -> SqF K H a (ns.map V.int) -> sp [.ref a] H (fun v _ => v = .bl true) fun _ _ _ => False) /\
    ∀ base : Heap, K.In base -> base.Ns mainGlobals mg -> FnG l.prog w K mg base (CX l.prog w) k fa fd [x] sp) :
  PySem.W.WalkO q loose XP YP l.row.toRowW d [] (fun f vs => PySem.call f vs) := by
 refine Att.attach_call hn hdf ?_
 intro w s₀ s₁ mg mb fa o pm cd doc a vs ns G Y ho hd hcd hmg hobj hints hlen hg
 obtain ⟨K, fd, sp, KX, hb, hsp, hF⟩ := F w mg fa _ Y G.T.g hmg
 exact aDU KX G.T.g G.T.b G.T.builtins G.T.nolimit hg hobj hints (Nat.le_trans hlen hn2) hr hF hb fun H hS => hsp H a ns hlen hS
end PV
end
section
namespace PV
open PySem PySem.Spec PyProof.Rows L2
def on1 (T : String) (op : Op1) : String -> Option Op1 := fun t => if t = T then some op else none
def on0 (T : String) (op : Op0) : String -> Option Op0 := fun t => if t = T then some op else none
def on2 (T : String) (op : Op2) : String -> Option Op2 := fun t => if t = T then some op else none
theorem rW : MtF "list" "append" "list.append" := ⟨PySem.F.plainAttrs_list, PySem.F.slot_list_append, PySem.F.type_list_append⟩
theorem yU : MtF "list" "extend" "list.extend" := ⟨PySem.F.plainAttrs_list, PySem.F.slot_list_extend, PySem.F.type_list_extend⟩
theorem aDY : MtF "list" "pop" "list.pop" := ⟨PySem.F.plainAttrs_list, PySem.F.slot_list_pop, PySem.F.type_list_pop⟩
section
variable {FS : FST} {g : Gx} {k : Nat} {cl : Cll} {N : List Str} {sc : Scope} {fq : Str -> Bool} {X : Cx} {Wx : WX} {o a b : Expr} {mo ma mb : M D} {name : Str} {apos cpos : Pos} {T id : String} {op0 : Op0} {op1 : Op1} {op2 : Op2}
theorem Good.m1 (G : Good FS g k cl N sc fq X Wx) (F : MtF T name id) (sm : SM1 g X Wx id op1) (hbase : attributeBase o name X.env (eval o X.env) = eval o X.env) (hline : (apos.endLine == cpos.line) = true) (hs : starEach [a] X.env = [(false, eval a X.env)])
  (ho : SE g X Wx o mo) (ha : SE g X Wx a ma) : SE g X Wx (.Call (.Attribute o name apos) [a] [] cpos) (mM1 (on1 T op1) mo ma) :=
 aKj G.K F (fun T' op e => by
  unfold on1 at e
  split at e
  ·rename_i h; subst h; cases e; exact ⟨id, F, sm⟩
  ·cases e) hbase hline hs ho ha
theorem Good.m2 (G : Good FS g k cl N sc fq X Wx) (F : MtF T name id) (sm : SM2 g X Wx id op2) (hbase : attributeBase o name X.env (eval o X.env) = eval o X.env) (hline : (apos.endLine == cpos.line) = true)
  (hs : starEach [a, b] X.env = [(false, eval a X.env), (false, eval b X.env)]) (hs2 : starEach [b] X.env = [(false, eval b X.env)])
  (ho : SE g X Wx o mo) (ha : SE g X Wx a ma) (hb : SE g X Wx b mb) : SE g X Wx (.Call (.Attribute o name apos) [a, b] [] cpos) (mM2 (on2 T op2) mo ma mb) :=
 aKk G.K F (fun T' op e => by
  unfold on2 at e
  split at e
  ·rename_i h; subst h; cases e; exact ⟨id, F, sm⟩
  ·cases e) hbase hline hs hs2 ho ha hb
/-- isinstance with one built-in type -/
def qC (x y : D) (h : Hh) : R D := match y with
 | .ty n => match aCS h x n with
  | some b => .ok (.bl b) h
  | none => .bad
 | _ => .bad
theorem aIE (hK : X.K = g.K) : SC2 g X Wx (.builtin "isinstance") qC := by
 intro x y h σ H μ vx vy Q rh qx qy po
 unfold qC at po
 split at po
 ·rename_i n
  split at po
  ·rename_i r e
   unfold aCS at e
   split at e
   ·rename_i t et
    rw [show vy = .ty n from qy]
    exact eG call_isi ⟨vx, .ty n, .type t, .type n, r, rfl, .ty n, by rw [hK]; exact aED rh qx et, kit_ty e, po.at rh _ rfl (.of rfl)⟩
   ·cases e
  ·exact po.elim
 ·exact po.elim
end
end PV
end
section
namespace PV
open PySem PySem.Spec PyProof.Rows L2
section
variable {FS : FST} {g : Gx} {k : Nat} {cl : Cll} {N : List Str} {sc : Scope} {fq : Str -> Bool} {X : Cx} {Wx : WX} {x : Str} {pos : Pos}
theorem Good.u1 (G : Good FS g k cl N sc fq X Wx) : X.A.units + 1 < cLine := by have := G.un; omega
theorem Good.u64 (G : Good FS g k cl N sc fq X Wx) : X.A.units + 64 < cLine := by have := G.un; omega
theorem Good.u0 (G : Good FS g k cl N sc fq X Wx) : X.A.units < cLine := by have := G.un; omega
theorem Good.conS (G : Good FS g k cl N sc fq X Wx) {z : Str} (h : okG sc x = true) (hm : ∃ t, X.mg x = some (.str z t)) : SE g X Wx (.Name x pos) (mC (.str z)) := by
 obtain ⟨t, hm⟩ := hm
 exact G.con (v := .str z) h hm ⟨t, rfl⟩ rfl fun _ _ => rfl
theorem Good.sws (G : Good FS g k cl N sc fq X Wx) {ts : List Expr} {v : Expr} {r : Sem (Option (List Str))} (h : swappedStores ts v (env0 sc) = r) : swappedStores ts v X.env = r := (aCt (env' := env0 sc) G.sc).trans h
end
end PV
end
section
namespace PV
open PySem PySem.Spec PyProof.Rows L2
/-- no starred one -/
def nSt : Expr -> Bool
 | .Starred _ _ => false
 | _ => true
def dG : List Expr -> Bool
 | [] => true
 | e :: es => nSt e && dG es
/-- no comprehension, no set -/
def nCo : Expr -> Bool
 | .ListComp .. => false
 | .SetComp .. => false
 | .DictComp .. => false
 | _ => true
def vA : Expr -> Bool
 | .Set .. => false
 | _ => true
def nSl : Expr -> Bool
 | .Slice .. => false
 | _ => true
/-- a test whose value is looked at -/
def vTe : Expr -> Bool
 | .UnaryOp .. => false
 | .BoolOp .. => false
 | .IfExp .. => false
 | .Compare .. => false
 | _ => true
def nC0 : Expr -> Bool
 | .Call _ [] _ _ => false
 | _ => true
section
variable {e a b o i : Expr} {es : List Expr} {env : Env} {pos tpos : Pos}
theorem qV (h : nSt e = true) : starEach (e :: es) env = (false, eval e env) :: starEach es env := by cases e <;> first | rfl | cases h
theorem oA (h : nSt a = true) : starEach [a] env = [(false, eval a env)] := qV h
theorem aEy (h : dG [a, b] = true) : starEach [a, b] env = [(false, eval a env), (false, eval b env)] := by
 simp only [dG, Bool.and_true, Bool.and_eq_true] at h
 rw [qV h.1, oA h.2]
theorem aGf (h : dG es = true) : (backTo pos (starEach es env)).any (·.1) = false := by
 induction es with
 | nil => rfl
 | cons e es ih =>
  simp only [dG, Bool.and_eq_true] at h
  rw [qV h.1]
  unfold backTo
  rw [List.map_cons, List.any_cons]
  exact ih h.2
theorem aEL (h : nSt e = true) : assignEach (e :: es) env = (false, assign e env) :: assignEach es env := by cases e <;> first | rfl | cases h
theorem aCA (h : nSt e = true) : (assignEach (e :: es) env).map (·.2) = assign e env :: (assignEach es env).map (·.2) := by rw [aEL h]; rfl
theorem aLa (h : dG es = true) : (assignEach es env).length = es.length := by
 induction es with
 | nil => rfl
 | cons e es ih =>
  simp only [dG, Bool.and_eq_true] at h
  rw [aEL h.1, List.length_cons, List.length_cons, ih h.2]
theorem aK9 (h : dG es = true) : (assignEach es env).findIdx? (·.1) = none := by
 induction es with
 | nil => rfl
 | cons e es ih =>
  simp only [dG, Bool.and_eq_true] at h
  rw [aEL h.1, List.findIdx?_cons]
  simp [ih h.2]
theorem swN {t : Option Expr} {l : Nat} (h : nCo e = true) : swapsWith e t l env = pure false := by cases e <;> first | rfl | cases h
theorem swS {t : Expr} {l : Nat} (h : nCo e = true) : swapsWithSole [t] e l env = pure false := swN h
theorem wB {x : Value} (h : vA e = true) : foldedSetIterable e env x = pure x := by cases e <;> first | rfl | cases h
theorem ixP (h : nSl b = true) : PlainIx b := fun o i => by cases b <;> first | rfl | cases h
theorem aKD {whole : Sem Value} (h : vTe a = true) : isTrue a env whole = (do let v <- whole; standAt a.pos; holding [v] (truthy v)) := by cases a <;> first | rfl | cases h
theorem aHA {n : Str} (h : nC0 o = true) : attributeBase o n env (eval o env) = eval o env := by
 cases o
 case Call f as ks p =>
  cases as with
  | nil => cases h
  | cons a as => cases f <;> rfl
 all_goals rfl
theorem aHo {x : Str} {p : Pos} : swappedStores [.Name x p] e env = pure none := by cases e <;> rfl
theorem aJf {p : Pos} : swappedStores [.Subscript o i p] e env = pure none := by cases e <;> rfl
theorem aHz (h : nSl i = true) (v : Value) : assign (.Subscript o i tpos) env v = (do
   let ov <- holding [v] (eval o env)
   let iv <- holding [v, ov] (eval i env)
   standAt tpos
   holding [v, ov, iv] (setItem ov iv v)
   release [v, ov, iv] []) := by cases i <;> first | rfl | cases h
end
section
variable {FS : FST} {g : Gx} {k : Nat} {cl : Cll} {N : List Str} {sc : Scope} {fq : Str -> Bool} {X : Cx} {Wx : WX} {pos p apos cpos tpos spos : Pos} {x name : Str} {f : Nat} {st : Stmt} {ps : List Str} {e a b o i tg iter : Expr} {es : List Expr} {ma mb mo me mi : M D} {ms : List (M D)}
theorem sac (ha : SE g X Wx e ma) (hr : SA g X Wx es (aA ms)) (h : nSt e = true) : SA g X Wx (e :: es) (aA (ma :: ms)) := aG0 ha hr (qV h)
theorem Good.cal (G : Good FS g k cl N sc fq X Wx) (h : okG sc x = true) (F : FnF X.prog X.w X.K X.mg X.base g k cl f x st ps) (bd : BdF x st ps) (hs : dG (e :: es) = true) (hl : ms.length = ps.length) (ha : SA g X Wx (e :: es) (aA ms)) :
  SE g X Wx (.Call (.Name x p) (e :: es) [] pos) (aK cl f (aA ms)) := by
 simp only [dG, Bool.and_eq_true] at hs
 exact G.call h F bd (qV hs.1) (aGf hs.2) hl ha
theorem Good.calK (G : Good FS g k cl N sc fq X Wx) {kws : List Keyword} (ks : List Str) (perm : List Nat) (h : okG sc x = true) (F : FnF X.prog X.w X.K X.mg X.base g k cl f x st ps) (bd : BdK x st ps ks perm)
  (hks : kws.map (·.arg) = ks.map some) (hp : perm.length = ps.length) (hlk : ms.length = ks.length) (ha : SK g X Wx kws (aA ms)) : SE g X Wx (.Call (.Name x p) [] kws pos) (mR cl f (aA ms) perm) := by
 have key : ∀ (kws : List Keyword) (ks : List Str), kws.map (·.arg) = ks.map some ->
   (backToKw pos (keywordEach kws X.env)).all (·.1.isSome) = true /\ (backToKw pos (keywordEach kws X.env)).filterMap (·.1) = ks /\ (backToKw pos (keywordEach kws X.env)).any (·.1.isNone) = false := by
  intro kws
  induction kws with
  | nil => intro ks h; cases ks with
   | nil => exact ⟨rfl, rfl, rfl⟩
   | cons _ _ => cases h
  | cons q kws ih =>
   intro ks h
   cases ks with
   | nil => cases h
   | cons y ks =>
    simp only [List.map_cons, List.cons.injEq] at h
    obtain ⟨h1, h2, h3⟩ := ih ks h.2
    obtain ⟨n, v, pp⟩ := q
    have h0 : n = some y := h.1
    subst h0
    have e : backToKw pos (keywordEach (⟨some y, v, pp⟩ :: kws) X.env) = (some y, do let v <- eval v X.env; standAt pos; pure v) :: backToKw pos (keywordEach kws X.env) := rfl
    rw [e]
    refine ⟨?_, ?_, ?_⟩
    ·rw [List.all_cons, h1]; rfl
    ·rw [List.filterMap_cons, h2]
    ·rw [List.any_cons, h3]; rfl
 obtain ⟨h1, h2, h3⟩ := key kws ks hks
 exact G.callK ks perm h F bd h1 h2 h3 hp hlk ha
theorem Good.f1 (G : Good FS g k cl N sc fq X Wx) {bv : Value} {f : D -> Hh -> R D} (h : okG sc x = true) (hm : X.mg x = none) (hv : bootBuiltins x = some bv) (hb : oO bv = true) (s : SC1 g X Wx bv f) (hs : nSt a = true) (ha : SE g X Wx a ma) :
  SE g X Wx (.Call (.Name x p) [a] [] pos) (mF1 f ma) := G.b1 h hm hv hb s (oA hs) ha
theorem Good.f2 (G : Good FS g k cl N sc fq X Wx) {bv : Value} {f : D -> D -> Hh -> R D} (h : okG sc x = true) (hm : X.mg x = none) (hv : bootBuiltins x = some bv) (hb : oO bv = true) (s : SC2 g X Wx bv f) (hs : dG [a, b] = true) (ha : SE g X Wx a ma) (hb' : SE g X Wx b mb) :
  SE g X Wx (.Call (.Name x p) [a, b] [] pos) (mOp f ma mb) := by
 have h2 := hs
 simp only [dG, Bool.and_true, Bool.and_eq_true] at h2
 exact G.b2 h hm hv hb s (aEy hs) (oA h2.2) ha hb'
theorem Good.k1 (G : Good FS g k cl N sc fq X Wx) {T id : String} {op : Op1} (F : MtF T name id) (sm : SM1 g X Wx id op) (hb : nC0 o = true) (hline : (apos.endLine == cpos.line) = true) (hs : nSt a = true) (ho : SE g X Wx o mo) (ha : SE g X Wx a ma) :
  SE g X Wx (.Call (.Attribute o name apos) [a] [] cpos) (mM1 (on1 T op) mo ma) := G.m1 F sm (aHA hb) hline (oA hs) ho ha
theorem Good.k2 (G : Good FS g k cl N sc fq X Wx) {T id : String} {op : Op2} (F : MtF T name id) (sm : SM2 g X Wx id op) (hb : nC0 o = true) (hline : (apos.endLine == cpos.line) = true) (hs : dG [a, b] = true) (ho : SE g X Wx o mo) (ha : SE g X Wx a ma) (hb' : SE g X Wx b mb) :
  SE g X Wx (.Call (.Attribute o name apos) [a, b] [] cpos) (mM2 (on2 T op) mo ma mb) := by
 have h2 := hs
 simp only [dG, Bool.and_true, Bool.and_eq_true] at h2
 exact G.m2 F sm (aHA hb) hline (aEy hs) (oA h2.2) ho ha hb'
theorem Good.ix (G : Good FS g k cl N sc fq X Wx) (ha : SE g X Wx a ma) (hb : SE g X Wx b mb) (h : nSl b = true) : SE g X Wx (.Subscript a b pos) (mOp ixW ma mb) := aKh G.K G.u1 ha hb (ixP h)
theorem stv (ha : SE g X Wx a ma) (h : vTe a = true) : ST g X Wx a (mB ma) := aJa ha fun _ => aKD h
theorem Good.r1 (G : Good FS g k cl N sc fq X Wx) (h : okG sc "range" = true) (hm : X.mg "range" = none) (hs : nSt e = true) (he : SE g X Wx e me) : SI g X Wx tg (.Call (.Name "range" p) [e] [] pos) (gM me) := aKo (G.gl h).1 hm (oA hs) he
theorem Good.en {kk : Nat} (G : Good FS g k cl N sc fq X Wx) (h : okG sc "enumerate" = true) (hm : X.mg "enumerate" = none) (hs : nSt e = true) (he : SE g X Wx e me) : SI g X Wx (.Tuple es kk tpos) (.Call (.Name "enumerate" p) [e] [] pos) (qJ me) := aKn G.K (G.gl h).1 hm (oA hs) he
theorem sgc {t : Tg} {ts : List Tg} (h1 : SG g X e t) (h2 : SGs g X es ts) (h : nSt e = true) : SGs g X (e :: es) (t :: ts) := aFC h1 h2 (aCA h)
theorem Good.tup {n : Nat} {ts : List Tg} (G : Good FS g k cl N sc fq X Wx) (hs : SGs g X es ts) (h : dG es = true) (hl : es.length = ts.length) : SG g X (.Tuple es n pos) (.tu ts) := aIT G.K G.calm hs ((aLa h).trans hl) (aK9 h)
theorem aGl {t : Tg} (he : SE g X Wx e me) (hg : SG g X (.Name x p) t) (h : nCo e = true) : SS g X Wx (.Assign [.Name x p] e spos) (aS t me) := aEw he hg (swS h) aHo (aCA rfl)
theorem Good.asgT {n : Nat} {t : Tg} (G : Good FS g k cl N sc fq X Wx) (he : SE g X Wx e me) (hg : SG g X (.Tuple es n p) t) (h : nCo e = true) (h2 : swappedStores [.Tuple es n p] e (env0 sc) = pure none) : SS g X Wx (.Assign [.Tuple es n p] e spos) (aS t me) := aEw he hg (swS h) (G.sws h2) (aCA rfl)
theorem Good.sub (G : Good FS g k cl N sc fq X Wx) (he : SE g X Wx e me) (ho : SE g X Wx o mo) (hi : SE g X Wx i mi) (h : nCo e = true) (h2 : nSl i = true) : SS g X Wx (.Assign [.Subscript o i tpos] e spos) (kI me mo mi) :=
 aI6 G.u1 he ho hi (aHz h2) (swS h) aJf (aCA rfl)
theorem sse (he : SE g X Wx e me) (h : nCo e = true) : SS g X Wx (.Expr e spos) (fR me) := aHl he (swN h)
theorem ssf {t : Tg} {mi : M Src} {mb : MS} {body : List Stmt} (hp : PassesOwn (model X.prog X.w) X.A X.env X.xe) (G : Good FS g k cl N sc fq X Wx) (hi : SI g X Wx tg iter mi) (hg : SG g X tg t) (hb : SL g X Wx body mb) (h : vA iter = true) : SS g X Wx (.For tg iter body [] pos) (fJ mi t mb) :=
 aI3 hp G.calm hi hg hb fun _ => wB h
end
end PV
end
section
namespace PV
open PySem PySem.Spec PyProof.Rows L2
structure QE (g : Gx) (X : Cx) (Wx : WX) (e : Expr) (m : M D) : Prop where
 p : SE g X Wx e m
structure QT (g : Gx) (X : Cx) (Wx : WX) (e : Expr) (m : M Bool) : Prop where
 p : ST g X Wx e m
structure QW (g : Gx) (X : Cx) (Wx : WX) (e : Expr) (m : M Bool) : Prop where
 p : SW g X Wx e m
structure QA (g : Gx) (X : Cx) (Wx : WX) (es : List Expr) (m : M (List D)) : Prop where
 p : SA g X Wx es m
structure QK (g : Gx) (X : Cx) (Wx : WX) (kws : List Keyword) (m : M (List D)) : Prop where
 p : SK g X Wx kws m
structure QP (g : Gx) (X : Cx) (Wx : WX) (e : Option Expr) (m : Option (M D)) : Prop where
 p : SP' g X Wx e m
structure QG (g : Gx) (X : Cx) (e : Expr) (t : Tg) : Prop where
 p : SG g X e t
structure QGs (g : Gx) (X : Cx) (es : List Expr) (ts : List Tg) : Prop where
 p : SGs g X es ts
structure QI (g : Gx) (X : Cx) (Wx : WX) (tg e : Expr) (m : M Src) : Prop where
 p : SI g X Wx tg e m
structure QS (g : Gx) (X : Cx) (Wx : WX) (s : Stmt) (m : MS) : Prop where
 p : SS g X Wx s m
structure QL (g : Gx) (X : Cx) (Wx : WX) (s : List Stmt) (m : MS) : Prop where
 p : SL g X Wx s m
structure QO (g : Gx) (X : Cx) (Wx : WX) (f : Value -> Value -> Sem Value) (m : D -> D -> Hh -> R D) : Prop where
 p : SO g X Wx f m
structure QC1 (g : Gx) (X : Cx) (Wx : WX) (f : Value) (m : D -> Hh -> R D) : Prop where
 p : SC1 g X Wx f m
structure QC2 (g : Gx) (X : Cx) (Wx : WX) (f : Value) (m : D -> D -> Hh -> R D) : Prop where
 p : SC2 g X Wx f m
structure QM1 (g : Gx) (X : Cx) (Wx : WX) (id : String) (op : Op1) : Prop where
 p : SM1 g X Wx id op
section
variable {FS : FST} {g : Gx} {k : Nat} {cl : Cll} {N : List Str} {sc : Scope} {fq : Str -> Bool} {X : Cx} {Wx : WX} {pos p apos cpos tpos spos p2 : Pos} {x name y : Str} {f : Nat} {st : Stmt} {ps : List Str} {e a b c o i tg iter tg1 iter1 elt : Expr} {es : List Expr} {ma mb mc mo me mi : M D} {ms : List (M D)} {ta tb mt mt1 : M Bool} {m m2 : MS} {mA : M (List D)} {t t1 : Tg} {ts : List Tg} {mI mI1 : M Src} {s0 : Stmt} {rest ss1 ss2 : List Stmt} {scope : Scope} {ifs ifs1 : List Expr} {lo hi : Option Expr} {ml mh : Option (M D)} {nn kk : Nat}
theorem aC {ii : Int} {j : Nat}  : QE g X Wx (.Constant (.int ii) j pos) (mC (.int ii)) :=
 ⟨aIM⟩
theorem qR {ii : Bool} {j : Nat}  : QE g X Wx (.Constant (.bool ii) j pos) (mC (.bl ii)) :=
 ⟨aKf⟩
theorem aIq {j : Nat}  : QE g X Wx (.Constant .none j pos) (mC .non) :=
 ⟨aIP⟩
theorem aX {j : Nat}  : QE g X Wx (.Constant (.str x) j pos) (mC (.str x)) :=
 ⟨aIR⟩
theorem Good.qvar  (G : Good FS g k cl N sc fq X Wx) (i : Nat) (h : okV N sc i x = true) : QE g X Wx (.Name x pos) (mV i) :=
 ⟨G.var i h⟩
theorem Good.qconS  (G : Good FS g k cl N sc fq X Wx) {z : Str} (h : okG sc x = true) (hm : ∃ t, X.mg x = some (.str z t)) : QE g X Wx (.Name x pos) (mC (.str z)) :=
 ⟨G.conS h hm⟩
theorem Good.qtyp  (G : Good FS g k cl N sc fq X Wx) {n : String} (h : okG sc x = true) (hm : X.mg x = none) (hv : bootBuiltins x = some (.type n)) : QE g X Wx (.Name x pos) (mC (.ty n)) :=
 ⟨G.typ h hm hv⟩
theorem aQ {op : Operator} {ff : D -> D -> Hh -> R D} (so : QO g X Wx (binaryOp op) ff) (ha : QE g X Wx a ma) (hb : QE g X Wx b mb) : QE g X Wx (.BinOp a op b pos) (mOp ff ma mb) :=
 ⟨aIJ so.p ha.p hb.p⟩
theorem wR {op : CmpOp} {ff : D -> D -> Hh -> R D} (so : QO g X Wx (compareOp op) ff) (ha : QE g X Wx a ma) (hb : QE g X Wx b mb) (hm : behindInMarks op b = false) : QE g X Wx (.Compare a [op] [b] pos) (mOp ff ma mb) :=
 ⟨aIK so.p ha.p hb.p hm⟩
theorem cI {op : CmpOp} {ff : D -> D -> Hh -> R D} (so : QO g X Wx (compareOp op) ff) (ha : QE g X Wx a ma) (hb : QE g X Wx b mb) (hm : behindInMarks op b = false) : QT g X Wx (.Compare a [op] [b] pos) (mB (mOp ff ma mb)) :=
 ⟨aI8 so.p ha.p hb.p hm⟩
theorem Good.oaddW  (G : Good FS g k cl N sc fq X Wx) : QO g X Wx (binaryOp .Add) bM :=
 ⟨aIY G.K⟩
theorem Good.osubW  (G : Good FS g k cl N sc fq X Wx) : QO g X Wx (binaryOp .Sub) kB :=
 ⟨aI2⟩
theorem Good.omulW  (G : Good FS g k cl N sc fq X Wx) : QO g X Wx (binaryOp .Mult) lC :=
 ⟨aI0⟩
theorem Good.ofdivW  (G : Good FS g k cl N sc fq X Wx) : QO g X Wx (binaryOp .FloorDiv) tB :=
 ⟨aG9⟩
theorem Good.omodW  (G : Good FS g k cl N sc fq X Wx) : QO g X Wx (binaryOp .Mod) jV :=
 ⟨aIZ⟩
theorem Good.opowW  (G : Good FS g k cl N sc fq X Wx) : QO g X Wx (binaryOp .Pow) qN :=
 ⟨aI1⟩
theorem Good.oeqW  (G : Good FS g k cl N sc fq X Wx) : QO g X Wx (compareOp .Eq) eqW :=
 ⟨aKr G.K G.u64⟩
theorem Good.oneW  (G : Good FS g k cl N sc fq X Wx) : QO g X Wx (compareOp .NotEq) neW :=
 ⟨aKx G.K G.u64⟩
theorem Good.oinW  (G : Good FS g k cl N sc fq X Wx) : QO g X Wx (compareOp .In) inW :=
 ⟨aKu G.K G.un⟩
theorem Good.oniW  (G : Good FS g k cl N sc fq X Wx) : QO g X Wx (compareOp .NotIn) niW :=
 ⟨aKy G.K G.un⟩
theorem Good.oltW  (G : Good FS g k cl N sc fq X Wx) : QO g X Wx (compareOp .Lt) ltW :=
 ⟨aKw G.K G.u0⟩
theorem Good.oleW  (G : Good FS g k cl N sc fq X Wx) : QO g X Wx (compareOp .LtE) leW :=
 ⟨aKv⟩
theorem Good.ogtW  (G : Good FS g k cl N sc fq X Wx) : QO g X Wx (compareOp .Gt) gtW :=
 ⟨aKt⟩
theorem Good.ogeW  (G : Good FS g k cl N sc fq X Wx) : QO g X Wx (compareOp .GtE) geW :=
 ⟨aKs⟩
theorem Good.clenW  (G : Good FS g k cl N sc fq X Wx) : QC1 g X Wx (.builtin "len") cR :=
 ⟨aIF G.K⟩
theorem Good.cabsW  (G : Good FS g k cl N sc fq X Wx) : QC1 g X Wx (.builtin "abs") uK :=
 ⟨aIA⟩
theorem Good.cintW  (G : Good FS g k cl N sc fq X Wx) : QC1 g X Wx (.type "int") qB :=
 ⟨aIC⟩
theorem Good.ctupleW  (G : Good FS g k cl N sc fq X Wx) : QC1 g X Wx (.type "tuple") cK :=
 ⟨aFB G.K⟩
theorem Good.clistW  (G : Good FS g k cl N sc fq X Wx) : QC1 g X Wx (.type "list") wG :=
 ⟨aG1 G.K G.calm⟩
theorem Good.callW  (G : Good FS g k cl N sc fq X Wx) : QC1 g X Wx (.builtin "all") uL :=
 ⟨aIB G.K G.calm⟩
theorem Good.csumW  (G : Good FS g k cl N sc fq X Wx) : QC1 g X Wx (.builtin "sum") sK :=
 ⟨aII G.K G.calm⟩
theorem Good.cmaxW  (G : Good FS g k cl N sc fq X Wx) : QC2 g X Wx (.builtin "max") xW :=
 ⟨aIG G.calm⟩
theorem Good.cminW  (G : Good FS g k cl N sc fq X Wx) : QC2 g X Wx (.builtin "min") xX :=
 ⟨aIH G.calm⟩
theorem Good.cisiW  (G : Good FS g k cl N sc fq X Wx) : QC2 g X Wx (.builtin "isinstance") qC :=
 ⟨aIE G.K⟩
theorem Good.mappendW  (G : Good FS g k cl N sc fq X Wx) : QM1 g X Wx "list.append" gG :=
 ⟨aEr⟩
theorem Good.mextendW  (G : Good FS g k cl N sc fq X Wx) : QM1 g X Wx "list.extend" jQ :=
 ⟨aEs⟩
theorem Good.mpopAtW  (G : Good FS g k cl N sc fq X Wx) : QM1 g X Wx "list.pop" kP :=
 ⟨aFF⟩
theorem aEd  (ha : QE g X Wx a ma) : QE g X Wx (.UnaryOp .USub a pos) (mF1 vB ma) :=
 ⟨aIO ha.p⟩
theorem sD  (ha : QT g X Wx a ta) : QT g X Wx (.UnaryOp .Not a pos) (kH ta) :=
 ⟨aI9 ha.p⟩
theorem aCl  (ha : QT g X Wx a ta) : QW g X Wx (.BoolOp .And [a] pos) ta :=
 ⟨aHn ha.p⟩
theorem aA7  (ha : QT g X Wx a ta) : QW g X Wx (.BoolOp .Or [a] pos) ta :=
 ⟨aJe ha.p⟩
theorem aA6  (ha : QT g X Wx a ta) (hb : QW g X Wx (.BoolOp .And (b :: es) pos) tb) : QW g X Wx (.BoolOp .And (a :: b :: es) pos) (nM ta tb) :=
 ⟨aJd ha.p hb.p⟩
theorem wS  (ha : QT g X Wx a ta) (hb : QW g X Wx (.BoolOp .Or (b :: es) pos) tb) : QW g X Wx (.BoolOp .Or (a :: b :: es) pos) (lA ta tb) :=
 ⟨aKB ha.p hb.p⟩
theorem QW.te  (ha : QW g X Wx a ta) : QT g X Wx a ta :=
 ⟨SW.st ha.p⟩
theorem qtv  (ha : QE g X Wx a ma) (h : vTe a = true) : QT g X Wx a (mB ma) :=
 ⟨stv ha.p h⟩
theorem pI  (hc : QT g X Wx c ta) (ha : QE g X Wx a ma) (hb : QE g X Wx b mb) : QE g X Wx (.IfExp c a b pos) (mIf ta ma mb) :=
 ⟨aIL hc.p ha.p hb.p⟩
theorem aD   : QA g X Wx [] (aA []) :=
 ⟨aIz⟩
theorem qac  (ha : QE g X Wx e ma) (hr : QA g X Wx es (aA ms)) (h : nSt e = true) : QA g X Wx (e :: es) (aA (ma :: ms)) :=
 ⟨sac ha.p hr.p h⟩
theorem aIr   : QK g X Wx [] (aA []) :=
 ⟨aIU⟩
theorem qkc {nm : Option Str} {kws : List Keyword} (ha : QE g X Wx e ma) (hr : QK g X Wx kws (aA ms)) : QK g X Wx (⟨nm, e, pos⟩ :: kws) (aA (ma :: ms)) :=
 ⟨aG7 ha.p hr.p⟩
theorem bC  (ha : QA g X Wx es mA) : QE g X Wx (.Tuple es nn pos) (bE mA) :=
 ⟨aIS ha.p⟩
theorem cT  (ha : QA g X Wx es mA) : QE g X Wx (.List es pos) (dW mA) :=
 ⟨aIN ha.p⟩
theorem Good.qix  (G : Good FS g k cl N sc fq X Wx) (ha : QE g X Wx a ma) (hb : QE g X Wx b mb) (h : nSl b = true) : QE g X Wx (.Subscript a b pos) (mOp ixW ma mb) :=
 ⟨G.ix ha.p hb.p h⟩
theorem lY   : QP g X Wx none none :=
 ⟨aHb⟩
theorem lZ  (ha : QE g X Wx a ma) : QP g X Wx (some a) (some ma) :=
 ⟨aHc ha.p⟩
theorem Good.qsl  (G : Good FS g k cl N sc fq X Wx) (ha : QE g X Wx a ma) (hl : QP g X Wx lo ml) (hh : QP g X Wx hi mh) : QE g X Wx (.Subscript a (.Slice lo hi none p2) pos) (mSl ma ml mh) :=
 ⟨aKl G.K ha.p hl.p hh.p⟩
theorem Good.qcal  (G : Good FS g k cl N sc fq X Wx) (h : okG sc x = true) (F : FnF X.prog X.w X.K X.mg X.base g k cl f x st ps) (bd : BdF x st ps) (hs : dG (e :: es) = true) (hl : ms.length = ps.length) (ha : QA g X Wx (e :: es) (aA ms)) : QE g X Wx (.Call (.Name x p) (e :: es) [] pos) (aK cl f (aA ms)) :=
 ⟨G.cal h F bd hs hl ha.p⟩
theorem Good.qcalK  (G : Good FS g k cl N sc fq X Wx) {kws : List Keyword} (ks : List Str) (perm : List Nat) (h : okG sc x = true) (F : FnF X.prog X.w X.K X.mg X.base g k cl f x st ps) (bd : BdK x st ps ks perm) (hks : kws.map (·.arg) = ks.map some) (hp : perm.length = ps.length) (hlk : ms.length = ks.length) (ha : QK g X Wx kws (aA ms)) : QE g X Wx (.Call (.Name x p) [] kws pos) (mR cl f (aA ms) perm) :=
 ⟨G.calK ks perm h F bd hks hp hlk ha.p⟩
theorem Good.qf1  (G : Good FS g k cl N sc fq X Wx) {bv : Value} {ff : D -> Hh -> R D} (h : okG sc x = true) (hm : X.mg x = none) (hv : bootBuiltins x = some bv) (hb : oO bv = true) (s : QC1 g X Wx bv ff) (hs : nSt a = true) (ha : QE g X Wx a ma) : QE g X Wx (.Call (.Name x p) [a] [] pos) (mF1 ff ma) :=
 ⟨G.f1 h hm hv hb s.p hs ha.p⟩
theorem Good.qf2  (G : Good FS g k cl N sc fq X Wx) {bv : Value} {ff : D -> D -> Hh -> R D} (h : okG sc x = true) (hm : X.mg x = none) (hv : bootBuiltins x = some bv) (hb : oO bv = true) (s : QC2 g X Wx bv ff) (hs : dG [a, b] = true) (ha : QE g X Wx a ma) (hb2 : QE g X Wx b mb) : QE g X Wx (.Call (.Name x p) [a, b] [] pos) (mOp ff ma mb) :=
 ⟨G.f2 h hm hv hb s.p hs ha.p hb2.p⟩
theorem Good.qk1  (G : Good FS g k cl N sc fq X Wx) {T id : String} {op : Op1} (F : MtF T name id) (sm : QM1 g X Wx id op) (hb : nC0 o = true) (hline : (apos.endLine == cpos.line) = true) (hs : nSt a = true) (ho : QE g X Wx o mo) (ha : QE g X Wx a ma) : QE g X Wx (.Call (.Attribute o name apos) [a] [] cpos) (mM1 (on1 T op) mo ma) :=
 ⟨G.k1 F sm.p hb hline hs ho.p ha.p⟩
theorem Good.qsie  (G : Good FS g k cl N sc fq X Wx) (he : QE g X Wx e me) : QI g X Wx tg e (miE me) :=
 ⟨aL0 G.K he.p⟩
theorem Good.qr1  (G : Good FS g k cl N sc fq X Wx) (h : okG sc "range" = true) (hm : X.mg "range" = none) (hs : nSt e = true) (he : QE g X Wx e me) : QI g X Wx tg (.Call (.Name "range" p) [e] [] pos) (gM me) :=
 ⟨G.r1 h hm hs he.p⟩
theorem Good.qen  (G : Good FS g k cl N sc fq X Wx) (h : okG sc "enumerate" = true) (hm : X.mg "enumerate" = none) (hs : nSt e = true) (he : QE g X Wx e me) : QI g X Wx (.Tuple es kk tpos) (.Call (.Name "enumerate" p) [e] [] pos) (qJ me) :=
 ⟨G.en h hm hs he.p⟩
theorem Good.qtgt  (G : Good FS g k cl N sc fq X Wx) (i : Nat) (h : okT N sc fq i x = true) : QG g X (.Name x pos) (.nm i) :=
 ⟨G.tgt i h⟩
theorem lX   : QGs g X [] [] :=
 ⟨aG5⟩
theorem qgc  (h1 : QG g X e t) (h2 : QGs g X es ts) (h : nSt e = true) : QGs g X (e :: es) (t :: ts) :=
 ⟨sgc h1.p h2.p h⟩
theorem Good.qtup  (G : Good FS g k cl N sc fq X Wx) (hs : QGs g X es ts) (h : dG es = true) (hl : es.length = ts.length) : QG g X (.Tuple es nn pos) (.tu ts) :=
 ⟨G.tup hs.p h hl⟩
/-- none or one test, within a block -/
inductive QTs (FS : FST) (g : Gx) (k : Nat) (cl : Cll) (N : List Str) (sc : Scope) (fq : Str -> Bool) : List Expr -> M Bool -> Prop
 | nil : QTs FS g k cl N sc fq [] (fun _ h => .ok true h)
 | one {c : Expr} {m : M Bool} (hc : ∀ X, Good FS g k cl N sc fq X WF -> QT g X WF c m) : QTs FS g k cl N sc fq [c] m
theorem QTs.un (h : QTs FS g k cl N sc fq ifs mt) : GTs FS g k cl N sc fq ifs mt := by
 cases h with
 | nil => exact .nil
 | one hc => exact .one fun X G => (hc X G).p
theorem Good.qlc  (G : Good FS g k cl N sc fq X Wx) (own : List (Str × Nat)) (vs : List Nat) (hB : okB N sc scope own = true) (hvs : own.map (·.2) = vs) (hsl : sJ t.slots vs = true) (hs : vA iter = true) (hi : QI g X Wx tg iter mI) (hg : ∀ X, Good FS g k cl N (relS scope sc) (fqB scope) X WF -> QG g X tg t) (ht : QTs FS g k cl N (relS scope sc) (fqB scope) ifs mt) (he : ∀ X, Good FS g k cl N (relS scope sc) (fqB scope) X WF -> QE g X WF elt me) : QE g X Wx (.ListComp elt [⟨tg, iter, ifs, 0⟩] scope pos) (mLc mI t mt me vs) :=
 ⟨G.lc own vs hB hvs hsl (fun _ => wB hs) hi.p (fun X G => (hg X G).p) ht.un (fun X G => (he X G).p)⟩
theorem Good.qsetLc  (G : Good FS g k cl N sc fq X Wx) (i2 : Nat) (own : List (Str × Nat)) (vs : List Nat) (hl : okL N sc i2 y = true) (hw : vC sc scope y p pos = true) (hB : okB N sc scope own = true) (hvs : own.map (·.2) = vs) (hsl : sJ t.slots vs = true) (hs : vA iter = true) (hi : QI g X Wx tg iter mI) (hg : ∀ X, Good FS g k cl N (relS scope sc) (fqB scope) X WF -> QG g X tg t) (ht : QTs FS g k cl N (relS scope sc) (fqB scope) ifs mt) (he : ∀ X, Good FS g k cl N (relS scope sc) (fqB scope) X WF -> QE g X WF elt me) : QS g X Wx (.Assign [.Name y p] (.ListComp elt [⟨tg, iter, ifs, 0⟩] scope pos) spos) (aS (.nm i2) (mLc mI t mt me vs)) :=
 ⟨G.setLc i2 own vs hl hw hB hvs hsl (fun _ => wB hs) hi.p (fun X G => (hg X G).p) ht.un (fun X G => (he X G).p)⟩
theorem gF   : QL g X Wx [] dF :=
 ⟨aIW⟩
theorem aW  (h1 : QS g X Wx s0 m) : QL g X Wx [s0] m :=
 ⟨aIX h1.p⟩
theorem aO  (h1 : QS g X Wx s0 m) (h2 : QL g X Wx rest m2) : QL g X Wx (s0 :: rest) (aM m m2) :=
 ⟨aG8 h1.p h2.p⟩
theorem qse  (he : QE g X Wx e me) (h : nCo e = true) : QS g X Wx (.Expr e spos) (fR me) :=
 ⟨sse he.p h⟩
theorem bO  (he : QE g X Wx e me) : QS g X Wx (.Return (some e) pos) (bF me) :=
 ⟨aI5 he.p⟩
theorem gO  (hc : QT g X Wx e ta) (ha : QL g X Wx ss1 m) (hb : QL g X Wx ss2 m2) : QS g X Wx (.If e ss1 ss2 pos) (fE ta m m2) :=
 ⟨aKz hc.p ha.p hb.p⟩
theorem qsf  (hp : PassesOwn (model X.prog X.w) X.A X.env X.xe) (G : Good FS g k cl N sc fq X Wx) (hi : QI g X Wx tg iter mI) (hg : QG g X tg t) (hb : QL g X Wx ss1 m) (h : vA iter = true) : QS g X Wx (.For tg iter ss1 [] pos) (fJ mI t m) :=
 ⟨ssf hp G hi.p hg.p hb.p h⟩
theorem bH  (he : QE g X Wx e me) (hg : QG g X (.Name x p) t) (h : nCo e = true) : QS g X Wx (.Assign [.Name x p] e spos) (aS t me) :=
 ⟨aGl he.p hg.p h⟩
theorem Good.qasgT  (G : Good FS g k cl N sc fq X Wx) (he : QE g X Wx e me) (hg : QG g X (.Tuple es nn p) t) (h : nCo e = true) (h2 : swappedStores [.Tuple es nn p] e (env0 sc) = pure none) : QS g X Wx (.Assign [.Tuple es nn p] e spos) (aS t me) :=
 ⟨G.asgT he.p hg.p h h2⟩
theorem Good.qsub  (G : Good FS g k cl N sc fq X Wx) (he : QE g X Wx e me) (ho : QE g X Wx o mo) (hi : QE g X Wx i mi) (h : nCo e = true) (h2 : nSl i = true) : QS g X Wx (.Assign [.Subscript o i tpos] e spos) (kI me mo mi) :=
 ⟨G.sub he.p ho.p hi.p h h2⟩
theorem Good.qpar  (G : Good FS g k cl N sc fq X Wx) (i1 i2 : Nat) {px py pt : Pos} {kt k2 pt2} (hi : okL N sc i1 x = true) (hj : okL N sc i2 y = true) (hij : i1 ≠ i2) (ha : QA g X Wx [a, b] (aA [ma, mb])) (hw : swappedStores [.Tuple [.Name x px, .Name y py] kt pt] (.Tuple [a, b] k2 pt2) (env0 sc) = pure (some [x, y])) : QS g X Wx (.Assign [.Tuple [.Name x px, .Name y py] kt pt] (.Tuple [a, b] k2 pt2) spos) (aS (.tu [.nm i1, .nm i2]) (bE (aA [ma, mb]))) :=
 ⟨G.par i1 i2 hi hj hij ha.p hw (swS rfl)⟩
end
end PV
end
section
namespace PV
open PySem PySem.Spec PyProof.Rows L2
theorem aAD {g : Gx} {μ : List Addr} {H : Hp} : ∀ ns : List Int, RVs g μ H (ns.map D.int) (ns.map V.int)
 | [] => rfl
 | n :: ns => ⟨.int n, ns.map V.int, rfl, rfl, rfl, aAD ns⟩
end PV
end
section
namespace PV
open PySem PySem.Spec PyProof.Rows L2
end PV
end
section
namespace PV
open PySem PySem.Spec PyProof.Rows L2
/-- d[y] = v within a comprehension -/
theorem aAo {X : Cx} {pins : List (Addr × Obj)} {σ : L2.St} {H H' : Hp} {s : Shared} {E : Value -> Shared -> Prop} {D : Addr} {y v : V} {u r : Value} {Q : Unit -> Shared -> Prop} (hu : X.A.units + 1 < cLine) (I : Inv X pins σ H s) (p : DPut H D y v H') (ry : RelV y u) (rv : RelV v r)
  (k : ∀ s', Inv X pins σ H' s' -> Q () s') : wpAny (model X.prog X.w) X.A (dictSet D u r) Q E s := by
 rcases p with ⟨kvs, key, eD, rfl, hl, rfl⟩ | ⟨kvs, key, b, eD, rfl, eb, hl, rfl⟩
 ·exact d_dictSet I eD hl ry rv k
 ·cases (show u = Value.ref b from ry)
  obtain ⟨z, hd, xs, rel, dd⟩ := dt_of I.hok eD
  refine wpAny_dictSet_heap (hsz := by rw [<- Paired.length rel]; exact z) (show X.A.units < cLine from Nat.lt_of_succ_lt hu) (key_of I.hok eb) dd fun h' dd' hs => k _ ?_
  obtain ⟨q, es, ep, hq, h2, h3, h4, _, h5⟩ := dd'
  have hl2 := length_putK kvs key v
  refine d_write I (by rw [eD]; exact True.intro) hs ⟨q, hq⟩ ⟨by omega, hd, _, (rel.put key eb rv).keeps fun c ys ec => ?_, q, es, ep, hq, h2, h3, h4, h5⟩
  exact (upd_ne (ne_of ec eD (fun z => nomatch z))).trans ec
/-- one turn of an iterator: what came stays pinned until the turn's end -/
theorem aFZ {X : Cx} {pins : List (Addr × Obj)} {σ : L2.St} {H : Hp} {s : Shared} {tg : Expr} {J : It} {fp : List Addr} {it : Addr} {tn : Nat -> Heap -> Prop} {i : Nat} {E : Value -> Shared -> Prop} {Q : Value -> Shared -> Prop} (T : Turn X.prog X.w X.K tg J fp it tn) (hc : X.calm = true) (I : Inv X pins σ H s) (f : ∀ b ∈ fp, FpOk X pins H b) (st : tn i s.heap) (go : J.go i H)
  (k : ∀ u x H1 s1, Inv X (pins ++ pinsAt fp s1.heap) σ H1 s1 -> RelV x u -> J.yld i H x H1 -> (∀ {σ2 : L2.St} {H2 : Hp} {s2 : Shared}, Inv X (pins ++ pinsAt fp s1.heap) σ2 H2 s2 -> Inv X pins σ2 H2 s2 /\ tn (i + 1) s2.heap /\ ∀ b ∈ fp, H2 b = none) -> Q u s1) :
  wpAny (model X.prog X.w) X.A (pyNext (.ref it)) (fun r s1 => ∃ u, r = some u /\ wpAny (model X.prog X.w) X.A (letOwnedTupleGo tg (.ref it) u) (fun _ s2 => Q u s2) E s1) E s := by
 refine wpAny_mono (T.item X rfl rfl rfl hc i pins s σ H E I f st go) (fun r s1 ⟨u, e, z⟩ => ⟨u, e, wpAny_mono z (fun _ s2 ⟨x, H1, I1, rx, y, st1, n1⟩ => ?_) fun _ _ z => z⟩) fun _ _ z => z
 refine k u x H1 s2 (I1.pinned (fun b hb => ⟨n1 b hb, (f b hb).2⟩) (T.obj _ _ st1)) rx y fun {σ2 H2 s3} I2 => ?_
 have p : ∀ b ∈ fp, ∀ o, s2.heap.get? b = some o -> s3.heap.get? b = some o /\ H2 b = none := fun b hb o eo => by
  have q := I2.pin (b, o) (List.mem_append_right _ (List.mem_append_right _ (mem_pinsAt hb eo)))
  exact ⟨q.1, q.2.1⟩
 refine ⟨I2.unpinned, T.keep _ _ _ st1 fun b hb o eo => (p b hb o eo).1, fun b hb => ?_⟩
 obtain ⟨o, eo, _⟩ := T.obj _ _ st1 b hb
 exact (p b hb o eo).2
/-- a new dict, of either kind -/
def aAE (o : HO) : Prop := o = .dK [] \/ o = .dT []
/-- what the loop of a dict comprehension finds -/
structure DEnt (X : Cx) (pins : List (Addr × Obj)) (σ : L2.St) (vs : List Nat) (Qd : Addr -> Hp -> Prop) (R : Addr -> Result -> Shared -> Prop) (Xb : Cx) (tg : Expr) (J : It) (it D : Addr) (fp : List Addr) (tn : Nat -> Heap -> Prop) (H3 : Hp) (s4 : Shared) : Prop where
 turn : Turn Xb.prog Xb.w Xb.K tg J fp it tn
 st : tn 0 s4.heap
 inv : Inv Xb [] (wipe σ vs) H3 s4
 nfp : ∀ b ∈ fp, H3 b = none
 fpo : ∀ {σ' : L2.St} {H' : Hp} {s' : Shared}, Inv Xb [] σ' H' s' -> (∀ b ∈ fp, H' b = none) -> ∀ b ∈ fp, FpOk Xb [] H' b
 done : ∀ {H' : Hp} {s' : Shared}, Inv Xb [] (wipe σ vs) H' s' -> Qd D H' -> R D (.ok .next) s'
theorem aCJ {X : Cx} {pins : List (Addr × Obj)} {s : Shared} {σ : L2.St} {H : Hp} {kx vx tg iter : Expr} {ifs : List Expr} {rest : List Comprehension} {scope : Scope} {own : List (Str × Nat)} {pos : Pos} {wi : TI} {o0 : HO} {Qd : Addr -> Hp -> Prop} {wish : It -> Addr -> Hp -> Prop} {Q : VK}
  (hN : X.N.Nodup) (I : Inv X pins σ H s) (hi : PI X tg iter wi) (ok : BlkOk X.N X.env.scope scope own) (hs : ∀ x, foldedSetIterable iter X.env x = pure x) (h0 : aAE o0)
  (h : wi σ H fun J H1 => ∀ D, H1 D = none -> wish J D (upd H1 D o0)) (hQ : ∀ D H', Qd D H' -> Q (.ref D) H')
  (loop : ∀ (R : Addr -> Result -> Shared -> Prop) (s3 : Shared) (H3 : Hp) (C : Addr) (cl : List (Str × Addr)) (fp : List Addr) (J : It) (it D : Addr) (tn : Nat -> Heap -> Prop) (s4 : Shared), DEnt X pins σ (own.map (·.2)) Qd R (BX X scope s3 H3 C cl fp) tg J it D fp tn H3 s4 -> wish J D H3 ->
   codeAny (model X.prog X.w) X.A (.compLoop (.DictComp kx vx (⟨tg, iter, ifs, 0⟩ :: rest) scope pos) 0 (.ref it) (.ref D) (compEnvC scope cl C X.env)) (R D) s4) :
  wpAny (model X.prog X.w) X.A (eval (.DictComp kx vx (⟨tg, iter, ifs, 0⟩ :: rest) scope pos) X.env) (EP X pins σ Q) X.xe s := by
 have fr : ∀ y ∈ scope.names, y.2 = .free -> ∃ c, X.env.cells.lookup y.1 = some c := fun y hy e => (ok.free y hy e).elim (fun k => I.ok.has _ (.inl k)) fun k => I.ok.has _ (.inr k)
 rw [arm_eval_DictComp]
 refine wpAny_comprehension_free (use := none) rfl hs (closure_ok fr) ok.kind (fun y hy e => by rw [ok.uniq y hy, e]) (thn (hi.run pins s σ H _ I h) fun xv s1 hx => thn hx fun itv s2 z2 => ?_)
 obtain ⟨it, fp, tn, J, H2, rfl, I2, T, st2, f2, q⟩ := z2
 refine wpAny_newObj_type (newEnv_comp ?_)
 generalize eD : s2.heap.objs.size = D
 have nD : H2 D = none := I2.hok.fresh (Nat.le_of_eq eD)
 have wsh := q D nD
 generalize es3 : ({ s2 with heap := s2.heap.push { cls := .type "dict", data := .dict #[] } } : Shared) = s3
 have hp3 : s3.heap = s2.heap.push { cls := .type "dict", data := .dict #[] } := by rw [<- es3]
 have I3 : Inv X pins σ (upd H2 D o0) s3 := by
  subst es3
  refine I2.laid (t' := s2.toks) (fun b o e => Heap.get?_push_of_some _ e) (Nat.le_of_eq eD) ?_
  rw [<- eD]
  rcases h0 with rfl | rfl
  ·exact dk_empty s2.heap I2.big
  ·exact dt_empty s2.heap I2.big
 have lt3 : ∀ b ∈ fp, b < s2.heap.objs.size := fun b hb => let ⟨o, e, _⟩ := T.obj _ _ st2 b hb; Heap.lt_size e
 have f3 : ∀ b ∈ fp, FpOk X pins (upd H2 D o0) b /\ b < s3.heap.objs.size := fun b hb => by
  have l := lt3 b hb
  have ne : b ≠ D := by rw [<- eD]; exact Nat.ne_of_lt l
  exact ⟨⟨(upd_ne ne).trans (f2 b hb).1, (f2 b hb).2⟩, by rw [hp3, Heap.size_push]; exact Nat.lt_succ_of_lt l⟩
 have st3 : tn 0 s3.heap := T.keep _ _ _ st2 fun b _ o e => by rw [hp3]; exact Heap.get?_push_of_some _ e
 have I4 := block_start I3 ok hN f3
 generalize eH3 : upd H2 D o0 = H3 at I3 I4 wsh f3
 generalize ecl : cellsFrom (s3.heap.objs.size + 1) scope.names (cloFrom X.env.cells scope.names []) = cl at I4
 generalize es4 : ({ s3 with heap := pushCells (s3.heap.push { cls := .type "dict", data := .dict #[] }) scope.names } : Shared) = s4 at I4
 have st4 : tn 0 s4.heap := T.keep _ _ _ st3 fun b _ o e => by rw [<- es4]; exact pushCells_keeps _ _ _ _ (Heap.get?_push_of_some _ e)
 have lp := loop (fun D => compPost (model X.prog X.w) X.A X.xe none (EP X pins σ Q) (.ref D) s3.heap.objs.size) s3 H3 s3.heap.objs.size cl fp J it D tn s4 ⟨T, st4, I4, fun b hb => (f3 b hb).1.1, fun {σ' H' s'} I' hn b hb => ⟨hn b hb, (I'.ok.exf b hb).1, I'.ok.exfs b hb, .inl hb, fun x c e => (I'.ok.exf b hb).2 x c e, fun p hp => absurd (show p ∈ ([] : List (Addr × Obj)) ++ [] from hp) (by simp)⟩, fun {H' s'} I' qd => ?_⟩ wsh
 ·subst ecl es4
  exact codeAny_compStart_dict lp (T.self X.A 0 _ _ _ st4 lp)
 ·have I7 : Inv X pins σ H' s' := I3.call' (ch := fp) I'.os I'.base I'.hok I'.bare fun b hb => ⟨(f3 b hb).1.2.2.2.1, (f3 b hb).1.2.1, (f3 b hb).1.2.2.2.2.1, (f3 b hb).1.2.2.2.2.2⟩
  have nC : H' s3.heap.objs.size = none := I'.free
  obtain ⟨m, hn, _⟩ := I'.loc
  obtain ⟨g0, g1, g2, g3, g4, g5⟩ := I3.fpOk (H' := H') (Nat.le_refl _) nC
  refine ⟨m, hn, fun h'' sb => ?_⟩
  exact ⟨.ref D, H', I7.turned (t' := s'.toks) (fun b o hb e => (sb.2 b hb).trans e) g0 g1 g3 g4 g5, rfl, hQ D H' qd⟩
/-- {k: v for target in iter if ..}; at a turn's end the dict is written by DPut -/
def tDp (o0 : HO) (wi : TI) (g : TG) (tt : TT) (tk tv : TE) (vs : List Nat) : TE := fun σ H Q => wi σ H fun J H1 => ∀ D, H1 D = none ->
 zT J (fun x H' Nx => g x (wipe σ vs) H' fun σ2 H2 => wipe σ2 vs = wipe σ vs /\ tt σ2 H2 fun b H3 => if b = true then tk σ2 H3 fun y H4 => tv σ2 H4 fun z H5 => ∃ H6, DPut H5 D y z H6 /\ Nx H6 else Nx H3) (upd H1 D o0) fun H' => Q (.ref D) H'
/-- slots behind a turn that know what was known ahead -/
theorem knows {σ σ2 : L2.St} {vs : List Nat} (e : wipe σ2 vs = wipe σ vs) : (wipe σ vs).length = σ2.length /\ ∀ (j : Nat) v, (wipe σ vs)[j]? = some (some v) -> σ2[j]? = some (some v) :=
 ⟨by rw [<- e, wipe_length], fun j v q => by rw [<- e] at q; exact (wipe_some q).1⟩
theorem aJW {X : Cx} {kx vx tg iter : Expr} {ifs : List Expr} {scope : Scope} {own : List (Str × Nat)} {pos : Pos} {o0 : HO} {wi : TI} {g : TG} {tt : TT} {tk tv : TE} (hc : X.calm = true) (hu : X.A.units + 1 < cLine) (hN : X.N.Nodup) (h0 : aAE o0) (hi : PI X tg iter wi) (ok : BlkOk X.N X.env.scope scope own)
  (hg : ∀ s H C cl fp, PG (BX X scope s H C cl fp) tg g) (ht : ∀ s H C cl fp, PTs (BX X scope s H C cl fp) ifs tt) (hk : ∀ s H C cl fp, PE (BX X scope s H C cl fp) kx tk) (hv : ∀ s H C cl fp, PE (BX X scope s H C cl fp) vx tv) (hs : ∀ x, foldedSetIterable iter X.env x = pure x) :
  PE X (.DictComp kx vx [⟨tg, iter, ifs, 0⟩] scope pos) (tDp o0 wi g tt tk tv (own.map (·.2))) := by
 refine ⟨fun pins s σ H Q I h => aCJ (rest := []) (Qd := fun D H' => Q (.ref D) H') (wish := fun J D Hs => zT J (fun x H' Nx => g x (wipe σ (own.map fun p : Str × Nat => p.2)) H' fun σ2 H2 => wipe σ2 (own.map fun p : Str × Nat => p.2) = wipe σ (own.map fun p : Str × Nat => p.2) /\ tt σ2 H2 fun b H3 => if b = true then tk σ2 H3 fun y H4 => tv σ2 H4 fun z H5 => ∃ H6, DPut H5 D y z H6 /\ Nx H6 else Nx H3) Hs fun H' => Q (.ref D) H') hN I hi ok hs h0 h (fun _ _ q => q) ?_⟩
 rintro R s3 H3 C cl fp J it D tn s4 ⟨T, st4, I4, n4, fo, dn⟩ ⟨W, ⟨m0, w0⟩, step⟩
 refine compLoop_anyD (fun n s' => ∃ i H', Inv (BX X scope s3 H3 C cl fp) [] (wipe σ (own.map (·.2))) H' s' /\ tn i s'.heap /\ (∀ b ∈ fp, H' b = none) /\ W i n H') ?_ m0 ⟨0, H3, I4, st4, n4, w0⟩
 rintro n s5 ⟨i, H5, I5, st5, n5, w5⟩
 rcases step i n H5 w5 with ⟨stop, fin⟩ | ⟨go, Nx, hNx, body⟩
 ·refine thnF (T.done _ rfl rfl rfl hc i [] s5 _ H5 (fun _ _ => False) I5 (fo I5 n5) st5 stop) fun r s6 ⟨hr, I6⟩ => ?_
  subst hr
  exact dn I6 fin
 ·refine thnF (aFZ (X := BX X scope s3 H3 C cl fp) T hc I5 (fo I5 n5) st5 go (E := fun _ _ => False) (Q := fun u s7 => ∃ x H7, Inv (BX X scope s3 H3 C cl fp) ([] ++ pinsAt fp s7.heap) (wipe σ (own.map (·.2))) H7 s7 /\ RelV x u /\ J.yld i H5 x H7 /\ (∀ {σ2 : L2.St} {H2 : Hp} {s2 : Shared}, Inv (BX X scope s3 H3 C cl fp) ([] ++ pinsAt fp s7.heap) σ2 H2 s2 -> Inv (BX X scope s3 H3 C cl fp) [] σ2 H2 s2 /\ tn (i + 1) s2.heap /\ ∀ b ∈ fp, H2 b = none))
   fun u x H1 s1 a b c d => ⟨x, H1, a, b, c, @d⟩) fun r s6 ⟨u, hr, z⟩ => ?_
  subst hr
  refine thnF z fun _ s7 ⟨x, H7, I7, r7, y7, back⟩ => ?_
  refine thnF ((hg s3 H3 C cl fp).run _ s7 _ H7 x u _ I7 r7 (body x H7 y7)) fun _ s8 ⟨σ8, H8, I8, w8, q8⟩ => ?_
  refine thnF ((ht s3 H3 C cl fp).run _ s8 σ8 H8 _ I8 q8) fun b s9 ⟨H9, I9, q9⟩ => ?_
  have fin : ∀ {s' : Shared} {H' : Hp}, Inv (BX X scope s3 H3 C cl fp) ([] ++ pinsAt fp s7.heap) σ8 H' s' -> Nx H' -> ∃ m, m < n /\ ∃ i H', Inv (BX X scope s3 H3 C cl fp) [] (wipe σ (own.map (·.2))) H' s' /\ tn i s'.heap /\ (∀ b ∈ fp, H' b = none) /\ W i m H' := fun {s' H'} I' nx => by
   obtain ⟨m', hm, w'⟩ := hNx H' nx
   obtain ⟨a, b, c⟩ := back I'
   exact ⟨m', hm, i + 1, H', a.weak (knows w8).1 (knows w8).2, b, c, w'⟩
  cases b with
  | false => exact fin I9 q9
  | true =>
   refine thnF ((hk s3 H3 C cl fp).run _ s9 σ8 H9 _ I9 q9) fun zk s10 ⟨yk, H10, I10, r10, q10⟩ => ?_
   refine thnF ((hv s3 H3 C cl fp).run _ s10 σ8 H10 _ I10 q10) fun zv s11 ⟨yv, H11, I11, r11, H12, put, nx⟩ => ?_
   exact aAo (X := BX X scope s3 H3 C cl fp) hu I11 put r10 r11 fun s12 I12 => fin I12 nx
end PV
end
section
namespace PV
open PySem PySem.Spec PyProof.Rows L2
end PV
end
section
namespace PV
open PySem PySem.Spec PyProof.Rows L2
end PV
end
section
namespace PV
open PySem PySem.Spec PyProof.Rows L2
/-- keys: ints and strs, or tuples of such -/
structure KKind (κ : Type) where
 obj : List (κ × V) -> HO
 cell : List (κ × D) -> Cl
 key : D -> Option κ
def kT : KKind (List Key) := ⟨.dT, .dT, fun y => match y with
 | .tup ks => aJ toK ks
 | _ => none⟩
structure KOk {κ : Type} [DecidableEq κ] (K : KKind κ) : Prop where
 d0 : aAE (K.obj [])
 mu : ∀ vs, eA (K.obj vs) = true
 put : ∀ {g : Gx} {μ : List Addr} {H : Hp} {a : Addr} {y : D} {vy vz : V} {vs : List (κ × V)} {k : κ}, K.key y = some k -> RV g μ H y vy -> H a = some (K.obj vs) -> vs.length < sizeLine -> DPut H a vy vz (upd H a (K.obj (putK vs k vz)))
 rc : ∀ {g : Gx} {μ : List Addr} {H : Hp} {a : Addr} {kvs : List (κ × D)} {vs : List (κ × V)}, RKs g μ H kvs vs -> H a = some (K.obj vs) -> RC g μ H a (K.cell kvs)
theorem aF0 : KOk kT := by
 refine ⟨.inr rfl, fun _ => rfl, fun {g μ H a y vy vz vs k} e q ha hl => ?_, fun r ha => ⟨_, ha, r⟩⟩
 cases y <;> first | (cases e; done) | skip
 rename_i ks
 obtain ⟨c, us, rfl, hc, zc⟩ := q
 rw [tV e zc] at hc
 exact DPut.t ha hc hl
section
variable {κ : Type} [DecidableEq κ] {K : KKind κ}
def sV (K : KKind κ) (mt : M Bool) (mk mv : M D) : List (κ × D) -> Sg -> Hh -> R (List (κ × D)) := fun acc σ h => (noX (mt σ h)).bind fun b h2 => if b = true then
  (noX (mk σ h2)).bind fun y h3 => (noX (mv σ h3)).bind fun z h4 => match K.key y with
   | some k => if acc.length < sizeLine then .ok (vE acc k (aT z h4).1) (aT z h4).2 else .bad
   | none => .bad
 else .ok acc h2
def mDc (K : KKind κ) (mi : M Src) (t : Tg) (mt : M Bool) (mk mv : M D) (vs : List Nat) : M D := fun σ h => (mi σ h).bind fun src h1 => (lcL src t (sV K mt mk mv) (eF σ vs) fX 0 [] h1).bind fun acc h2 => .ok (.ref h2.length) (h2 ++ [K.cell acc])
abbrev lF (K : KKind κ) (g : Gx) : List Addr -> Hp -> List (κ × D) -> HO -> Prop := fun μ H acc o => ∃ vs, o = K.obj vs /\ RKs g μ H acc vs
variable {g : Gx} {X : Cx} {Wx : WX} {kx vx tg iter tg1 iter1 : Expr} {ifs ifs1 : List Expr} {scope : Scope} {own : List (Str × Nat)} {pos : Pos} {mi mi1 : M Src} {t t1 : Tg} {mt mt1 : M Bool} {mk mv : M D}
theorem iX {μ μ' : List Addr} {H H' : Hp} {acc : List (κ × D)} {o : HO} (tr : Trk μ H) (x : Ext μ H μ' H') (r : lF K g μ H acc o) : lF K g μ' H' acc o := by
 obtain ⟨vs, e, z⟩ := r
 exact ⟨vs, e, z.ext tr x⟩
theorem yN {acc : List (κ × D)} {σ : Sg} {h : Hh} {c : Nat} {fs : List (Str × D)} {h' : Hh} : sV K mt mk mv acc σ h ≠ .exc c fs h' := fun z => by
 unfold sV at z
 rcases bind_exc z with z | ⟨b, h2, _, z⟩
 ·exact pD z
 ·split at z
  ·rcases bind_exc z with z | ⟨y, h3, _, z⟩
   ·exact pD z
   ·rcases bind_exc z with z | ⟨y2, h4, _, z⟩
    ·exact pD z
    ·split at z
     ·split at z <;> cases z
     ·cases z
  ·cases z
/-- one turn's end: the test, the key, the value -/
theorem aGg (KO : KOk K) {Gr : List Addr -> Hp -> Prop} {μ : List Addr} {H : Hp} {a : Addr} {acc : List (κ × D)} {h : Hh} {σw : Sg} {σ : L2.St} {Nx : Hp -> Prop} (go : GrOk Gr a) (hts : STs g X scope ifs mt) (hk : SB g X scope kx mk) (hv : SB g X scope vx mv)
  (G : Gd g (lF K g) Gr a μ h acc H) (rs : RS g μ H σw σ) (p : PoL g (lF K g) Gr a (sV K mt mk mv acc σw h) Nx) :
  tTs X scope ifs σ H fun b H3 => if b = true then tB1 X scope kx σ H3 fun y H4 => tB1 X scope vx σ H4 fun z H5 => ∃ H6, DPut H5 a y z H6 /\ Nx H6 else Nx H3 := by
 refine aBr hts rs G.r ((PoL.po (rel := lF K g) go iX G p).imp fun b h2 μ2 H2 x2 r2 q2 => ?_)
 obtain ⟨G2, p2⟩ := q2
 have G2 := G2 μ2 H2 x2 r2
 cases b with
 | false => exact p2 μ2 H2 G2
 | true =>
  simp only [if_true] at p2 ⊢
  intro s0 H0 C cl fp
  refine hk s0 H0 C cl fp σw h2 σ H2 μ2 _ (rs.ext G.r.trk x2) r2 ((PoL.po (rel := lF K g) go iX G2 p2).imp fun y h3 μ3 H3 x3 r3 q3 vy qy fy => ?_)
  obtain ⟨G3, p3⟩ := q3
  have G3 := G3 μ3 H3 x3 r3
  intro s0 H0 C cl fp
  refine hv s0 H0 C cl fp σw h3 σ H3 μ3 _ (rs.ext G.r.trk (x2.trans x3)) r3 ((PoL.po (rel := lF K g) go iX G3 p3).imp fun z h4 μ4 H4 x4 r4 q4 vz qz fz => ?_)
  obtain ⟨G4, p4⟩ := q4
  obtain ⟨μ4', x4', r4', qz', _⟩ := iP r4 qz fz x4
  have G5 : Gd g (lF K g) Gr a μ4' (aT z h4).2 acc H4 := G3.ext go iX x4' r4'
  have qy5 := qy.ext r3.trk x4'
  obtain ⟨x5, r5, na5, o, eo, mo, vs, rfl, zk⟩ := G5
  split at p4
  ·rename_i k ek
   split at p4
   ·rename_i hl
    have z2 := xZ zk k eY qz'
    exact ⟨_, KO.put ek qy5 eo (by rw [zk.length]; exact hl), p4 μ4' _ ⟨go.up x5 eo mo na5 (KO.mu _), r5.upd eo mo na5, na5, _, upd_same, KO.mu _, _, rfl, z2.upd eo mo⟩⟩
   ·exact p4.elim
  ·exact p4.elim
theorem aDE (KO : KOk K) {Wx : WX} {μ0 μ1 : List Addr} {H0 H1 : Hp} {D : Addr} {r : R (List (κ × PV.D))} {σ : L2.St} {Q : VK} (nx : ∀ c fs h, r ≠ .exc c fs h) (x1 : Ext μ0 H0 μ1 H1) (nD : H1 D = none)
  (p1 : Po g Wx σ μ1 H1 (r.bind fun acc h2 => .ok (.ref h2.length) (h2 ++ [K.cell acc])) fun w h' μ' H' => ∀ v, RV g μ' H' w v -> Fr H0 w v -> Q v H') : PoL g (lF K g) (Ext μ1 H1) D r fun H2 => Q (.ref D) H2 := by
 cases r with
 | bad => exact p1.elim
 | exc c fs h2 => exact absurd rfl (nx c fs h2)
 | ok acc h2 =>
  intro μ2 H2 G2
  obtain ⟨o, eo, mo, vs, rfl, z⟩ := G2.ob
  have xt : Ext μ1 H1 (μ2 ++ [D]) H2 := by
   obtain ⟨⟨e, rfl, fe⟩, fr, lv, tb⟩ := G2.x
   refine ⟨⟨e ++ [D], by simp, fun b hb => ?_⟩, fr, lv, tb⟩
   rcases List.mem_append.mp hb with hb | hb
   ·exact fe b hb
   ·have : b = D := by simpa using hb
    rw [this]; exact nD
  refine p1 (μ2 ++ [D]) H2 xt (G2.r.track G2.na (KO.rc z eo)) (.ref D) ⟨D, ?_, rfl⟩ (.of rfl)
  rw [<- G2.r.len]; simp
theorem aB6 (KO : KOk K) {μ1 : List Addr} {H1 : Hp} {h1 : Hh} {D : Addr} (r1 : RH g μ1 h1 H1) (nD : H1 D = none) : Gd g (lF K g) (Ext μ1 H1) D μ1 h1 [] (upd H1 D (K.obj [])) := ⟨.new r1.trk nD, r1.new nD, fun hm => r1.trk.ne nD hm rfl, _, upd_same, KO.mu _, [], rfl, rfl⟩
theorem aKg (KO : KOk K) (hc : X.calm = true) (hu : X.A.units + 1 < cLine) (hN : X.N.Nodup) (ok : BlkOk X.N X.env.scope scope own) (hsl : ∀ i ∈ t.slots, i ∈ own.map (·.2)) (hs : ∀ x, foldedSetIterable iter X.env x = pure x)
  (hi : SI g X Wx tg iter mi) (hg : SBG g X scope tg t) (hts : STs g X scope ifs mt) (hk : SB g X scope kx mk) (hv : SB g X scope vx mv) : SE g X Wx (.DictComp kx vx [⟨tg, iter, ifs, 0⟩] scope pos) (mDc K mi t mt mk mv (own.map (·.2))) := by
 intro σw h σ H μ Q rs rh po
 refine fG (aJW hc hu hN KO.d0 wM ok (fun s0 H0 C cl fp => (⟨fun pins s σ H v u Q I r q => q s0 H0 C cl fp pins s u I r⟩ : PG _ _ (tBG X scope tg))) (fun s0 H0 C cl fp => tP hts s0 H0 C cl fp)
  (fun s0 H0 C cl fp => (⟨fun pins s σ H Q I q => q s0 H0 C cl fp pins s I⟩ : PE _ _ (tB1 X scope kx))) (fun s0 H0 C cl fp => (⟨fun pins s σ H Q I q => q s0 H0 C cl fp pins s I⟩ : PE _ _ (tB1 X scope vx))) hs) ?_
 refine hi σw h σ H μ _ rs rh (po.bind.imp fun src h1 μ1 H1 x1 r1 p1 J sk D nD => ?_)
 have rs1 := (rs.ext rh.trk x1).wipe (own.map (·.2))
 have pl := aDE KO (fun c fs h => tG (fun _ _ _ _ _ _ => yN) _ _ _ _) x1 nD p1
 have go := aCO (a := D) r1.trk nD
 refine xU (rel := lF K g) go iX (fun μ H h x r i => (sk.ext x).at r i) (fun w x acc h μ H' σ1 Nx G nt qx e2 p2 => ?_) (aB6 KO r1 nD) pl
 intro s0 H0 C cl fp
 refine hg s0 H0 C cl fp w x _ σ1 h _ H' μ _ (rs1.ext r1.trk G.x) G.r nt qx e2 fun σ' rs' w' => ⟨?_, aGg KO go hts hk hv G rs' p2⟩
 rw [w' _ hsl, sP]
end
end PV
end
section
namespace PV
open PySem PySem.Spec PyProof.Rows L2
section
variable {κ : Type} [DecidableEq κ] {K : KKind κ} {FS : FST} {g : Gx} {k : Nat} {cl : Cll} {N : List Str} {sc : Scope} {fq : Str -> Bool} {X : Cx} {Wx : WX} {kx vx tg iter tg1 iter1 : Expr} {ifs ifs1 : List Expr} {scope : Scope} {pos : Pos} {mi mi1 : M Src} {t t1 : Tg} {mt mt1 : M Bool} {mk mv : M D}
theorem Good.dc (G : Good FS g k cl N sc fq X Wx) (KO : KOk K) (own : List (Str × Nat)) (vs : List Nat) (hB : okB N sc scope own = true) (hvs : own.map (·.2) = vs) (hsl : sJ t.slots vs = true) (hs : ∀ x, foldedSetIterable iter X.env x = pure x) (hi : SI g X Wx tg iter mi)
  (hg : ∀ X, Good FS g k cl N (relS scope sc) (fqB scope) X WF -> SG g X tg t) (ht : GTs FS g k cl N (relS scope sc) (fqB scope) ifs mt) (hk : ∀ X, Good FS g k cl N (relS scope sc) (fqB scope) X WF -> SE g X WF kx mk) (hv : ∀ X, Good FS g k cl N (relS scope sc) (fqB scope) X WF -> SE g X WF vx mv) :
  SE g X Wx (.DictComp kx vx [⟨tg, iter, ifs, 0⟩] scope pos) (mDc K mi t mt mk mv vs) := by
 subst hvs
 exact aKg KO G.calm G.u1 G.xN (G.bok hB) (tU hsl) hs hi (fun s0 H0 C c1 fp => hg _ (G.blk scope s0 H0 C c1 fp)) (ht.sts G) (fun s0 H0 C c1 fp => hk _ (G.blk scope s0 H0 C c1 fp)) (fun s0 H0 C c1 fp => hv _ (G.blk scope s0 H0 C c1 fp))
end
end PV
end
section
namespace PV
open PySem PySem.Spec PyProof.Rows L2
section
variable {κ : Type} [DecidableEq κ] {K : KKind κ} {FS : FST} {g : Gx} {k : Nat} {cl : Cll} {N : List Str} {sc : Scope} {fq : Str -> Bool} {X : Cx} {Wx : WX} {kx vx tg iter tg1 iter1 : Expr} {ifs ifs1 : List Expr} {scope : Scope} {pos : Pos} {mI mI1 : M Src} {t t1 : Tg} {mt mt1 : M Bool} {mk mv : M D}
theorem Good.qdc (G : Good FS g k cl N sc fq X Wx) (KO : KOk K) (own : List (Str × Nat)) (vs : List Nat) (hB : okB N sc scope own = true) (hvs : own.map (·.2) = vs) (hsl : sJ t.slots vs = true) (hs : vA iter = true) (hi : QI g X Wx tg iter mI) (hg : ∀ X, Good FS g k cl N (relS scope sc) (fqB scope) X WF -> QG g X tg t) (ht : QTs FS g k cl N (relS scope sc) (fqB scope) ifs mt)
  (hk : ∀ X, Good FS g k cl N (relS scope sc) (fqB scope) X WF -> QE g X WF kx mk) (hv : ∀ X, Good FS g k cl N (relS scope sc) (fqB scope) X WF -> QE g X WF vx mv) : QE g X Wx (.DictComp kx vx [⟨tg, iter, ifs, 0⟩] scope pos) (mDc K mI t mt mk mv vs) :=
 ⟨G.dc KO own vs hB hvs hsl (fun _ => wB hs) hi.p (fun X G => (hg X G).p) ht.un (fun X G => (hk X G).p) (fun X G => (hv X G).p)⟩
end
end PV
end
section
namespace PV
open PySem PySem.Spec PyProof.Rows L2
end PV
end
section
namespace PV
open PySem PySem.Spec PyProof.Rows L2
end PV
end
section
namespace PV
open PySem PySem.Spec PyProof.Rows L2
def kPy : Key -> PyData
 | .inl i => .int i
 | .inr x => .str x
def toQ (h : Hh) : Nat -> D -> Option PyData
 | 0, _ => none
 | n + 1, d => match d with
  | .non => some .none
  | .bl b => some (.bool b)
  | .int i => some (.int i)
  | .str x => some (.str x)
  | .tup ws => (aJ (toQ h n) ws).map .tuple
  | .kt ws => (aJ (toQ h n) ws).map .tuple
  | .ref i => match h[i]? with
   | some (.dK kvs) => (aJ (toQ h n) (kvs.map (·.2))).map fun ds => .dict ((kvs.map fun kv => kPy kv.1).zip ds)
   | _ => none
  | _ => none
section
variable {g : Gx} {X : Cx} {Wx : WX} {pins : List (Addr × Obj)} {σ : L2.St} {μ : List Addr} {h : Hh} {H : Hp} {s : Shared}
theorem tK {f : D -> Option PyData} (ih : ∀ w v d u, f w = some d -> RV g μ H w v -> RelV v u -> ∃ as, Reads s.heap u d as /\ sysModules ∉ as) : ∀ {ws : List D} {vs : List V} {us : List Value} {ds : List PyData}, aJ f ws = some ds -> RVs g μ H ws vs -> Vals vs us -> ∃ as, ReadsAll s.heap us ds as /\ sysModules ∉ as
 | [], vs, us, ds, e, r, v => by
  rw [show vs = [] from r] at v
  unfold aJ at e
  cases e; cases v
  exact ⟨_, .nil, by simp⟩
 | w :: ws, vs, us, ds, e, r, v => by
  obtain ⟨v1, rr, rfl, _, q, z⟩ := r
  unfold aJ at e
  cases v with
  | cons r1 r2 =>
   split at e
   ·rename_i a b ea eb
    cases e
    obtain ⟨as, q1, n1⟩ := ih w v1 a _ ea q r1
    obtain ⟨bs, q2, n2⟩ := tK ih eb z r2
    exact ⟨_, .cons q1 q2, by simp [n1, n2]⟩
   ·cases e
theorem aE0 {P : Program} {w : World} {es : List DictEntry} {vs : List (Key × Value)} (hp : Pairs (mixKind P w) es vs) : ReadsAll s.heap (es.map (·.key)) (vs.map fun p => kPy p.1) [] /\ es.map (·.val) = vs.map (·.2) := by
 induction hp with
 | nil => exact ⟨.nil, rfl⟩
 | cons h1 h2 _ ih =>
  obtain ⟨i1, i2⟩ := ih
  refine ⟨?_, by simp [h2, i2]⟩
  rcases keyIs_shape h1 with ⟨i, t, ek, ev⟩ | ⟨x, t, ek, ev⟩
  ·simp only [List.map_cons, ek, ev, kPy]
   exact .cons (.int i t) i1
  ·simp only [List.map_cons, ek, ev, kPy]
   exact .cons (.str x t) i1
theorem aFz {kvs : List (Key × D)} {vs : List (Key × V)} (r : RKs g μ H kvs vs) : RVs g μ H (kvs.map (·.2)) (vs.map (·.2)) /\ kvs.map (·.1) = vs.map (·.1) := by
 induction kvs generalizing vs with
 | nil => rw [show vs = [] from r]; exact ⟨rfl, rfl⟩
 | cons p kvs ih =>
  obtain ⟨v, rr, rfl, nt, q, z⟩ := r
  obtain ⟨i1, i2⟩ := ih z
  exact ⟨⟨v, _, rfl, nt, q, i1⟩, by simp [i2]⟩
theorem aGC {vs : List (Key × V)} {us : List (Key × Value)} (r : KV vs us) : Vals (vs.map (·.2)) (us.map (·.2)) /\ vs.map (·.1) = us.map (·.1) := by
 induction r with
 | nil => exact ⟨.nil, rfl⟩
 | cons h _ ih => exact ⟨.cons h.2 ih.1, by simp [h.1, ih.2]⟩
theorem xD (hK : X.K = g.K) (rh : RH g μ h H) (I : Inv X pins σ H s) : ∀ (n : Nat) (w : D) (v : V) (d : PyData) (u : Value), toQ h n w = some d -> RV g μ H w v -> RelV v u -> ∃ as, Reads s.heap u d as /\ sysModules ∉ as
 | 0, w, v, d, u, e, r, q => by unfold toQ at e; cases e
 | n + 1, w, v, d, u, e, r, q => by
  unfold toQ at e
  split at e
  ·cases e; rw [show v = .non from r] at q; cases q; exact ⟨_, .none, by simp⟩
  ·cases e; rw [show v = .bl _ from r] at q; cases q; exact ⟨_, .bool _, by simp⟩
  ·cases e; rw [show v = .int _ from r] at q; obtain ⟨t, rfl⟩ := q; exact ⟨_, .int _ t, by simp⟩
  ·cases e; rw [show v = .str _ from r] at q; obtain ⟨t, rfl⟩ := q; exact ⟨_, .str _ t, by simp⟩
  ·obtain ⟨a, vs, rfl, ht, z⟩ := r
   cases q
   obtain ⟨ds, e1, rfl⟩ := Option.map_eq_some_iff.mp e
   obtain ⟨its, rv, ⟨o, ho, hc, m, hd⟩, _⟩ := I.tuple (SqT.of ht)
   obtain ⟨as, h1, h2⟩ := tK (xD hK rh I n) e1 z rv
   exact ⟨_, .tuple ho hc hd h1, h2⟩
  ·obtain ⟨a, vs, rfl, ht, z⟩ := r
   cases q
   obtain ⟨ds, e1, rfl⟩ := Option.map_eq_some_iff.mp e
   obtain ⟨its, rv, ⟨o, ho, hc, m, hd⟩, _⟩ := I.tuple (by rw [hK]; exact ht)
   obtain ⟨as, h1, h2⟩ := tK (xD hK rh I n) e1 z rv
   exact ⟨_, .tuple ho hc hd h1, h2⟩
  ·rename_i i
   split at e
   ·rename_i kvs e3
    obtain ⟨a, e1, rfl⟩ := r
    cases q
    obtain ⟨b, eb, vs, hb, z⟩ := rh.cell i _ e3
    rw [e1] at eb; cases eb
    obtain ⟨ds, e4, rfl⟩ := Option.map_eq_some_iff.mp e
    obtain ⟨_, lo, us, rel, o, es, ep, ho, hx, hd, _, hp, _⟩ := dk_rd I.hok (.inl hb)
    obtain ⟨z1, z2⟩ := aFz z
    obtain ⟨r1, r2⟩ := aGC rel
    obtain ⟨k1, k2⟩ := aE0 (s := s) hp
    obtain ⟨as, h1, h2⟩ := tK (xD hK rh I n) e4 z1 r1
    have lds : ds.length = kvs.length := by rw [uZ e4]; simp
    have ke : (kvs.map fun kv => kPy kv.1) = us.map fun p => kPy p.1 := by
     have := congrArg (List.map kPy) (z2.trans r2)
     rw [List.map_map, List.map_map] at this
     exact this
    refine ⟨_, .dict (as := []) (bs := as) ho hx.1 hd ?_ ?_, ?_⟩
    ·rw [List.map_fst_zip (by simp [lds]), ke]; exact k1
    ·rw [List.map_snd_zip (by simp [lds]), k2]; exact h1
    ·have : sysModules ≠ a := fun z => by rw [z] at lo; simp at lo
     simp [h2, this]
   ·cases e
  ·cases e
/-- repr: plain data, else tuples with dicts -/
def iI (x : D) (h : Hh) : R D := match toP h bJ x with
 | some _ => wU x h
 | none => match toQ h bJ x with
  | some d => if d.showable = true /\ d.shown.length <= sizeLine /\ d.depth <= 64 then .ok (.str d.shown) h else .bad
  | none => .bad
theorem aBh (hK : X.K = g.K) (hg : X.A.guards = some []) (hu : X.A.units + 65 < cLine) : SC1 g X Wx (.builtin "repr") iI := by
 intro x h σ H μ vx Q rh qx po
 unfold iI at po
 split at po
 ·exact aG2 hK hg hu x h σ H μ vx Q rh qx po
 ·split at po
  ·rename_i d e
   split at po
   ·rename_i hs
    obtain ⟨h1, h2, h3⟩ := hs
    intro pins s σ us I r
    obtain ⟨u, rfl, rv⟩ := vals1 r
    obtain ⟨as, rd, na⟩ := xD hK rh I _ _ _ _ _ e qx rv
    have fin : ∀ h' tk t, (∀ b o, s.heap.get? b = some o -> h'.get? b = some o) -> EP X pins σ Q (.str d.shown t) { s with heap := h', toks := tk } := fun h' tk t hk => ⟨.str _, H, I.kept (t' := tk) hk, ⟨_, rfl⟩, po.at rh _ rfl (.of rfl)⟩
    cases rd with
    | none => exact PySem.P.repr_of_none ⟨.str _, H, I.tok _, ⟨_, rfl⟩, po.at rh _ rfl (.of rfl)⟩
    | bool b => exact PySem.P.repr_of_bool ⟨.str _, H, I.tok _, ⟨_, rfl⟩, po.at rh _ rfl (.of rfl)⟩
    | int i t => exact PySem.P.repr_of_int (of_decide_eq_true h1) ⟨.str _, H, I.tok _, ⟨_, rfl⟩, po.at rh _ rfl (.of rfl)⟩
    | str y t => exact PySem.P.repr_of_str (hsz := h2) ⟨.str _, H, I.tok _, ⟨_, rfl⟩, po.at rh _ rfl (.of rfl)⟩
    | list a b c f => exact repr_of_reads' (.list a b c f) h1 (fun _ => na) hg (by omega) (fun _ _ e => e) (fun h' u tk hk => fin h' tk u hk) h2
    | tuple a b c f => exact repr_of_reads' (.tuple a b c f) h1 (fun _ => na) hg (by omega) (fun _ _ e => e) (fun h' u tk hk => fin h' tk u hk) h2
    | dict a b c f f2 => exact repr_of_reads' (.dict a b c f f2) h1 (fun _ => na) hg (by omega) (fun _ _ e => e) (fun h' u tk hk => fin h' tk u hk) h2
   ·exact po.elim
  ·exact po.elim
variable {FS : FST} {k : Nat} {cl : Cll} {N : List Str} {sc : Scope} {fq : Str -> Bool}
theorem Good.creprX (G : Good FS g k cl N sc fq X Wx) : QC1 g X Wx (.builtin "repr") iI := ⟨aBh G.K G.gd G.un⟩
end
end PV
end
section
namespace PV
open PySem PySem.Spec PyProof.Rows L2
/-- the numbers below 100 are those of the plain classes -/
def aET (f : Str) (x : D) (h : Hh) : R D := match x with
 | .ref i => match h[i]? with
  | some (.ins c fs) => if c < 100 then match fs.lookup f with
    | some w => .ok w h
    | none => .bad
   else .bad
  | _ => .bad
 | _ => .bad
def aF7 (f : Str) (w : D) : List (Str × D) -> List (Str × D)
 | [] => [(f, w)]
 | (g, x) :: r => if g = f then (g, w) :: r else (g, x) :: aF7 f w r
def aGe (f : Str) (x w : D) (h : Hh) : Option Hh := match x with
 | .ref i => match h[i]? with
  | some (.ins c fs) => if c < 100 /\ fs.length < 1000 /\ w.isTl = false then some (h.set i (.ins c (aF7 f w fs))) else none
  | _ => none
 | _ => none
def aJS (f : Str) (mo me : M D) : MS := fun σ h => (mSt me σ h).then σ fun w h1 => (mo σ h1).then σ fun x h2 => match aGe f x w h2 with
 | some h3 => .nx σ h3
 | none => .bad
/-- o.m(..), the def by the class -/
def aJP (cl : Cll) (mt : Nat -> Option Nat) (m : Str) (mo : M D) (ms : M (List D)) : M D := fun σ h => gcR h ((mo σ h).bind fun x h1 => match x with
 | .ref i => match h1[i]? with
  | some (.ins c fs) => match mt c with
   | some f => if c < 100 /\ fs.lookup m = none then (ms σ h1).bind fun ws h2 => cl f (.ref i :: ws) h2 else .bad
   | none => .bad
  | _ => .bad
 | _ => .bad)
section
variable {g : Gx} {X : Cx} {Wx : WX} {μ : List Addr} {h : Hh} {H : Hp}
theorem RKs.lookup {fs : List (Str × D)} {vs : List (Str × V)} {f : Str} {w : D} (r : RKs g μ H fs vs) (e : fs.lookup f = some w) : ∃ v, vs.lookup f = some v /\ w.isTl = false /\ RV g μ H w v := by
 induction fs generalizing vs with
 | nil => cases e
 | cons p fs ih =>
  obtain ⟨k, x⟩ := p
  obtain ⟨v, rr, rfl, nt, q, z⟩ := r
  rw [List.lookup_cons] at e
  show ∃ v', List.lookup f ((k, v) :: rr) = some v' /\ _
  rw [List.lookup_cons]
  cases hk : f == k
  ·rw [hk] at e
   exact ih z e
  ·rw [hk] at e
   cases e
   exact ⟨v, rfl, nt, q⟩
theorem aDQ {i c : Nat} {fs : List (Str × D)} {v : V} (rh : RH g μ h H) (q : RV g μ H (.ref i) v) (e : h[i]? = some (.ins c fs)) : ∃ a C dx vs, v = .ref a /\ μ[i]? = some a /\ g.ca c = some C /\ H a = some (.ins C dx vs) /\ RKs g μ H fs vs := by
 obtain ⟨a, ea, rfl⟩ := q
 obtain ⟨b, eb, C, dx, vs, hc, hb, z⟩ := rh.cell i _ e
 rw [ea] at eb; cases eb
 exact ⟨a, C, dx, vs, rfl, ea, hc, hb, z⟩
variable {o e value : Expr} {es : List Expr} {f m : Str} {pos pos' apos : Pos} {mo me : M D} {ms : List (M D)}
end
end PV
end
section
namespace PV
open PySem PySem.Spec PyProof.Rows L2
section
variable {g : Gx} {X : Cx} {Wx : WX} {k f : Nat} {cl : Cll} {o e : Expr} {es : List Expr} {m : Str} {apos pos p : Pos} {mo : M D} {ms : List (M D)} {mt : Nat -> Option Nat}
/-- how its arguments are bound, all by place -/
def BdM (m q : Str) (st : Stmt) (ps : List Str) : Prop := ∀ (kV doc pm : Value) (an : Option Addr) (cdv ct : Value) (us : List Value), us.length = ps.length -> bindArgs (PySem.W.fnOf m q (defArgs st) (defBody st) (defScope st) .none kV doc pm an cdv ct) ⟨us, []⟩ = pure (ps.zip us)
end
end PV
end
section
namespace PV
open PySem PySem.Spec PyProof.Rows L2
/-- what an attribute may stand on: anything but super() -/
def nC1 : Expr -> Bool
 | .Call (.Name _ _) [] [] _ => false
 | _ => true
theorem aCB {o : Expr} {n : Str} {env : Env} (h : nC1 o = true) : attributeBase o n env (eval o env) = eval o env := by
 unfold attributeBase
 split
 ·cases h
 ·rfl
theorem aGH {o : Expr} {m : Str} {apos pos : Pos} {es : List Expr} {env : Env} (hb : nC1 o = true) (hs : dG es = true) (hn : decide (es.length < 29) = true) (hline : (apos.endLine == pos.line) = true) :
  eval (.Call (.Attribute o m apos) es [] pos) env = (eval o env >>= fun ov => standAt apos.atName >>= fun _ => holding [ov] (getMethod ov m (do return (<- importBound o env).getD true)) >>= fun r =>
   callWith pos r.1 r.2 (backTo pos (starEach es env)) (backToKw pos (keywordEach [] env))) := by
 have hall : ∀ {es : List Expr}, dG es = true -> (backTo pos (starEach es env)).all (fun x => !x.1) = true := by
  intro es
  induction es with
  | nil => intro _; rfl
  | cons e es ih =>
   intro h
   simp only [dG, Bool.and_eq_true] at h
   rw [qV h.1]
   unfold backTo
   rw [List.map_cons, List.all_cons]
   exact ih h.2
 have hfew : methodCallForm (es.length + ([] : List Keyword).length) (backTo pos (starEach es env)) (backToKw pos (keywordEach [] env)) = true := by
  unfold methodCallForm
  rw [hall hs]
  have hn' := of_decide_eq_true hn
  have e : (backToKw pos (keywordEach [] env)) = [] := rfl
  rw [e]
  simp
  omega
 show (attributeBase o m env (eval o env) >>= fun ov => standAt apos.atName >>= fun _ => methodCall o m apos pos env ov (es.length + ([] : List Keyword).length) (backTo pos (starEach es env)) (backToKw pos (keywordEach [] env))) = _
 rw [aCB hb]
 congr 1
 funext ov
 congr 1
 funext _
 unfold methodCall calleeOf methodCallPos
 rw [if_pos hfew, hfew, hline]
 simp
section
variable {FS : FST} {g : Gx} {k : Nat} {cl : Cll} {N : List Str} {sc : Scope} {fq : Str -> Bool} {X : Cx} {Wx : WX} {pos p p' apos cpos tpos spos : Pos} {x m fl : Str} {f n : Nat} {st : Stmt} {ps : List Str} {e o : Expr} {es : List Expr} {mo me : M D} {ms : List (M D)} {mt : Nat -> Option Nat}
/-- attribute fl may be read and written on the plain classes -/
def AtF (K : PySem.W.Frag) (g : Gx) (fl : Str) : Prop := ∀ c C, c < 100 -> g.ca c = some C -> Cls K C /\ NoAttr K C fl
end
section
variable {FS : FST} {P : Program} {w : World} {K : PySem.W.Frag} {mg : Str -> Option Value} {base : Heap} {g : Gx} {k c f : Nat} {m q : Str} {st : Stmt} {C fa : Addr} {fd : FuncData} {N ps : List Str} {T : Tab} {mm : Cll -> MS}
theorem bI {x : Str} (D : FunD K x x (defArgs st) (defBody st) (defScope st) [] [] fa fd) (hm : mg x = some (.ref fa)) (hf : g.fa f = some fa) (S : FnScope N ps (defScope st)) (hK : K = g.K) (fs : FS P w K mg base g k (aL T k)) (hT : T f = some ⟨N.length, ps.length, mm⟩) (hn : ps.length <= N.length)
  (sl : ∀ X Wx, Good FS g k (aL T k) N (defScope st) (fun _ => true) X Wx -> HP X -> QL g X Wx (defBody st) (mm (aL T k))) : FnF P w K mg base g (k + 1) (aL T (k + 1)) f x st ps :=
 ⟨fa, fd, hm, hf, D, aAu D S hK fs hT hn fun X Wx G hp => (sl X Wx G hp).p⟩
theorem aDI {x : Str} {dvs : List V} {kws : List (Str × V)} (D : FunD K x q (defArgs st) (defBody st) (defScope st) dvs kws fa fd) (S : FnScope N ps (defScope st)) (hK : K = g.K) (fs : FS P w K mg base g k (aL T k)) (hT : T f = some ⟨N.length, ps.length, mm⟩) (hn : ps.length <= N.length)
  (sl : ∀ X Wx, Good FS g k (aL T k) N (defScope st) (fun _ => true) X Wx -> HP X -> QL g X Wx (defBody st) (mm (aL T k))) : FnG P w K mg base (CX P w) (k + 1 + 3) fa fd ps (qT g ps.length (aL T (k + 1) f)) :=
 aAu D S hK fs hT hn fun X Wx G hp => (sl X Wx G hp).p
end
end PV
end
section
set_option maxHeartbeats 4000000
namespace PV
open PySem PySem.Spec PyProof.Rows L2
section
variable {X : Cx} {pins : List (Addr × Obj)} {σ : L2.St} {H : Hp} {s : Shared} {a : Addr}
theorem yS (I : Inv X pins σ H s) : Inv (X.suite a X.pn) pins σ H s := ⟨I.ok.suite a X.pn, I.os, I.bare, I.base, I.loc, I.cell, I.free, I.freeC, I.pin, I.hok, I.len⟩
theorem hW (I : Inv (X.suite a X.pn) pins σ H s) (ok : X.Ok) : Inv X pins σ H s := ⟨ok, I.os, I.bare, I.base, I.loc, I.cell, I.free, I.freeC, I.pin, I.hok, I.len⟩
/-- an object that stands outside is tracked from now on -/
theorem aDR {oe : Obj} {vs : Array Value} {φ : Heap -> Prop} (I : Inv X pins σ H s) (ha : s.heap.get? a = some oe) (hd : oe.data = .fields vs) (na : H a = none) (nL : a ≠ X.env.locals) (n0 : X.s_0.heap.get? a = none) (np : ∀ p ∈ X.pn ++ pins, p.1 ≠ a)
  (hφ : φ s.heap) (hst : ∀ h1 h2 : Heap, φ h1 -> (∀ o, h1.get? a = some o -> h2.get? a = some o) -> φ h2) : Inv X pins σ (upd H a (.ext φ)) s := by
 have ne0 : ∀ b o, X.s_0.heap.get? b = some o -> b ≠ a := fun b o e z => by rw [z, n0] at e; cases e
 refine ⟨I.ok, I.os, I.bare, ⟨I.base.keep, I.base.slot, fun b o e n hx => ?_, I.base.there, fun b xs e => ?_, fun b o u e => ?_, fun b ps e => ?_⟩, I.loc, I.cell, ?_, fun x c e => ?_, fun p hp => ?_, fun b o e => ?_, I.len⟩
 ·rw [upd_ne (ne0 b o e)]; exact I.base.free b o e n hx
 ·have q := I.base.tups b xs e
  rw [upd_ne (ne_of_none q na)]; exact q
 ·have q := I.base.frzs b o u e
  rw [upd_ne (ne_of_none q na)]; exact q
 ·obtain ⟨m, q⟩ := I.base.tbls b ps e
  exact ⟨m, by rw [upd_ne (ne_of_none q na)]; exact q⟩
 ·rw [upd_ne (Ne.symm nL)]; exact I.free
 ·have nc : c ≠ a := fun z => by
   obtain ⟨v, o, ho, hc⟩ := I.cell x c e
   rw [z, ha] at ho; cases ho
   rw [hd] at hc; cases hc
  rw [upd_ne nc]; exact I.freeC x c e
 ·obtain ⟨e, n, ne, nf, d⟩ := I.pin p hp
  exact ⟨e, by rw [upd_ne (np p hp)]; exact n, ne, nf, d⟩
 ·by_cases hb : b = a
  ·subst hb
   rw [upd_same] at e
   cases e
   exact ⟨hφ, ⟨oe, ha⟩, hst⟩
  ·rw [upd_ne hb] at e
   exact (I.hok b o e).stay (fun _ _ _ q => q) (fun c q => by rw [upd_ne (ne_of_none q na)]; exact q) fun c xs q => by rw [upd_ne (ne_of_none q na)]; exact q
end
/-- the ends of a suite whose name goes -/
def aHI (i : Nat) (D : Ends) : Ends := { nx := fun σ' H' => D.nx (σ'.set i none) H', rt := D.rt, bk := fun σ' H' => D.bk (σ'.set i none) H', ct := fun σ' H' => D.ct (σ'.set i none) H' }
/-- what the clauses wish of an exception of the body, one after the other -/
def wT (K : PySem.W.Frag) (Wout : WX) (D : Ends) : List (Value × Option Nat × (Addr -> TS)) -> WX
 | [] => Wout
 | (c, some i, ts) :: r => fun cls d σ H => ∃ b, PySem.W.exmOne K cls c = some b /\ (b = true -> ∀ a, H a = none -> ts a (aHI i D) (σ.set i (some (.ref a))) (upd H a (ExV cls d a))) /\ (b = false -> wT K Wout D r cls d σ H)
 | (c, none, ts) :: r => fun cls d σ H => ∃ b, PySem.W.exmOne K cls c = some b /\ (b = true -> ∀ a, H a = none -> ts a D σ (upd H a (ExV cls d a))) /\ (b = false -> wT K Wout D r cls d σ H)
inductive HdT (X : Cx) : List ExceptHandler -> List (Value × Option Nat × (Addr -> TS)) -> Prop
 | nil : HdT X [] []
 | as {x n : Str} {c : Value} {i : Nat} {ts : Addr -> TS} {b₀ : Stmt} {suite : List Stmt} {np pos' : Pos} {hds : List ExceptHandler} {l : List (Value × Option Nat × (Addr -> TS))} (hc : Names X x c) (hi : X.N[i]? = some n) (hln : X.env.kindOf n = some .local)
   (hsu : ∀ a : Addr, PSs (X.suite a X.pn) (b₀ :: suite) (ts a)) (r : HdT X hds l) : HdT X (.ExceptHandler (some (.Name x np)) (some n) (b₀ :: suite) pos' :: hds) ((c, some i, ts) :: l)
 | no {x : Str} {c : Value} {ts : Addr -> TS} {b₀ : Stmt} {suite : List Stmt} {np pos' : Pos} {hds : List ExceptHandler} {l : List (Value × Option Nat × (Addr -> TS))} (hc : Names X x c)
   (hsu : ∀ a : Addr, PSs (X.suite a X.pn) (b₀ :: suite) (ts a)) (r : HdT X hds l) : HdT X (.ExceptHandler (some (.Name x np)) none (b₀ :: suite) pos' :: hds) ((c, none, ts) :: l)
section
variable {X : Cx} {body : List Stmt} {h₀ : ExceptHandler} {hds : List ExceptHandler} {l : List (Value × Option Nat × (Addr -> TS))} {pos : Pos} {tb : WX -> TS} {Wout : WX}
theorem aGP (hs : X.stack = X.env :: X.outer) (hf : X.env.frame = some X.env.locals) (hex : X.ex = []) (hN : X.N.Nodup) (tk : Takes X Wout)
  (hb : ∀ (W : WX) (pn : List (Addr × Obj)) (xe : Value -> Shared -> Prop), Takes (X.tr pn xe) W -> PassesOwn (model X.prog X.w) X.A X.env xe -> PSs (X.tr pn xe) body (tb W))
  (hh : HdT X (h₀ :: hds) l) : PS X (.Try body (h₀ :: hds) [] [] pos) (fun D σ H => tb (wT X.K Wout D l) D σ H) := by
 refine ⟨fun pins s σ H D I h => ?_⟩
 have ok := I.ok
 have hfr : X.A.frames = some (X.env :: X.outer) := by rw [ok.frames, hs]
 refine wpAny_Try_except ?_
 refine wpAny_mono ((hb (wT X.K Wout D l) (X.pn ++ pins) (fun e s₁ => wpAny (model X.prog X.w) X.A (noteFrame e X.env) (fun _ s₂ => wpAny (model X.prog X.w) X.A (setFlight e none) (fun _ s₃ =>
  wpAny (model X.prog X.w) X.A (handleBy e X.env (h₀ :: hds)) (SP X pins D) X.xe s₃) X.xe s₂) X.xe s₁) (fun u s' xx => ?_) PassesOwn.looking).run [] s σ H D (I.toTry _) h) (fun f s1 hsp => ?_) (fun e s1 he => he)
 ·-- the catch
  obtain ⟨a, B, sI, pins', σ', H', cls, d, rfl, J', nb, up, sky, na, os, ag, w⟩ := xx
  have J : Inv X pins σ' H' sI := J'.ofTry ok
  have sky' : Sky B (X.env :: X.outer) a (Zc cls d) X.env.locals s'.heap := by rw [<- hs]; exact sky
  show wpAny (model X.prog X.w) X.A (noteFrame (.ref a) X.env) _ _ _
  refine Sky.land Zc.steady hfr hf sky' fun h3 fl3 up3 => ?_
  have J3 : Inv X pins σ' H' { s' with heap := h3 } := J.landed nb fl3.1 (up.trans up3) os ag
  obtain ⟨oe3, vs3, he3, hz3, hd3⟩ := fl3.there
  have notFr : ∀ {h : Heap} {o : Obj} {vs : Array Value}, h.FunFrames B (X.env :: X.outer) -> h.get? a = some o -> o.data = .fields vs -> a ∉ frs (X.env :: X.outer) := fun {h o vs} ff e dd hm => by
   obtain ⟨_, o', e', hnf⟩ := ff.mem hm
   rw [e] at e'; cases e'
   exact hnf _ dd
  have nfr := notFr fl3.2.2.1 he3 hd3
  have nL : a ≠ X.env.locals := fun z => nfr (List.mem_filterMap.mpr ⟨X.env, List.mem_cons_self, by rw [hf, z]⟩)
  have nF : a ∉ X.fs := fun hm => by
   obtain ⟨e, he, q⟩ := List.mem_filterMap.mp hm
   exact nfr (List.mem_filterMap.mpr ⟨e, List.mem_cons_of_mem _ he, q⟩)
  have Ba : B.get? a = none := fl3.2.1
  have sIa : ∀ o, sI.heap.get? a = some o -> False := fun o e => by
   have := nb a o e (by rw [hs]; exact nfr)
   rw [Ba] at this; cases this
  have n0 : X.s_0.heap.get? a = none := by
   cases e : X.s_0.heap.get? a with
   | none => rfl
   | some o =>
    obtain ⟨o', q⟩ := J.base.there a o e (by rw [hex]; exact fun z => nomatch z)
    exact (sIa o' q).elim
  have np : ∀ p ∈ X.pn ++ pins, p.1 ≠ a := fun p hp z => by
   obtain ⟨e, _⟩ := J.pin p hp
   rw [z] at e
   exact sIa _ e
  have S3 := yS (a := a) J3
  have go : ∀ {hds' : List ExceptHandler} {l' : List (Value × Option Nat × (Addr -> TS))}, HdT X hds' l' -> wT X.K Wout D l' cls d σ' H' ->
    wpAny (model X.prog X.w) X.A (handleBy (.ref a) X.env hds') (SP X pins D) X.xe { s' with heap := h3 } := by
   intro hds' l' hk
   have LT : PySem.W.Looks (model X.prog X.w) h3 (typeOf (.ref a)) cls := fun A Q E s k q => wpAny_typeOf_ref (k _ _ he3) (by rw [hz3.1]; exact q)
   have test : ∀ {x : Str} {c : Value} {np : Pos} {Q : Value -> Shared -> Prop} {E : Value -> Shared -> Prop}, Names X x c -> Q c { s' with heap := h3 } -> wpAny (model X.prog X.w) (X.A.mark (some (.ref a))) (eval (.Name x np) X.env) Q E { s' with heap := h3 } := fun {x c np Q E} hc q => by
    obtain ⟨hg, hdbg, hm | ⟨hm, hv, hnn⟩⟩ := hc
    ·exact ld_glob (X := X.suite a X.pn) S3 hg hm q hdbg
    ·exact ld_blt (X := X.suite a X.pn) S3 hg hm hv q hnn hdbg
   have land4 : ∀ {h4 : Heap} (fl4 : HandSPX.FlyingZ B (X.env :: X.outer) a (Zc cls d) h4) (up4 : h3.UpToSlots h4), Inv (X.suite a X.pn) pins σ' (upd H' a (ExV cls d a)) { s' with heap := h4 } := fun {h4} fl4 up4 => by
    have J4 : Inv X pins σ' H' { s' with heap := h4 } := J.landed nb fl4.1 ((up.trans up3).trans up4) os ag
    obtain ⟨oe4, vs4, he4, hz4, hd4⟩ := fl4.there
    exact yS (aDR J4 he4 hd4 na nL n0 np ⟨oe4, vs4, he4, hz4, hd4⟩ fun h1 h2 ⟨o, v, q, r⟩ k => ⟨o, v, k o q, r⟩)
   induction hk with
   | nil =>
    intro w
    refine wpAny_handleBy_nil ?_
    obtain ⟨k1, k2, k3, oe, vs, T, oT, ts', he, hz, hd, h1, hr⟩ := id fl3
    unfold PySem.passOn
    refine wpAny_bind (wpAny_field he hd h1 ?_)
    rw [if_neg (show ¬ ((Value.ref T == Value.none) = true) from by simp)]
    have fin : wpAny (model X.prog X.w) X.A (setFlight (.ref a) X.env.frame) (fun _ s4 => wpAny (model X.prog X.w) X.A (throw (.ref a) : Sem Flow) (SP X pins D) X.xe s4) X.xe { s' with heap := h3 } := by
     rw [hf]
     refine HandSPX.setFlight_upZ fl3 fun h4 hh4 up4 => wpAny_throw (tk _ _ ?_)
     exact ⟨a, B, sI, pins, σ', H', cls, d, rfl, J, nb, (up.trans up3).trans up4, .inr (.inr (by rw [hs]; exact hh4)), na, os, ag, w⟩
    first
     | exact wpAny_bind (wpAny_pure (wpAny_bind fin))
     | exact wpAny_bind fin
   | @as x n c i ts b₀ suite np' pos' hds2 l2 hc hi hln hsu r ih =>
    intro w
    obtain ⟨b, hb1, hyes, hno⟩ := w
    refine wpAny_handleBy_cons (codeAny_handlers_test ?_) (by intro q; cases q)
    have LM := PySem.W.exm_one (M := model X.prog X.w) (J3.kIn) LT hb1
    refine test hc (LM.here ?_)
    cases b with
    | true =>
     refine codeAny_handlers_suite_as ?_
     refine HandSPX.lands_againZ fl3 fun h4 fl4 up4 => ?_
     have S4 := land4 fl4 up4
     have hloc : Loc X.env.scope n := .inl hln
     refine store_ok (X := X.suite a X.pn) (v := .ref a) S4 hN hi hloc rfl (fun s5 S5 => ?_) (.inr hln)
     refine wpAny_mono ((hsu a).run pins s5 _ _ _ S5 (hyes rfl a na)) (fun f s6 hsp => ?_) (fun _ _ z => False.elim z)
     have end_ : ∀ {σ6 : L2.St} {H6 : Hp} {Q : Shared -> Prop}, Inv (X.suite a X.pn) pins σ6 H6 s6 -> (∀ s7, Inv X pins (σ6.set i none) H6 s7 -> Q s7) ->
       wpAny (model X.prog X.w) X.A (do bindName X.env n .none; unbindBehindTheSuite X.env n pos') (fun _ s7 => Q s7) X.xe s6 := fun {σ6 H6 Q} S6 hq => gone_ok (hW S6 ok) hN hi hln hq
     cases f with
     | next =>
      obtain ⟨σ6, H6, S6, q6⟩ := hsp
      exact end_ S6 fun s7 J7 => ⟨_, _, J7, q6⟩
     | brk =>
      obtain ⟨σ6, H6, S6, q6⟩ := hsp
      exact end_ S6 fun s7 J7 => ⟨_, _, J7, q6⟩
     | cont =>
      obtain ⟨σ6, H6, S6, q6⟩ := hsp
      exact end_ S6 fun s7 J7 => ⟨_, _, J7, q6⟩
     | ret u =>
      obtain ⟨v6, σ6, H6, S6, r6, q6⟩ := hsp
      exact end_ S6 fun s7 J7 => ⟨_, _, _, J7, r6, q6⟩
    | false =>
     show wpAny _ X.A (handleBy (.ref a) X.env hds2) _ _ _
     exact ih (hno rfl)
   | @no x c ts b₀ suite np' pos' hds2 l2 hc hsu r ih =>
    intro w
    obtain ⟨b, hb1, hyes, hno⟩ := w
    refine wpAny_handleBy_cons (codeAny_handlers_test ?_) (by intro q; cases q)
    have LM := PySem.W.exm_one (M := model X.prog X.w) (J3.kIn) LT hb1
    refine test hc (LM.here ?_)
    cases b with
    | true =>
     refine codeAny_handlers_suite ?_
     refine HandSPX.lands_againZ fl3 fun h4 fl4 up4 => ?_
     have S4 := land4 fl4 up4
     refine wpAny_mono ((hsu a).run pins _ _ _ _ S4 (hyes rfl a na)) (fun f s6 hsp => ?_) (fun _ _ z => False.elim z)
     cases f with
     | next =>
      obtain ⟨σ6, H6, S6, q6⟩ := hsp
      exact ⟨_, _, hW S6 ok, q6⟩
     | brk =>
      obtain ⟨σ6, H6, S6, q6⟩ := hsp
      exact ⟨_, _, hW S6 ok, q6⟩
     | cont =>
      obtain ⟨σ6, H6, S6, q6⟩ := hsp
      exact ⟨_, _, hW S6 ok, q6⟩
     | ret u =>
      obtain ⟨v6, σ6, H6, S6, r6, q6⟩ := hsp
      exact ⟨_, _, _, hW S6 ok, r6, q6⟩
    | false =>
     show wpAny _ X.A (handleBy (.ref a) X.env hds2) _ _ _
     exact ih (hno rfl)
  exact go hh w
 ·cases f with
  | next =>
   obtain ⟨σ', H', J', q⟩ := hsp
   exact wpAny_execs_nil ⟨σ', H', J'.ofTry ok, q⟩
  | brk =>
   obtain ⟨σ', H', J', q⟩ := hsp
   exact ⟨σ', H', J'.ofTry ok, q⟩
  | cont =>
   obtain ⟨σ', H', J', q⟩ := hsp
   exact ⟨σ', H', J'.ofTry ok, q⟩
  | ret u =>
   obtain ⟨v, σ', H', J', r, q⟩ := hsp
   exact ⟨v, σ', H', J'.ofTry ok, r, q⟩
end
end PV
end
section
namespace PV
open PySem PySem.Spec PyProof.Rows L2
def sS (c : Nat) (fs : List (Str × D)) : D := .xc c (fs.map (·.1)) (fs.map (·.2))
def RT.unset (i : Nat) : RT -> RT
 | .nx σ h => .nx (σ.set i none) h
 | .brk σ h => .brk (σ.set i none) h
 | .cont σ h => .cont (σ.set i none) h
 | .ret w h => .ret w h
 | .exc _ _ _ _ => .bad
 | .bad => .bad
def RT.noexc : RT -> RT
 | .exc _ _ _ _ => .bad
 | r => r
abbrev Hdl := List Nat × Option Nat × MS
def gS : List Hdl -> Nat -> List (Str × D) -> MS
 | [], c, fs, σ, h => .exc c fs σ h
 | (L, some i, ms) :: r, c, fs, σ, h => if L.contains c = true then (ms (σ.set i (some (sS c fs))) h).unset i else gS r c fs σ h
 | (L, none, ms) :: r, c, fs, σ, h => if L.contains c = true then (ms σ h).noexc else gS r c fs σ h
def qL (b : MS) (hs : List Hdl) : MS := fun σ h => match b σ h with
 | .exc c fs σ1 h1 => if 100 <= c then gS hs c fs σ1 h1 else .bad
 | r => r
section
variable {g : Gx} {μ : List Addr} {H : Hp}
theorem RS.setN {σw : Sg} {σ : L2.St} (r : RS g μ H σw σ) (i : Nat) : RS g μ H (σw.set i none) (σ.set i none) := by
 refine ⟨by simp [r.1], fun j w' e => ?_⟩
 by_cases hj : i = j
 ·subst hj
  by_cases hl : i < σw.length
  ·rw [List.getElem?_set_self hl] at e; cases e
  ·rw [List.getElem?_eq_none (by simpa using hl)] at e; cases e
 ·rw [List.getElem?_set_ne hj] at e ⊢
  exact r.2 j w' e
theorem RKs.split : ∀ {fs : List (Str × D)} {vs : List (Str × V)}, RKs g μ H fs vs -> vs = (fs.map (·.1)).zip (vs.map (·.2)) /\ RVs g μ H (fs.map (·.2)) (vs.map (·.2))
 | [], vs, r => by rw [show vs = [] from r]; exact ⟨rfl, rfl⟩
 | p :: fs, vs, r => by
  obtain ⟨v, rr, rfl, nt, q, z⟩ := r
  obtain ⟨e, z2⟩ := RKs.split z
  exact ⟨by simp only [List.map_cons, List.zip_cons_cons]; rw [<- e], ⟨v, _, rfl, nt, q, z2⟩⟩
theorem XV.caught {c : Nat} {fs : List (Str × D)} {cv : Value} {d : Option Addr} {h : Hh} {a : Addr} (rh : RH g μ h H) (x : XV g μ H c fs cv d) (na : H a = none) : RV g μ (upd H a (ExV cv d a)) (sS c fs) (.ref a) := by
 obtain ⟨C, vs, hC, rfl, hd, z⟩ := x
 obtain ⟨e, z2⟩ := z.split
 refine ⟨a, C, d, vs.map (·.2), rfl, hC, upd_same, by simp, ?_, z2.ext rh.trk (.new rh.trk na)⟩
 rcases hd with ⟨rfl, hd⟩ | ⟨dx, hd, q⟩
 ·exact .inl ⟨rfl, hd⟩
 ·refine .inr ⟨dx, hd, ?_⟩
  rw [upd_ne (ne_of_none q na), <- e]
  exact q
end
inductive HdQ (g : Gx) (X : Cx) : List ExceptHandler -> List Hdl -> Prop
 | nil : HdQ g X [] []
 | as {x n : Str} {cv : Value} {i : Nat} {L : List Nat} {ms : MS} {b₀ : Stmt} {suite : List Stmt} {np pos' : Pos} {hds : List ExceptHandler} {hs : List Hdl} (hc : Names X x cv) (hi : X.N[i]? = some n) (hln : X.env.kindOf n = some .local)
   (hm : ∀ c C, 100 <= c -> g.ca c = some C -> PySem.W.exmOne X.K (.ref C) cv = some (L.contains c)) (hsu : ∀ a : Addr, SL g (X.suite a X.pn) (fun _ _ _ _ => False) (b₀ :: suite) ms) (r : HdQ g X hds hs) :
   HdQ g X (.ExceptHandler (some (.Name x np)) (some n) (b₀ :: suite) pos' :: hds) ((L, some i, ms) :: hs)
 | no {x : Str} {cv : Value} {L : List Nat} {ms : MS} {b₀ : Stmt} {suite : List Stmt} {np pos' : Pos} {hds : List ExceptHandler} {hs : List Hdl} (hc : Names X x cv)
   (hm : ∀ c C, 100 <= c -> g.ca c = some C -> PySem.W.exmOne X.K (.ref C) cv = some (L.contains c)) (hsu : ∀ a : Addr, SL g (X.suite a X.pn) (fun _ _ _ _ => False) (b₀ :: suite) ms) (r : HdQ g X hds hs) :
   HdQ g X (.ExceptHandler (some (.Name x np)) none (b₀ :: suite) pos' :: hds) ((L, none, ms) :: hs)
section
variable {g : Gx} {X : Cx} {hds : List ExceptHandler} {hs : List Hdl}
theorem HdQ.hdT (q : HdQ g X hds hs) : ∃ l, HdT X hds l /\ ∀ (Wx : WX) (E : Ends) (μ : List Addr) (H : Hp) (c : Nat) (fs : List (Str × D)) (σw : Sg) (h : Hh), 100 <= c -> PoS g Wx μ H (gS hs c fs σw h) E ->
  ∀ μ' H' σ' cv d, Ext μ H μ' H' -> RH g μ' h H' -> RS g μ' H' σw σ' -> XV g μ' H' c fs cv d -> wT X.K Wx E l cv d σ' H' := by
 induction q with
 | nil => exact ⟨[], .nil, fun Wx E μ H c fs σw h hc po μ' H' σ' cv d x r s v => po μ' H' σ' cv d x r s v⟩
 | @as x n cv i L ms b₀ suite np pos' hds hs hc hi hln hm hsu r ih =>
  obtain ⟨l, hl, hw⟩ := ih
  refine ⟨(cv, some i, fun a => vR (X.suite a X.pn) (b₀ :: suite)) :: l, .as hc hi hln (fun a => hY) hl, fun Wx E μ H c fs σw h hcc po μ' H' σ' cv' d x rh rs xv => ?_⟩
  have xv' := xv
  obtain ⟨C, vs, hC, rfl, hd, z⟩ := xv'
  refine ⟨L.contains c, hm c C hcc hC, fun hb a na => ?_, fun hb => ?_⟩
  ·have x2 : Ext μ' H' μ' (upd H' a (ExV (.ref C) d a)) := .new rh.trk na
   refine hsu a (σw.set i (some (sS c fs))) h _ _ μ' _ ((rs.ext rh.trk x2).set rfl (xv.caught rh na) i) (rh.new na) ?_
   simp only [gS, hb, if_true] at po
   have po2 := po.ext (x.trans x2)
   cases hz : ms (σw.set i (some (sS c fs))) h with
   | nx σ1 h1 => rw [hz] at po2; exact fun μ3 H3 σ3 x3 r3 s3 => po2 μ3 H3 _ x3 r3 (s3.setN i)
   | brk σ1 h1 => rw [hz] at po2; exact fun μ3 H3 σ3 x3 r3 s3 => po2 μ3 H3 _ x3 r3 (s3.setN i)
   | cont σ1 h1 => rw [hz] at po2; exact fun μ3 H3 σ3 x3 r3 s3 => po2 μ3 H3 _ x3 r3 (s3.setN i)
   | ret w h1 => rw [hz] at po2; exact po2
   | exc c1 fs1 σ1 h1 => rw [hz] at po2; exact po2.elim
   | bad => rw [hz] at po2; exact po2.elim
  ·simp only [gS, hb] at po
   exact hw Wx E μ H c fs σw h hcc po μ' H' σ' _ d x rh rs xv
 | @no x cv L ms b₀ suite np pos' hds hs hc hm hsu r ih =>
  obtain ⟨l, hl, hw⟩ := ih
  refine ⟨(cv, none, fun a => vR (X.suite a X.pn) (b₀ :: suite)) :: l, .no hc (fun a => hY) hl, fun Wx E μ H c fs σw h hcc po μ' H' σ' cv' d x rh rs xv => ?_⟩
  have xv' := xv
  obtain ⟨C, vs, hC, rfl, hd, z⟩ := xv'
  refine ⟨L.contains c, hm c C hcc hC, fun hb a na => ?_, fun hb => ?_⟩
  ·have x2 : Ext μ' H' μ' (upd H' a (ExV (.ref C) d a)) := .new rh.trk na
   refine hsu a σw h _ _ μ' _ (rs.ext rh.trk x2) (rh.new na) ?_
   simp only [gS, hb, if_true] at po
   have po2 := po.ext (x.trans x2)
   cases hz : ms σw h with
   | nx σ1 h1 => rw [hz] at po2; exact po2
   | brk σ1 h1 => rw [hz] at po2; exact po2
   | cont σ1 h1 => rw [hz] at po2; exact po2
   | ret w h1 => rw [hz] at po2; exact po2
   | exc c1 fs1 σ1 h1 => rw [hz] at po2; exact po2.elim
   | bad => rw [hz] at po2; exact po2.elim
  ·simp only [gS, hb] at po
   exact hw Wx E μ H c fs σw h hcc po μ' H' σ' _ d x rh rs xv
variable {FS : FST} {k : Nat} {cl : Cll} {N : List Str} {sc : Scope} {fq : Str -> Bool} {Wx : WX} {body : List Stmt} {h₀ : ExceptHandler} {pos : Pos} {mb : MS}
theorem aI7 (hp : HP X) (G : Good FS g k cl N sc fq X Wx) (hb : ∀ (X' : Cx) (Wx' : WX), Good FS g k cl N sc fq X' Wx' -> HP X' -> QL g X' Wx' body mb) (hh : HdQ g X (h₀ :: hds) hs) : SS g X Wx (.Try body (h₀ :: hds) [] [] pos) (qL mb hs) := by
 intro σw h σ H μ E rs rh po
 obtain ⟨l, hl, hw⟩ := hh.hdT
 refine mU (aGP hp.st hp.fr hp.ex G.xN G.tk (tb := fun W E σ H => ∀ pn xe, Takes (X.tr pn xe) W -> PassesOwn (model X.prog X.w) X.A X.env xe -> vR (X.tr pn xe) body E σ H) (fun W pn xe tk ps => ⟨fun pins s σ H E I q => q pn xe tk ps pins s I⟩) hl) ?_
 intro pn xe tk ps
 refine (hb (X.tr pn xe) _ ⟨G.K, G.calm, G.eN, G.nd, G.sc, G.fn, G.room, G.gd, tk, G.fs⟩ ⟨ps, hp.st, hp.fr, hp.ex⟩).p σw h σ H μ E rs rh ?_
 unfold qL at po
 cases hz : mb σw h with
 | nx σ1 h1 => rw [hz] at po; exact po
 | brk σ1 h1 => rw [hz] at po; exact po
 | cont σ1 h1 => rw [hz] at po; exact po
 | ret w h1 => rw [hz] at po; exact po
 | bad => rw [hz] at po; exact po
 | exc c fs σ1 h1 =>
  rw [hz] at po
  by_cases hc : 100 <= c
  ·simp only [hc, if_true] at po
   exact fun μ' H' σ' cv d x r s v => hw Wx E μ H c fs σ1 h1 hc po μ' H' σ' cv d x r s v
  ·simp only [hc, if_false] at po
   exact po.elim
end
end PV
end
section
set_option maxHeartbeats 4000000
namespace PV
open PySem PySem.Spec PyProof.Rows L2
theorem aGL {K : PySem.W.Frag} {C : Addr} (h : aFd K C = true) : OexC K C := by
 unfold aFd at h
 obtain ⟨q, h⟩ := He.ba h
 obtain ⟨h1, h⟩ := He.ba h
 obtain ⟨h2, h⟩ := He.ba h
 obtain ⟨h3, h4⟩ := He.ba h
 refine ⟨?_, He.eqO_ok h1, of_decide_eq_true h2, of_decide_eq_true h3, h4⟩
 split at q
 ·rename_i dd cd sl ho
  split at q
  ·rename_i C' bm k0 k1 k2 k3 n k5 hm hs
   simp only [Bool.and_eq_true, beq_iff_eq, Bool.not_eq_true'] at q
   obtain ⟨⟨⟨⟨rfl, rfl⟩, hdel⟩, hdct⟩, ht⟩ := q
   obtain ⟨nm, bs, mro, ns, qn, hd, sn, sub, ab, col, del⟩ := cd
   dsimp only at hm hdel hdct
   subst hm hdel hdct
   have hsl : sl = #[k0, k1, k2, k3, some (.builtin "ValueError.__new__"), k5] := by
    obtain ⟨l⟩ := sl
    simp only at hs
    rw [hs]
   subst hsl
   exact ⟨nm, qn, ns, bs, bm, sn, sub, ab, col, dd, k0, k1, k2, k3, k5, ho, ht⟩
  ·cases q
 ·cases q
structure GinC (K : PySem.W.Frag) (C : Addr) : Prop where
 rd : PySem.W.readsIn K C (.type "type") = true
 ga : PySem.W.specialIn K (.ref C) "__getattribute__" = some (some (.builtin "type.__getattribute__"))
 at_ : PySem.W.findCls K (.ref C) (.type "type") "__init__" = some (.val (.builtin "ValueError.__init__"))
theorem aGy {K : PySem.W.Frag} {C : Addr} (h : aEY K C = true) : GinC K C := by
 unfold aEY at h
 obtain ⟨h1, h⟩ := He.ba h
 obtain ⟨h2, h⟩ := He.ba h
 refine ⟨h1, He.eqO_ok h2, ?_⟩
 split at h
 ·rename_i n e
  rw [e, beq_iff_eq.mp h]
 ·cases h
section
variable {X : Cx} {e : Expr} {es : List Expr} {ta : TA} {p1 p2 pos : Pos}
theorem aFh {pl : Sem Bool} {x : Str} {CG : Addr} (hg : Gl X x) (hm : X.mg x = some (.ref CG)) (hdb : (x == ("__debug__" : Str)) = false) (T : GinC X.K CG) (ha : PA X (e :: es) ta)
  (hc : eval (.Call (.Attribute (.Name x p1) "__init__" p2) (e :: es) [] pos) X.env = (eval (.Name x p1) X.env >>= fun ov => standAt p2.atName >>= fun _ => holding [ov] (getMethod ov "__init__" pl) >>= fun r =>
   callWith pos r.1 r.2 (backTo pos (starEach (e :: es) X.env)) (backToKw pos (keywordEach [] X.env))))
  (he : starEach (e :: es) X.env = (false, eval e X.env) :: starEach es X.env) (hpl : (backTo pos (starEach es X.env)).any (·.1) = false) :
  PE X (.Call (.Attribute (.Name x p1) "__init__" p2) (e :: es) [] pos) (tVeI X.K ta) := by
 refine ⟨fun pins s σ H Q I h => ?_⟩
 refine PySem.W.methodCall_KW (ld_glob I hg hm ?_ hdb) hc
 refine PySem.W.method_cls I.kIn T.ga (PySem.W.cls_value I.kIn T.rd T.at_ (by decide +kernel) ?_)
 show wpAny _ _ (callWith pos (Value.builtin "ValueError.__init__") [] (backTo pos (starEach (e :: es) X.env)) []) _ _ _
 refine PyProof.Rows.callWith_method1 (thn (ha.run pos pins _ σ H _ (I.tok _) h) fun us s1 ⟨vs, H1, I1, r1, a, C, ws, ev, hl, T, ea, q⟩ => ?_) he hpl
 subst ev
 cases r1 with
 | @cons _ u0 _ ur ra rw' =>
  obtain rfl : u0 = Value.ref a := ra
  have hlen : ur.length <= sizeLine := by
   rw [<- Paired.length rw', sizeLine_eq]
   omega
  exact oinit_ok T I1 ea hlen fun s' J => ⟨.non, H1, J, rfl, q⟩
end
inductive IsSt : List Stmt -> List Str -> Prop
 | nil : IsSt [] []
 | cons {f : Str} {p1 p2 p3 p4 : Pos} {r : List Stmt} {fs : List Str} (t : IsSt r fs) : IsSt (.Assign [.Attribute (.Name "self" p1) f p2] (.Name f p3) p4 :: r) (f :: fs)
def StV (X : Cx) (σ : L2.St) : List Str -> List V -> Prop
 | [], vs => vs = []
 | f :: fs, vs => ∃ v r, vs = v :: r /\ (∃ i : Nat, X.N[i]? = some f /\ σ[i]? = some (some v)) /\ Vis X.env.scope f /\ (f == ("__debug__" : Str)) = false /\ (f == ("__classdict__" : Str)) = false /\ StV X σ fs r
/-- an exception that is being made, at a: its dict, its fields so far -/
def XSt (H : Hp) (a C : Addr) (od : Option Addr) (done : List (Str × V)) : Prop := (od = none /\ done = [] /\ H a = some (exo a C none)) \/ ∃ dx, od = some dx /\ dx ≠ a /\ H a = some (exo a C (some dx)) /\ H dx = some (exd dx done)
theorem stores {X : Cx} {a C : Addr} {σ : L2.St} {D : Ends} (T : OexC X.K C) (h0 : X.N[0]? = some ("self" : Str)) (v0 : Vis X.env.scope "self") (s0 : σ[0]? = some (some (.ref a))) : ∀ {body : List Stmt} {fs : List Str}, IsSt body fs -> ∀ {vs : List V} {H : Hp} {od : Option Addr} {done : List (Str × V)}, StV X σ fs vs -> XSt H a C od done ->
  (∀ f ∈ fs, PySem.W.findIn X.K (.ref C) f = some none) -> done.length + fs.length <= 900 ->
  (∀ H' od', XSt H' a C od' ((fs.zip vs).reverse ++ done) -> (∀ b, b ≠ a -> od' ≠ some b -> H' b = H b) -> (∀ b, od = some b -> od' = some b) -> (∀ b, od' = some b -> H b = none \/ od = some b) -> (fs = [] -> od' = od) -> D.nx σ H') -> vR X body D σ H := by
 intro body fs hb
 induction hb with
 | nil =>
  intro vs H od done sv x _ _ post
  exact tO pss_nil (post H od (by simpa using x) (fun _ _ _ => rfl) (fun _ e => e) (fun b e => .inr e) fun _ => rfl)
 | @cons f p1 p2 p3 p4 r fs t ih =>
  intro vs H od done sv x hno hl post
  obtain ⟨v, vr, rfl, ⟨i, hi, hv⟩, vis, d1, d2, sv'⟩ := sv
  refine tO (pss_cons (ps_ost (pe_var h0 v0 (by decide) (by decide)) (pe_var hi vis d1 d2) (by rfl)) hY) ?_
  refine ⟨v, hv, .ref a, s0, a, C, rfl, T, hno f List.mem_cons_self, ?_⟩
  simp only [List.length_cons] at hl
  rcases x with ⟨rfl, rfl, ha⟩ | ⟨dx, rfl, hne, ha, hdx⟩
  ·refine .inl ⟨ha, fun dx n ne => ih (od := some dx) (done := [(f, v)]) sv' (.inr ⟨dx, rfl, ne, upd_same, by rw [upd_ne ne]; exact upd_same⟩) (fun g hg => hno g (List.mem_cons_of_mem _ hg)) (by simp; simp at hl; omega) fun H' od' x' fr' k1 k2 _ => ?_⟩
   have e' := k1 dx rfl
   refine post H' od' (by simpa using x') (fun b hb hob => ?_) (fun b e => by cases e) (fun b e => .inl ?_) (fun e => by cases e)
   ·have nb : b ≠ dx := fun z => hob (by rw [z]; exact e')
    rw [fr' b hb hob, upd_ne hb, upd_ne nb]
   ·rw [e'] at e; cases e; exact n
  ·refine .inr ⟨dx, done, ha, hdx, by omega, ih (od := some dx) (done := (f, v) :: done) sv' (.inr ⟨dx, rfl, hne, by rw [upd_ne hne.symm]; exact ha, upd_same⟩) (fun g hg => hno g (List.mem_cons_of_mem _ hg)) (by simp; omega) fun H' od' x' fr' k1 k2 _ => ?_⟩
   have e' := k1 dx rfl
   refine post H' od' (by simpa using x') (fun b hb hob => ?_) k1 (fun b e => .inr ?_) (fun e => by cases e)
   ·have nb : b ≠ dx := fun z => hob (by rw [z]; exact e')
    rw [fr' b hb hob, upd_ne nb]
   ·rw [e'] at e; exact e
/-- what such an __init__ keeps -/
def xsp (C : Addr) (fs : List Str) : Sp := fun vs H Q E => ∃ a ws, vs = .ref a :: ws /\ ws.length = fs.length /\ H a = some (exo a C none) /\ ∀ H' od', XSt H' a C od' ((fs.zip ws).reverse) -> (∀ b, b ≠ a -> od' ≠ some b -> H' b = H b) -> (∀ b, od' = some b -> H b = none) -> (fs = [] -> od' = none) -> Q .non H'
/-- the body of such an __init__ -/
inductive IsIn (x : Str) (fs : List Str) : List Stmt -> Prop
 | mk {p1 p2 p3 p4 p5 p6 : Pos} {z : Str} {j : Nat} {r : List Stmt} (hline : (p2.endLine == p5.line) = true) (t : IsSt r fs) : IsIn x fs (.Expr (.Call (.Attribute (.Name x p1) "__init__" p2) [.Name "self" p3, .Constant (.str z) j p4] [] p5) p6 :: r)
def okN (N : List Str) (sc : Scope) (x : Str) : Bool := (match sc.names.lookup x with
 | some .local => true
 | _ => false) && !(x == ("__debug__" : Str)) && !(x == ("__classdict__" : Str))
theorem zD {N : List Str} {vs : List V} {i : Nat} {v : V} (e : vs[i]? = some v) : (L2.start N vs)[i]? = some (some v) := by
 have hi : i < vs.length := by
  rcases Nat.lt_or_ge i vs.length with z | z
  ·exact z
  ·rw [List.getElem?_eq_none z] at e; cases e
 unfold L2.start
 rw [List.getElem?_append_left (by simpa using hi), List.getElem?_map, e]
 rfl
theorem aEA {X : Cx} {σ : L2.St} {sc : Scope} (hsc : X.env.scope = sc) : ∀ {fs : List Str} {vs : List V} {j : Nat}, (∀ i f, fs[i]? = some f -> X.N[j + i]? = some f) -> (∀ i v, vs[i]? = some v -> σ[j + i]? = some (some v)) -> vs.length = fs.length -> (∀ f ∈ fs, okN X.N sc f = true) -> StV X σ fs vs
 | [], vs, j, _, _, hl, _ => by
  show vs = []
  exact List.length_eq_zero_iff.mp hl
 | f :: fs, [], j, _, _, hl, _ => by simp at hl
 | f :: fs, v :: vs, j, hN, hσ, hl, ok => by
  have h1 := ok f List.mem_cons_self
  unfold okN at h1
  simp only [Bool.and_eq_true, Bool.not_eq_true'] at h1
  obtain ⟨⟨q, q2⟩, q3⟩ := h1
  refine ⟨v, vs, rfl, ⟨j, hN 0 f rfl, hσ 0 v rfl⟩, ?_, q2, q3, aEA (j := j + 1) hsc (fun i g e => by have := hN (i + 1) g (by simpa using e); rw [show j + 1 + i = j + (i + 1) by omega]; exact this) (fun i u e => by have := hσ (i + 1) u (by simpa using e); rw [show j + 1 + i = j + (i + 1) by omega]; exact this) (by simpa using hl) fun g hg => ok g (List.mem_cons_of_mem _ hg)⟩
  rw [hsc]
  unfold Vis
  split at q
  ·exact .inl ‹_›
  ·cases q
theorem aGA {P : Program} {w : World} {K : PySem.W.Frag} {mg : Str -> Option Value} {base : Heap} {q x : Str} {st : Stmt} {fI C CG : Addr} {fd : FuncData} {fs : List Str} (F : FunD K "__init__" q (defArgs st) (defBody st) (defScope st) [] [] fI fd) (S : FnScope ("self" :: fs) ("self" :: fs) (defScope st))
  (hb : IsIn x fs (defBody st)) (T : OexC K C) (hg : mg x = some (.ref CG)) (TG : GinC K CG) (hx : okG (defScope st) x = true) (hs : okN ("self" :: fs) (defScope st) "self" = true) (hf : ∀ f ∈ fs, okN ("self" :: fs) (defScope st) f = true) (hno : ∀ f ∈ fs, PySem.W.findIn K (.ref C) f = some none) (hl : fs.length <= 900) :
  FnOk P w K mg base (CX P w) 1 fI fd ("self" :: fs) (xsp C fs) := by
 refine FunD.ok (k := 0) F S (fun vs H Q E ⟨a, ws, e, hw, _⟩ => by rw [e]; simp [hw]) fun cdv A outer s H vs Q E hr hsp => ?_
 obtain ⟨a, ws, rfl, hw, ha, post⟩ := hsp
 refine ⟨_, hY, ?_⟩
 generalize eX : cxOf (CX P w) P w K mg base ("self" :: fs) q (defScope st) fI cdv A outer s H E = X
 have hsc : X.env.scope = defScope st := by rw [<- eX]; rfl
 have hN : X.N = ("self" : Str) :: fs := by rw [<- eX]; rfl
 have hK : X.K = K := by rw [<- eX]; rfl
 have hmg : X.mg = mg := by rw [<- eX]; rfl
 have v0 : Vis X.env.scope "self" := by
  have h1 := hs
  unfold okN at h1
  simp only [Bool.and_eq_true, Bool.not_eq_true'] at h1
  rw [hsc]
  unfold Vis
  have h2 := h1.1.1
  split at h2
  ·exact .inl ‹_›
  ·cases h2
 have hgl : Gl X x /\ (x == ("__debug__" : Str)) = false := by
  have h1 := hx
  unfold okG at h1
  simp only [Bool.and_eq_true, Bool.not_eq_true'] at h1
  obtain ⟨⟨h1, h2⟩, h3⟩ := h1
  refine ⟨?_, h2⟩
  unfold Gl Env.kindOf
  rw [hsc]
  split at h1
  ·rename_i e; exact e
  ·cases h1
 have h0 : X.N[0]? = some ("self" : Str) := by rw [hN]; rfl
 have s0 : (L2.start (("self" : Str) :: fs) (.ref a :: ws))[0]? = some (some (.ref a)) := zD rfl
 cases hb' : defBody st with
 | nil => rw [hb'] at hb; cases hb
 | cons b0 bs =>
  rw [hb'] at hb
  obtain @⟨p1, p2, p3, p4, p5, p6, z, j, _, hline, t⟩ := hb
  refine tO (pss_cons (ps_expr (aFh hgl.1 (by rw [hmg]; exact hg) hgl.2 (by rw [hK]; exact TG) (pa_cons (pe_var h0 v0 (by decide) (by decide)) (pa_cons pe_str pa_nil (by rfl)) (by rfl)) (aGH rfl rfl rfl hline) (by rfl) (by rfl)) (by rfl)) hY) ?_
  refine ⟨.ref a, s0, a, C, [.str z], rfl, by simp, by rw [hK]; exact T, ha, ?_⟩
  refine stores (by rw [hK]; exact T) h0 v0 s0 t (aEA (j := 1) hsc (fun i f e => by rw [hN, Nat.add_comm]; exact e) (fun i v e => zD (by rw [Nat.add_comm]; exact e)) hw (fun f hf' => by rw [hN]; exact hf f hf')) (.inl ⟨rfl, rfl, ha⟩) (fun f hf' => by rw [hK]; exact hno f hf') (by simp; exact hl) fun H' od' x' fr' k1 k2 k3 => ?_
  exact post H' od' (by simpa using x') fr' (fun b e => by
   rcases k2 b e with z | z
   ·exact z
   ·cases z) k3
end PV
end
section
set_option maxHeartbeats 4000000
namespace PV
open PySem PySem.Spec PyProof.Rows L2
section
variable {X : Cx} {e : Expr} {es : List Expr} {ta : TA} {p pos : Pos}
/-- the end of C(), nothing stored: the exception is let go -/
theorem aE7 {pins : List (Addr × Obj)} {σ : L2.St} {H1 H2 : Hp} {hp hp2 h2 : Heap} {g1 g2 : Array GenState} {d1 d2 : Drawn} {t1 t2 : Nat} {os1 os2 : OsState} {a C : Addr} (I1 : Inv X pins σ H1 ⟨hp, g1, d1, t1, os1⟩)
  (ha : hp.objs.size <= a) (k : ∀ b o, hp.get? b = some o -> hp2.get? b = some o) (un : Un (frs X.stack) [] (upd H1 a (exo a C none)) H2 hp2 h2) (hok : HOk X.prog X.w H2 h2) (ho : os2 = os1) (hb : AllBare g2) (ea : H2 a = some (exo a C none)) :
  ∃ (t0 : Addr) (G : Heap), Inv X pins σ (del H2 a) ⟨G, g2, d2, t2, os2⟩ /\ (∀ b o, G.get? b = some o -> h2.get? b = some o) /\ G.get? a = none /\
   h2.get? a = some ({ cls := .ref C, dict := none, data := .fields #[.ref t0, .none, .none, .none, .bool false, .none] } : Obj) := by
 obtain ⟨t0, hoe⟩ := exo_at hok ea
 have hn : H1 a = none := I1.hok.fresh ha
 obtain ⟨G, g1', g2'⟩ := L2.restrict h2 fun b => decide (b ≠ a)
 have gk : ∀ b, b ≠ a -> G.get? b = h2.get? b := fun b hb => g1' b (decide_eq_true hb)
 have ge : G.get? a = none := g2' a (by simp)
 have nha : ∀ {b : Addr} {o : Obj}, hp.get? b = some o -> b ≠ a := fun {b o} z => Nat.ne_of_lt (Nat.lt_of_lt_of_le (Heap.lt_size z) ha)
 have up : ∀ {b : Addr}, b ≠ a -> H1 b = none -> upd H1 a (exo a C none) b = none := fun {b} hb n => by rw [upd_ne hb]; exact n
 have U : Un (frs X.stack) [] H1 (del H2 a) hp G := {
  keep := fun b o z n hf hx => by
   rw [gk b (nha z)]
   exact un.keep b o (k b o z) (up (nha z) n) hf hx
  slot := fun b o z n hf hx => by
   rw [gk b (nha z)]
   exact un.slot b o (k b o z) (up (nha z) n) hf hx
  free := fun b o z n hx => by
   rw [del_ne (nha z)]
   exact un.free b o (k b o z) (up (nha z) n) hx
  there := fun b o z hx => by
   rw [gk b (nha z)]
   exact un.there b o (k b o z) hx
  tups := fun b xs z => by
   rw [del_ne (ne_of_none z hn)]
   exact un.tups b xs (by rw [upd_ne (ne_of_none z hn)]; exact z)
  frzs := fun b o v z => by
   rw [del_ne (ne_of_none z hn)]
   exact un.frzs b o v (by rw [upd_ne (ne_of_none z hn)]; exact z)
  tbls := fun b ps z => by
   rw [del_ne (ne_of_none z hn)]
   exact un.tbls b ps (by rw [upd_ne (ne_of_none z hn)]; exact z) }
 have hok3 : HOk X.prog X.w (del H2 a) G := fun b o z => by
  have hba : b ≠ a := fun e => by
   rw [e, del_same] at z
   cases z
  rw [del_ne hba] at z
  have noa : ∀ {c : Addr}, H2 c = some (.own b) -> c ≠ a := fun {c} hc => at_ne ea hc exo_own
  exact (hok b o z).stay (fun c v hc y => by
    have hca : c ≠ a := by
     rcases hc with hc | hc
     ·rw [hc]
      exact hba
     ·exact noa hc
    rw [gk c hca]
    exact y)
   (fun c hc => by rw [del_ne (noa hc)]; exact hc) (fun c xs hc => by rw [del_ne (at_ne ea hc exo_tup)]; exact hc)
 have J : Inv X pins σ (del H2 a) ⟨G, g2, d2, t2, os2⟩ := I1.call' (ch := []) ho U hok3 hb (fun b z => absurd z (by simp))
 refine ⟨t0, G, J, fun b o z => ?_, ge, hoe⟩
 by_cases hba : b = a
 ·rw [hba, ge] at z
  cases z
 ·exact (gk b hba).symm.trans z
/-- what raise C(..) wishes -/
def tX (C : Addr) (fs : List Str) (ta : TA) : L2.St -> Hp -> XK -> Prop := fun σ H Q => ta σ H fun vs H1 => vs.length = fs.length /\ (fs = [] -> Q (.ref C) none H1) /\ (fs ≠ [] -> ∀ d, H1 d = none -> Q (.ref C) (some d) (upd H1 d (.xd ((fs.zip vs).reverse))))
/-- what a class must have -/
structure XcC (X : Cx) (x : Str) (C : Addr) (fs : List Str) : Prop where
 T : OexC X.K C
 mg : X.mg x = some (.ref C)
 fn : ∃ fI fd, PySem.W.findIn X.K (.ref C) "__init__" = some (some (.ref fI)) /\ PySem.W.typeIn X.K (.ref fI) = some (.type "function") /\ FnOk X.prog X.w X.K X.mg X.base (CX X.prog X.w) 1 fI fd ("self" :: fs) (xsp C fs) /\ Binds X.K fd ("self" :: fs) []
 lt : fs.length <= 900
theorem aLr {x : Str} {C : Addr} {fs : List Str} {pins : List (Addr × Obj)} {σ : L2.St} {H1 : Hp} {Q : XK} {s1 : Shared} {us : List Value} {vs : List V} {Wx : WX} (XC : XcC X x C fs) (hr : Room 2 X.A) (tk : Takes X Wx) (I1 : Inv X pins σ H1 s1) (r1 : Vals vs us) (hl : vs.length = fs.length) (q0 : fs = [] -> Q (.ref C) none H1) (q1 : fs ≠ [] -> ∀ d, H1 d = none -> Q (.ref C) (some d) (upd H1 d (.xd ((fs.zip vs).reverse)))) :
  wpAny (model X.prog X.w) X.A (call (.ref C) us) (MkP X pins σ Q) X.xe s1 := by
 obtain ⟨T, hmg, ⟨fI, fd, iC, tI, F1, hb⟩, hlt⟩ := XC
 obtain ⟨nm, q, N, bs, bm, sn, sub, ab, col, dd, k0, k1, k2, k3, k5, hC, hbm⟩ := T.cls
 obtain ⟨hp, g, dr, tok, os⟩ := s1
 have hsz : hp.objs.size <= hp.objs.size + 1 := Nat.le_succ _
 have hn : H1 (hp.objs.size + 1) = none := I1.hok.fresh hsz
 have kk : ∀ b o, hp.get? b = some o -> ((hp.push (PySem.W.kdv_tup us)).push (PySem.HandSPX.excO C hp.objs.size)).get? b = some o := fun b o e => Heap.get?_push_of_some _ (Heap.get?_push_of_some _ e)
 have hget : ((hp.push (PySem.W.kdv_tup us)).push (PySem.HandSPX.excO C hp.objs.size)).get? (hp.objs.size + 1) = some (PySem.HandSPX.excO C hp.objs.size) := by heap_get
 have I2 : Inv X pins σ (upd H1 (hp.objs.size + 1) (exo (hp.objs.size + 1) C none)) ⟨(hp.push (PySem.W.kdv_tup us)).push (PySem.HandSPX.excO C hp.objs.size), g, dr, tok, os⟩ :=
  I1.laid (t' := tok) (a := hp.objs.size + 1) (o := exo (hp.objs.size + 1) C none) (h' := (hp.push (PySem.W.kdv_tup us)).push (PySem.HandSPX.excO C hp.objs.size)) kk hsz (exo_ok hget)
 have r2 : Vals (V.ref (hp.objs.size + 1) :: vs) (Value.ref (hp.objs.size + 1) :: us) := .cons rfl r1
 have hlu : us.length = fs.length := by rw [<- Paired.length r1]; exact hl
 have hus : us.length <= sizeLine := by
  rw [hlu, sizeLine_eq]
  omega
 have hsp : xsp C fs (V.ref (hp.objs.size + 1) :: vs) (upd H1 (hp.objs.size + 1) (exo (hp.objs.size + 1) C none)) (fun v H2 => v = .non /\ ∃ od, XSt H2 (hp.objs.size + 1) C od ((fs.zip vs).reverse) /\ (∀ b, b ≠ hp.objs.size + 1 -> od ≠ some b -> H2 b = H1 b) /\ (∀ b, od = some b -> b ≠ hp.objs.size + 1 -> H1 b = none) /\ (fs = [] -> od = none)) (fun _ _ _ => False) :=
  ⟨_, vs, rfl, hl, upd_same, fun H' od x' fr' n' k3 => ⟨rfl, od, x', fun b hb ho => by rw [fr' b hb ho, upd_ne hb], fun b e hb => by have := n' b e; rw [upd_ne hb] at this; exact this, k3⟩⟩
 refine wpAny_call (PySem.HandSPX.call_own F.excBase_ValueError (fun Y => PySem.HandSPX.refsVE_contains Y bm hbm) (I1.kIn _ _ hC) (PySem.W.looks_findIn I1.kIn iC) (fun self => PySem.W.bind_fn I1.kIn self tI) hus
  (codeAny_mono (F1.run _ X.stack _ _ ⟨Value.ref (hp.objs.size + 1) :: us, []⟩ (Value.ref (hp.objs.size + 1) :: us) _ _ (fun _ _ _ => False) (hr.make C us []) (I2.env0.make C us []) (by have := hb _ (Value.ref (hp.objs.size + 1) :: us) I2.kIn (by simp [hlu]); rw [List.append_nil] at this; exact this) r2 hsp) fun r s' hq' => ?_))
 cases r with
 | error er => exact tk _ _ (XE.of_call I2 (fun _ _ _ z => z.elim) hq')
 | ok fl =>
  cases fl with
  | ret u =>
   obtain ⟨v, H2, os2, bare2, un2, hok2, rv, ev, od, xst, fr, nw, k3⟩ := hq'
   subst ev
   obtain ⟨h2, g2, d2, t2, os'⟩ := s'
   refine ⟨rv, ?_⟩
   have T2 := raises_own (X := X) T.exC T.tyC
   rcases xst with ⟨rfl, hdone, ea⟩ | ⟨d, rfl, hne, ea, ed⟩
   ·have hfs : fs = [] := by
     have : (fs.zip vs).length = 0 := by rw [<- List.length_reverse, hdone]; rfl
     rw [List.length_zip, hl, Nat.min_self] at this
     exact List.length_eq_zero_iff.mp this
    obtain ⟨t0, G, J, kG, ge, hoe⟩ := aE7 (d2 := d2) (t2 := t2) I1 hsz kk un2 hok2 os2 bare2 ea
    have eH : del H2 (hp.objs.size + 1) = H1 := by
     funext b
     by_cases hb : b = hp.objs.size + 1
     ·rw [hb, del_same, hn]
     ·rw [del_ne hb]; exact fr b hb (by simp)
    rw [eH] at J
    exact ⟨_, _, _, ⟨G, g2, d2, t2, os'⟩, _, .ref C, none, rfl, J, kG, ge, hoe, ⟨rfl, rfl⟩, rfl, rfl, hn, rfl, bare2, T2, q0 hfs⟩
   ·have hd1 : H1 d = none := nw d rfl hne
    have hfs : fs ≠ [] := fun z => by have := k3 z; cases this
    refine mk_end (d2 := d2) (t2 := t2) T2 I1 hsz kk un2 hok2 os2 bare2 ea ed hd1 ?_
    have eH : upd (del H2 (hp.objs.size + 1)) d (.xd ((fs.zip vs).reverse)) = upd H1 d (.xd ((fs.zip vs).reverse)) := by
     funext b
     by_cases hbd : b = d
     ·rw [hbd, upd_same, upd_same]
     ·rw [upd_ne hbd, upd_ne hbd]
      by_cases hb : b = hp.objs.size + 1
      ·rw [hb, del_same, hn]
      ·rw [del_ne hb]; exact fr b hb (by simpa using Ne.symm hbd)
    rw [eH]
    exact q1 hfs d hd1
  | next => exact False.elim hq'
  | brk => exact False.elim hq'
  | cont => exact False.elim hq'
theorem aJ1 {x : Str} {C : Addr} {fs : List Str} {Wx : WX} (XC : XcC X x C fs) (hr : Room 2 X.A) (tk : Takes X Wx) (hg : Gl X x) (hdb : (x == ("__debug__" : Str)) = false) (ha : PA X (e :: es) ta)
  (he : starEach (e :: es) X.env = (false, eval e X.env) :: starEach es X.env) (hpl : (backTo pos (starEach es X.env)).any (·.1) = false) : PMk X (.Call (.Name x p) (e :: es) [] pos) (tX C fs ta) := by
 intro pins s σ H Q I h
 refine wpAny_Call_Name_kw (ld_glob I hg XC.mg ?_ hdb)
 refine PySem.W.callWith_K (h₀ := X.base) I.ok.mod.kin XC.T.kC (thn (ha.run pos pins s σ H _ I h) fun us s1 ⟨vs, H1, I1, r1, hl, q0, q1⟩ => ⟨I1.kIn, ?_⟩) he hpl
 exact aLr XC hr tk I1 r1 hl q0 q1
end
def pC (c : Nat) (ks : List Str) (ma : M (List D)) : MS := fun σ h => (ma σ h).then σ fun ws h1 => if ws.length = ks.length then .exc c ((ks.zip ws).reverse) σ h1 else .bad
section
variable {g : Gx}
theorem RKs.snoc {μ : List Addr} {H : Hp} : ∀ {fs : List (Str × D)} {vs : List (Str × V)} {f : Str} {w : D} {v : V}, RKs g μ H fs vs -> w.isTl = false -> RV g μ H w v -> RKs g μ H (fs ++ [(f, w)]) (vs ++ [(f, v)])
 | [], vs, f, w, v, r, nt, q => by rw [show vs = [] from r]; exact ⟨v, [], rfl, nt, q, rfl⟩
 | p :: fs, vs, f, w, v, r, nt, q => by
  obtain ⟨v', rr, rfl, nt', q', z⟩ := r
  exact ⟨v', _, rfl, nt', q', RKs.snoc z nt q⟩
theorem aCq {μ : List Addr} {H : Hp} : ∀ {ks : List Str} {ws : List D} {vs : List V}, RVs g μ H ws vs -> RKs g μ H ((ks.zip ws).reverse) ((ks.zip vs).reverse)
 | [], ws, vs, r => rfl
 | k :: ks, [], vs, r => by rw [show vs = [] from r]; rfl
 | k :: ks, w :: ws, vs, r => by
  obtain ⟨v, rr, rfl, nt, q, z⟩ := r
  simp only [List.zip_cons_cons, List.reverse_cons]
  exact RKs.snoc (aCq z) nt q
/-- an exception class of the module -/
def XcF (P : Program) (w : World) (K : PySem.W.Frag) (mg : Str -> Option Value) (base : Heap) (g : Gx) (c : Nat) (x : Str) (fs : List Str) : Prop :=
 ∃ C, g.ca c = some C /\ OexC K C /\ mg x = some (.ref C) /\ fs.length <= 900 /\ ∃ fI fd, PySem.W.findIn K (.ref C) "__init__" = some (some (.ref fI)) /\ PySem.W.typeIn K (.ref fI) = some (.type "function") /\ FnOk P w K mg base (CX P w) 1 fI fd ("self" :: fs) (xsp C fs) /\ Binds K fd ("self" :: fs) []
variable {FS : FST} {k : Nat} {cl : Cll} {N : List Str} {sc : Scope} {fq : Str -> Bool} {X : Cx} {Wx : WX} {pos p pos' : Pos} {x : Str} {c : Nat} {ks : List Str} {e : Expr} {es : List Expr} {ms : List (M D)}
theorem aEe {C : Addr} {σw : Sg} {h : Hh} {σ : L2.St} {H : Hp} {μ : List Addr} {E : Ends} {ws : List D} {vs : List V} (hC : g.ca c = some C) (hl : ws.length = ks.length) (rs : RS g μ H σw σ) (rh : RH g μ h H) (qs : RVs g μ H ws vs) (po : PoS g Wx μ H (.exc c ((ks.zip ws).reverse) σw h) E) :
  vs.length = ks.length /\ (ks = [] -> Wx (.ref C) none σ H) /\ (ks ≠ [] -> ∀ d, H d = none -> Wx (.ref C) (some d) σ (upd H d (.xd ((ks.zip vs).reverse)))) := by
 have l1 := qs.length
 refine ⟨by omega, fun hk => ?_, fun hk d nd => ?_⟩
 ·subst hk
  exact po μ H σ _ none (Ext.refl rh.trk) rh rs ⟨C, [], hC, rfl, .inl ⟨rfl, rfl⟩, rfl⟩
 ·have x1 : Ext μ H μ (upd H d (.xd ((ks.zip vs).reverse))) := .new rh.trk nd
  exact po μ _ σ _ (some d) x1 (rh.new nd) (rs.ext rh.trk x1) ⟨C, (ks.zip vs).reverse, hC, rfl, .inr ⟨d, rfl, upd_same⟩, aCq (qs.ext rh.trk x1)⟩
theorem Good.qraise (G : Good FS g k cl N sc fq X Wx) (h : okG sc x = true) (hx : XcF X.prog X.w X.K X.mg X.base g c x ks) (hs : dG (e :: es) = true) (ha : QA g X Wx (e :: es) (aA ms)) : QS g X Wx (.Raise (some (.Call (.Name x p) (e :: es) [] pos)) none pos') (pC c ks (aA ms)) := by
 obtain ⟨h1, h2, h3⟩ := G.gl h
 obtain ⟨C, hC, T, hm, hlt, fn⟩ := hx
 simp only [dG, Bool.and_eq_true] at hs
 refine ⟨fun σw h σ H μ E rs rh po => ?_⟩
 have hr : Room 2 X.A := G.room.mono (by omega)
 refine mU (ps_raise G.calm G.tk (aJ1 ⟨T, hm, fn, hlt⟩ hr G.tk h1 h2 wL (qV hs.1) (aGf hs.2))) ?_
 unfold pC at po
 refine ha.p σw h σ H μ _ rs rh ((PoS.then rs rh po).imp fun ws h1 μ1 H1 x1 r1 p1 vs qs => ?_)
 have p2 := p1 μ1 H1 x1
 by_cases hl : ws.length = ks.length
 ·rw [if_pos hl] at p2
  exact aEe hC hl (rs.ext rh.trk x1) r1 qs p2
 ·rw [if_neg hl] at p2
  exact p2.elim
end
end PV
end
section
set_option maxHeartbeats 4000000
namespace PV
open PySem PySem.Spec PyProof.Rows L2
section
variable {X : Cx} {e : Expr} {te : TE} {pos : Pos} {f : Str}
def tFx (K : PySem.W.Frag) (te : TE) (f : Str) : TE := fun σ H Q => te σ H fun x H1 => ∃ a C, x = .ref a /\ ((∃ dx fs v, H1 a = some (.ins C dx fs) /\ Cls K C /\ NoAttr K C f /\ fs.lookup f = some v /\ Q v H1) \/
 ∃ dd fs v, H1 a = some (ExV (.ref C) (some dd) a) /\ XfC K C /\ PySem.W.findIn K (.ref C) f = some none /\ H1 dd = some (.xd fs) /\ fs.lookup f = some v /\ Q v H1)
theorem aJX (he : PE X e te) (hb : attributeBase e f X.env (eval e X.env) = eval e X.env) : PE X (.Attribute e f pos) (tFx X.K te f) := by
 refine ⟨fun pins s σ H Q I h => ?_⟩
 refine attr_of hb (thn (he.run pins s σ H _ I h) fun u s1 hh => ?_)
 obtain ⟨x, H1, I1, rx, a, C, ex, hh⟩ := hh
 subst ex
 obtain rfl : u = Value.ref a := rx
 rcases hh with ⟨dx, fs, v, ea, c, n, l, q⟩ | ⟨dd, fs, v, ea, T, hno, ed, l, q⟩
 ·exact getattr_ok I1 ea c n l fun u s' J r => ⟨v, H1, J, r, q⟩
 ·obtain ⟨⟨oe, vs, ha, hz, hd⟩, _, _⟩ := (show ObjOk X.prog X.w H1 s1.heap a (ExV (.ref C) (some dd) a) from I1.hok a _ ea)
  have hx : ObjOk X.prog X.w H1 s1.heap dd (.xd fs) := I1.hok dd _ ed
  obtain ⟨mA, hns, hr⟩ := hx
  obtain ⟨od, ho, hl⟩ := lookIn_ns hns
  obtain ⟨u, hu, ru⟩ := RelO.some_of (v := v) (o := mA f) (by rw [<- l]; exact hr f)
  have J : PySem.W.InstAt s1.heap a oe C (some od) := ⟨ha, hz.1, by unfold PySem.W.notCls; rw [hd] <;> rfl, by rw [hz.2]; exact ho⟩
  exact HandSPX.exc_get I1.kIn J T.ga T.gg T.exC (PySem.W.findObj_own T.hdC hno rfl (by rw [hl, hu])) (handed_of ru) ⟨v, H1, I1.tok _, ru, q⟩
end
def rN (f : Str) (x : D) (h : Hh) : R D := match x with
 | .xc c ks ws => if 100 <= c then match (ks.zip ws).lookup f with
   | some w => .ok w h
   | none => .bad
  else .bad
 | x => aET f x h
def tH (f : Str) (m : M D) : M D := fun σ h => (m σ h).bind (rN f)
/-- attribute fl may be read on exceptions -/
def XfF (K : PySem.W.Frag) (g : Gx) (fl : Str) : Prop := ∀ c C, 100 <= c -> g.ca c = some C -> XfC K C /\ PySem.W.findIn K (.ref C) fl = some none
section
variable {g : Gx} {X : Cx} {Wx : WX} {e : Expr} {me : M D} {f : Str} {pos : Pos}
theorem xE {μ : List Addr} {H : Hp} : ∀ {ks : List Str} {ws : List D} {vs : List V} {w : D}, RVs g μ H ws vs -> (ks.zip ws).lookup f = some w -> ∃ v, (ks.zip vs).lookup f = some v /\ w.isTl = false /\ RV g μ H w v
 | [], ws, vs, w, r, e => by cases e
 | k :: ks, [], vs, w, r, e => by cases e
 | k :: ks, w0 :: ws, vs, w, r, e => by
  obtain ⟨v, rr, rfl, nt, q, z⟩ := r
  rw [List.zip_cons_cons, List.lookup_cons] at e
  show ∃ v', List.lookup f ((k, v) :: ks.zip rr) = some v' /\ _
  rw [List.lookup_cons]
  cases hk : f == k
  ·rw [hk] at e
   exact xE z e
  ·rw [hk] at e
   cases e
   exact ⟨v, rfl, nt, q⟩
theorem aCr (he : SE g X Wx e me) (hc : ∀ c C, c < 100 -> g.ca c = some C -> Cls X.K C /\ NoAttr X.K C f) (hx : XfF X.K g f) (hb : attributeBase e f X.env (eval e X.env) = eval e X.env) : SE g X Wx (.Attribute e f pos) (tH f me) := by
 intro σw h σ H μ Q rs rh po
 refine fG (aJX bB hb) (he σw h σ H μ _ rs rh (po.bind.imp fun x h1 μ1 H1 x1 r1 p1 v qv fv => ?_))
 unfold rN at p1
 split at p1
 ·rename_i c ks ws
  split at p1
  ·rename_i hc100
   split at p1
   ·rename_i w el
    obtain ⟨a, C, d, vs, rfl, hC, ha, hl, hd, z⟩ := qv
    obtain ⟨v', ev, nt, q⟩ := xE z el
    obtain ⟨T, hno⟩ := hx c C hc100 hC
    rcases hd with ⟨hk, hd⟩ | ⟨dd, rfl, ed⟩
    ·subst hk; cases el
    ·exact ⟨a, C, rfl, .inr ⟨dd, _, v', ha, T, hno, ed, ev, p1.at r1 v' q (.of nt)⟩⟩
   ·exact p1.elim
  ·exact p1.elim
 ·unfold aET at p1
  split at p1
  ·rename_i i _
   split at p1
   ·rename_i c fs ec
    split at p1
    ·rename_i hlt
     split at p1
     ·rename_i w el
      obtain ⟨a, C, dx, vs, rfl, ea, hC, hb, z⟩ := aDQ r1 qv ec
      obtain ⟨v', ev, nt, q⟩ := z.lookup el
      obtain ⟨c1, c2⟩ := hc c C hlt hC
      exact ⟨a, C, rfl, .inl ⟨dx, vs, v', hb, c1, c2, ev, p1.at r1 v' q (.of nt)⟩⟩
     ·exact p1.elim
    ·exact p1.elim
   ·exact p1.elim
  ·exact p1.elim
end
structure KxC (K : PySem.W.Frag) (C : Addr) : Prop where
 cl : (PySem.W.clsIn K C).isSome = true
 hga : PySem.W.findIn K (.ref C) "__getattribute__" = some (some (.builtin "BaseException.__getattribute__"))
 hgt : PySem.W.findIn K (.ref C) "__getattr__" = some none
 hsub : PySem.W.subIn K (.ref C) (.type "BaseException") = some true
 ha : PySem.W.findIn K (.ref C) "__class__" = some (some (.builtin "object.__class__"))
 hm : PySem.W.mroIn K C (.type "object") = some true
structure KxG (K : PySem.W.Frag) : Prop where
 hn : PySem.W.specialIn K (.builtin "object.__class__") "__get__" = some (some (.builtin "getset_descriptor.__get__"))
 ht : PySem.W.takesIn K (.builtin "object.__class__") = some true
structure KiC (K : PySem.W.Frag) (C : Addr) : Prop where
 cl : Cls K C
 ha : PySem.W.findIn K (.ref C) "__class__" = some (some (.builtin "object.__class__"))
 hm : PySem.W.mroIn K C (.type "object") = some true
/-- the type of a value, as isinstance sees it -/
inductive TyZ (K : PySem.W.Frag) (H : Hp) : V -> Value -> Prop
 | base {x : V} {t : Value} (h : TyX K H x t) : TyZ K H x t
 | exc {a C : Addr} {d : Option Addr} (e : H a = some (ExV (.ref C) d a)) (hd : ∀ dd, d = some dd -> ∃ fs, H dd = some (.xd fs)) (G : KxG K) (k : KxC K C) : TyZ K H (.ref a) (.ref C)
section
variable {X : Cx} {pins : List (Addr × Obj)} {σ : L2.St} {H : Hp} {s : Shared}
theorem aCc {x : V} {u t : Value} (I : Inv X pins σ H s) (rx : RelV x u) (ty : TyZ X.K H x t) : ∃ P : Heap -> Prop, PySem.W.KitX X.K u t P /\ P s.heap /\ u ≠ .builtin "__main__.__loader__#opaque" := by
 cases ty with
 | base h => exact kit_of I rx h
 | @exc a C d ea hd G k =>
  cases (show u = Value.ref a from rx)
  obtain ⟨⟨oe, vs, ha, hz, hdt⟩, _, _⟩ := (show ObjOk X.prog X.w H s.heap a (ExV (.ref C) d a) from I.hok a _ ea)
  cases d with
  | none =>
   have J : PySem.W.InstAt s.heap a oe C none := ⟨ha, hz.1, by unfold PySem.W.notCls; rw [hdt] <;> rfl, by rw [hz.2]; trivial⟩
   exact ⟨_, PySem.W.kitx_exc k.cl k.hga k.hgt k.hsub k.ha G.hn G.ht k.hm, J, fun z => nomatch z⟩
  | some dd =>
   obtain ⟨fs, ed⟩ := hd dd rfl
   obtain ⟨mA, hns, hr⟩ := (show ObjOk X.prog X.w H s.heap dd (.xd fs) from I.hok dd _ ed)
   obtain ⟨od, ho, hl⟩ := lookIn_ns hns
   have J : PySem.W.InstAt s.heap a oe C (some od) := ⟨ha, hz.1, by unfold PySem.W.notCls; rw [hdt] <;> rfl, by rw [hz.2]; exact ho⟩
   exact ⟨_, PySem.W.kitx_exc k.cl k.hga k.hgt k.hsub k.ha G.hn G.ht k.hm, J, fun z => nomatch z⟩
def aLS (K : PySem.W.Frag) : List V -> Hp -> VK -> Prop := fun xs H Q => ∃ (x c : V) (t u : Value) (b : Bool), xs = [x, c] /\ ClsV c u /\ TyZ K H x t /\ PySem.W.kitOne K t u = some b /\ Q (.bl b) H
def aJ7 (K : PySem.W.Frag) : List V -> Hp -> VK -> Prop := fun xs H Q => ∃ (x : V) (tp : Addr) (cs : List V) (t : Value) (us : List Value) (b : Bool), xs = [x, .ref tp] /\ H tp = some (.tup cs) /\ Paired ClsV cs us /\ TyZ K H x t /\ PySem.W.kitAny K t us = some b /\ Q (.bl b) H
theorem aEO : CallR X (.builtin "isinstance") (aLS X.K) := by
 intro pins s σ H xs us Q I r h
 obtain ⟨x, c, t, u, b, rfl, k, ty, e, q⟩ := h
 obtain ⟨u1, u2, rfl, r1, r2⟩ := vals2 r
 have e2 := k.eq r2
 subst e2
 obtain ⟨P, Z, p, hx⟩ := aCc I r1 ty
 exact PySem.W.kia_one Z I.kIn p e hx fun tk => ⟨.bl b, H, I.tok tk, rfl, q⟩
theorem aDB : CallR X (.builtin "isinstance") (aJ7 X.K) := by
 intro pins s σ H xs us Q I r h
 obtain ⟨x, tp, cs, t, ws, b, rfl, hT, k, ty, e, q⟩ := h
 obtain ⟨u1, u2, rfl, r1, r2⟩ := vals2 r
 cases (show u2 = Value.ref tp from r2)
 obtain ⟨P, Z, p, hx⟩ := aCc I r1 ty
 obtain ⟨_, its, rv, o, h1, h2, n, h3⟩ := (show ObjOk X.prog X.w H s.heap tp (.tup cs) from I.hok tp _ hT)
 have e3 := ClsV.all k rv
 subst e3
 obtain ⟨oc, od, dt, sl⟩ := o
 simp only at h2 h3
 subst h2 h3
 exact PySem.W.kia_tup Z I.kIn p h1 e hx fun tk => ⟨.bl b, H, I.tok tk, rfl, q⟩
end
/-- a type as a number: own classes below, built-in types by name -/
inductive Tn where
 | own (c : Nat) | bt (n : String)
 deriving DecidableEq
def sL (h : Hh) (x : D) : Option Tn := match x with
 | .xc c _ _ => if 100 <= c then some (.own c) else none
 | .ref i => match h[i]? with
  | some (.ins c _) => if c < 100 then some (.own c) else none
  | _ => (tyD h (.ref i)).map .bt
 | x => (tyD h x).map .bt
/-- own classes: 100 is the base of all exceptions -/
def xS (t : Tn) (y : D) : Option Bool := match t, y with
 | .own c, .cls d => some (c == d || (d == 100 && decide (100 <= c)))
 | .own c, .ty n => if n = "ValueError" then some (decide (100 <= c)) else none
 | .bt _, .cls _ => some false
 | .bt t, .ty n => if n = "ValueError" then some false else kitB t n
 | _, _ => none
def tF (t : Tn) : List D -> Option Bool
 | [] => some false
 | y :: ys => match xS t y, tF t ys with
  | some b, some c => some (b || c)
  | _, _ => none
def rR (x y : D) (h : Hh) : R D := match sL h x with
 | some t => match y with
  | .tup ys => match tF t ys with
   | some b => .ok (.bl b) h
   | none => .bad
  | y => match xS t y with
   | some b => .ok (.bl b) h
   | none => .bad
 | none => .bad
/-- what the module must say of its classes -/
structure KF (K : PySem.W.Frag) (g : Gx) : Prop where
 G : KxG K
 xc : ∀ c C, 100 <= c -> g.ca c = some C -> KxC K C
 ins : ∀ c C, c < 100 -> g.ca c = some C -> KiC K C
 oo : ∀ c C d E, g.ca c = some C -> g.ca d = some E -> PySem.W.kitOne K (.ref C) (.ref E) = some (c == d || (d == 100 && decide (100 <= c)))
 ov : ∀ c C, g.ca c = some C -> PySem.W.kitOne K (.ref C) (.type "ValueError") = some (decide (100 <= c))
 bo : ∀ d E (t : String), t ∈ ["NoneType", "bool", "int", "str", "tuple", "list", "dict"] -> g.ca d = some E -> PySem.W.kitOne K (.type t) (.ref E) = some false
 bv : ∀ (t : String), t ∈ ["NoneType", "bool", "int", "str", "tuple", "list", "dict"] -> PySem.W.kitOne K (.type t) (.type "ValueError") = some false
section
variable {g : Gx} {X : Cx} {Wx : WX} {μ : List Addr} {h : Hh} {H : Hp}
def tnV (g : Gx) (t : Tn) (tv : Value) : Prop := match t with
 | .own c => ∃ C, g.ca c = some C /\ tv = .ref C
 | .bt n => tv = .type n /\ n ∈ ["NoneType", "bool", "int", "str", "tuple", "list", "dict"]
theorem aHu {x : D} {t : String} (e : tyD h x = some t) : t ∈ ["NoneType", "bool", "int", "str", "tuple", "list", "dict"] := by
 unfold tyD at e
 split at e <;> first
  | (cases e; decide)
  | (split at e <;> first
   | (cases e; decide)
   | cases e)
  | cases e
theorem aKF {x : D} {vx : V} {t : Tn} (k : KF X.K g) (hK : X.K = g.K) (rh : RH g μ h H) (qx : RV g μ H x vx) (e : sL h x = some t) : ∃ tv, TyZ X.K H vx tv /\ tnV g t tv := by
 have bt : ∀ {t : Tn}, (tyD h x).map Tn.bt = some t -> ∃ tv, TyZ X.K H vx tv /\ tnV g t tv := fun {t} e => by
  cases et : tyD h x with
  | none => rw [et] at e; cases e
  | some n =>
   rw [et] at e
   cases e
   exact ⟨.type n, .base (by rw [hK]; exact aED rh qx et), rfl, aHu et⟩
 unfold sL at e
 split at e
 ·rename_i c ks ws
  split at e
  ·rename_i hc
   cases e
   obtain ⟨a, C, d, vs, rfl, hC, ha, hl, hd, z⟩ := qx
   refine ⟨.ref C, .exc ha (fun dd ed => ?_) k.G (k.xc c C hc hC), C, hC, rfl⟩
   rcases hd with ⟨_, hd⟩ | ⟨dx, e1, e2⟩
   ·rw [hd] at ed; cases ed
   ·rw [e1] at ed; cases ed; exact ⟨_, e2⟩
  ·cases e
 ·rename_i i
  split at e
  ·rename_i c fs ec
   split at e
   ·rename_i hc
    cases e
    obtain ⟨a, C, dx, vs, rfl, ea, hC, hb, z⟩ := aDQ rh qx ec
    have ki := k.ins c C hc hC
    exact ⟨.ref C, .base (.base (.ins hb ki.cl ki.ha k.G.hn k.G.ht ki.hm)), C, hC, rfl⟩
   ·cases e
  ·exact bt e
 ·exact bt e
theorem aCb {t : Tn} {tv : Value} {y : D} {vy : V} {b : Bool} (k : KF X.K g) (ht : tnV g t tv) (qy : RV g μ H y vy) (e : xS t y = some b) : ∃ u, ClsV vy u /\ PySem.W.kitOne X.K tv u = some b := by
 unfold xS at e
 split at e
 ·cases e
  obtain ⟨C, hC, rfl⟩ := ht
  obtain ⟨E, hE, rfl⟩ := qy
  exact ⟨.ref E, .own E, k.oo _ _ _ _ hC hE⟩
 ·split at e
  ·rename_i hn
   cases e
   obtain ⟨C, hC, rfl⟩ := ht
   subst hn
   rw [show vy = .ty "ValueError" from qy]
   exact ⟨_, .ty _, k.ov _ _ hC⟩
  ·cases e
 ·cases e
  obtain ⟨rfl, hm⟩ := ht
  obtain ⟨E, hE, rfl⟩ := qy
  exact ⟨.ref E, .own E, k.bo _ _ _ hm hE⟩
 ·obtain ⟨rfl, hm⟩ := ht
  rename_i n
  rw [show vy = .ty n from qy]
  split at e
  ·rename_i hn
   cases e
   subst hn
   exact ⟨_, .ty _, k.bv _ hm⟩
  ·exact ⟨_, .ty _, kit_ty e⟩
 ·cases e
theorem aAG {t : Tn} {tv : Value} (k : KF X.K g) (ht : tnV g t tv) : ∀ {ys : List D} {vs : List V} {b : Bool}, RVs g μ H ys vs -> tF t ys = some b -> ∃ us, Paired ClsV vs us /\ PySem.W.kitAny X.K tv us = some b
 | [], vs, b, r, e => by
  rw [show vs = [] from r]
  cases e
  exact ⟨[], .nil, rfl⟩
 | y :: ys, vs, b, r, e => by
  obtain ⟨v, rr, rfl, nt, q, z⟩ := r
  unfold tF at e
  split at e
  ·rename_i b1 c1 e1 e2
   cases e
   obtain ⟨us, pu, ku⟩ := aAG k ht z e2
   obtain ⟨u, cu, k1⟩ := aCb k ht q e1
   refine ⟨u :: us, .cons cu pu, ?_⟩
   simp only [PySem.W.kitAny, k1]
   cases b1
   ·simpa using ku
   ·rfl
  ·cases e
theorem aID (k : KF X.K g) (hK : X.K = g.K) : SC2 g X Wx (.builtin "isinstance") rR := by
 intro x y h σ H μ vx vy Q rh qx qy po
 unfold rR at po
 split at po
 ·rename_i t et
  obtain ⟨tv, ty, ht⟩ := aKF k hK rh qx et
  split at po
  ·rename_i ys
   split at po
   ·rename_i b eb
    obtain ⟨tp, cs, rfl, hT, z⟩ := qy
    obtain ⟨us, pu, ku⟩ := aAG k ht z eb
    exact eG aDB ⟨vx, tp, cs, tv, us, b, rfl, hT, pu, ty, ku, po.at rh _ rfl (.of rfl)⟩
   ·exact po.elim
  ·split at po
   ·rename_i b eb
    obtain ⟨u, cu, k1⟩ := aCb k ht qy eb
    exact eG aEO ⟨vx, vy, tv, u, b, rfl, cu, ty, k1, po.at rh _ rfl (.of rfl)⟩
   ·exact po.elim
 ·exact po.elim
end
end PV
end
section
set_option maxHeartbeats 4000000
namespace PV
open PySem PySem.Spec PyProof.Rows L2
/-- attribute fl may be read -/
def AtX (K : PySem.W.Frag) (g : Gx) (fl : Str) : Prop := AtF K g fl /\ XfF K g fl
/-- the class called x has the number c -/
def ClF (mg : Str -> Option Value) (g : Gx) (x : Str) (c : Nat) : Prop := ∃ C, mg x = some (.ref C) /\ g.ca c = some C
/-- the clause 'except x' takes just the classes L -/
def ChF (K : PySem.W.Frag) (mg : Str -> Option Value) (g : Gx) (x : Str) (L : List Nat) : Prop := ∃ C, mg x = some (.ref C) /\ ∀ c C', 100 <= c -> g.ca c = some C' -> PySem.W.exmOne K (.ref C') (.ref C) = some (L.contains c)
/-- what an except suite's context offers -/
structure Good0 (FS : FST) (g : Gx) (k : Nat) (cl : Cll) (N : List Str) (sc : Scope) (X : Cx) : Prop where
 K : X.K = g.K
 eN : X.N = N
 nd : N.Nodup
 sc : X.env.scope = sc
 un : X.A.units + 65 < cLine
 gd : X.A.guards = some []
 fs : FS X.prog X.w X.K X.mg X.base g k cl
section
variable {FS : FST} {g : Gx} {k : Nat} {cl : Cll} {N : List Str} {sc : Scope} {fq : Str -> Bool} {X : Cx} {Wx : WX} {pos p np pos' : Pos} {x n fl : Str} {i c : Nat} {e a : Expr} {me ma : M D} {L : List Nat} {ms : MS} {b₀ : Stmt} {suite : List Stmt} {hds : List ExceptHandler} {hs : List Hdl}
theorem Good.su (G : Good FS g k cl N sc fq X Wx) (a : Addr) : Good0 FS g k cl N sc (X.suite a X.pn) := ⟨G.K, G.eN, G.nd, G.sc, G.un, G.gd, G.fs⟩
theorem Good.qfldX (G : Good FS g k cl N sc fq X Wx) (ha : AtX X.K g fl) (hb : nC1 e = true) (he : QE g X Wx e me) : QE g X Wx (.Attribute e fl pos) (tH fl me) := ⟨aCr he.p ha.1 ha.2 (aCB hb)⟩
theorem Good.qcls (G : Good FS g k cl N sc fq X Wx) (h : okG sc x = true) (hc : ClF X.mg g x c) : QE g X Wx (.Name x pos) (mC (.cls c)) := by
 obtain ⟨C, hm, hC⟩ := hc
 exact ⟨G.con (v := .ref C) h hm rfl rfl fun _ _ => ⟨C, hC, rfl⟩⟩
theorem Good.cisiX (G : Good FS g k cl N sc fq X Wx) (kf : KF X.K g) : QC2 g X Wx (.builtin "isinstance") rR := ⟨aID kf G.K⟩
theorem Good0.qvar (G : Good0 FS g k cl N sc X) (i : Nat) (h : okV N sc i x = true) : QE g X Wx (.Name x pos) (mV i) := by
 unfold okV at h
 simp only [Bool.and_eq_true, Bool.not_eq_true', decide_eq_true_eq] at h
 obtain ⟨⟨⟨h1, h2⟩, h3⟩, h4⟩ := h
 refine ⟨aEn (by rw [G.eN]; exact h1) ?_ h3 h4⟩
 rw [G.sc]
 unfold Vis
 split at h2
 ·exact .inl ‹_›
 ·exact .inr (.inl ‹_›)
 ·exact .inr (.inr ‹_›)
 ·cases h2
theorem Good0.qtgt (G : Good0 FS g k cl N sc X) (i : Nat) (h : okL N sc i x = true) : QG g X (.Name x pos) (.nm i) := by
 unfold okL at h
 simp only [Bool.and_eq_true, decide_eq_true_eq] at h
 obtain ⟨h1, h2⟩ := h
 refine ⟨aCs (by rw [G.eN]; exact G.nd) (by rw [G.eN]; exact h1) ?_ ?_⟩
 ·rw [G.sc]
  unfold L2.Loc
  split at h2
  ·exact .inl ‹_›
  ·cases h2
 ·rw [G.sc]
  split at h2
  ·exact .inr ‹_›
  ·cases h2
theorem Good0.qfldX (G : Good0 FS g k cl N sc X) (ha : AtX X.K g fl) (hb : nC1 e = true) (he : QE g X Wx e me) : QE g X Wx (.Attribute e fl pos) (tH fl me) := ⟨aCr he.p ha.1 ha.2 (aCB hb)⟩
theorem Good0.gl (G : Good0 FS g k cl N sc X) (h : okG sc x = true) : Gl X x /\ (x == ("__debug__" : Str)) = false /\ x ≠ "__name__" := by
 unfold okG at h
 simp only [Bool.and_eq_true, Bool.not_eq_true', decide_eq_false_iff_not] at h
 obtain ⟨⟨h1, h2⟩, h3⟩ := h
 refine ⟨?_, h2, h3⟩
 unfold Gl Env.kindOf
 rw [G.sc]
 split at h1
 ·rename_i e; exact e
 ·cases h1
theorem Good0.qf1 (G : Good0 FS g k cl N sc X) {bv : Value} {ff : D -> Hh -> R D} (h : okG sc x = true) (hm : X.mg x = none) (hv : bootBuiltins x = some bv) (hb : oO bv = true) (s : QC1 g X Wx bv ff) (hs : nSt a = true) (ha : QE g X Wx a ma) : QE g X Wx (.Call (.Name x p) [a] [] pos) (mF1 ff ma) := by
 obtain ⟨h1, h2, h3⟩ := G.gl h
 exact ⟨aGd s.p hb h1 hm hv h3 h2 (oA hs) ha.p⟩
theorem Good0.creprX (G : Good0 FS g k cl N sc X) : QC1 g X Wx (.builtin "repr") iI := ⟨aBh G.K G.gd G.un⟩
theorem Good.nm (G : Good FS g k cl N sc fq X Wx) (h : okG sc x = true) {C : Addr} (hm : X.mg x = some (.ref C)) : Names X x (.ref C) := by
 obtain ⟨h1, h2, h3⟩ := G.gl h
 exact ⟨h1, h2, .inl hm⟩
theorem Good.qhAs (G : Good FS g k cl N sc fq X Wx) (i : Nat) (h : okG sc x = true) (hl : okL N sc i n = true) (hc : ChF X.K X.mg g x L) (hsu : ∀ X', Good0 FS g k cl N sc X' -> QL g X' (fun _ _ _ _ => False) (b₀ :: suite) ms) (r : HdQ g X hds hs) :
  HdQ g X (.ExceptHandler (some (.Name x np)) (some n) (b₀ :: suite) pos' :: hds) ((L, some i, ms) :: hs) := by
 obtain ⟨C, hm, hx⟩ := hc
 obtain ⟨h1, h2⟩ := G.loc hl
 exact .as (G.nm h hm) h1 h2 hx (fun a => (hsu _ (G.su a)).p) r
theorem aIs {body : List Stmt} {h₀ : ExceptHandler} {mb : MS} (hp : HP X) (G : Good FS g k cl N sc fq X Wx) (hb : ∀ (X' : Cx) (Wx' : WX), Good FS g k cl N sc fq X' Wx' -> HP X' -> QL g X' Wx' body mb) (hh : HdQ g X (h₀ :: hds) hs) : QS g X Wx (.Try body (h₀ :: hds) [] [] pos) (qL mb hs) := ⟨aI7 hp G hb hh⟩
end
theorem qG {l : List (Nat × Addr)} {c : Nat} {C : Addr} (e : l.lookup c = some C) : (c, C) ∈ l := by
 induction l with
 | nil => cases e
 | cons p l ih =>
  obtain ⟨n, A⟩ := p
  rw [List.lookup_cons] at e
  cases hk : c == n
  ·rw [hk] at e; exact List.mem_cons_of_mem _ (ih e)
  ·have e1 : c = n := by simpa using hk
   rw [hk] at e; cases e; subst e1
   exact List.mem_cons_self
theorem aH2 {K : PySem.W.Frag} {C : Addr} (h : kxB K C = true) : KxC K C := by
 unfold kxB at h
 obtain ⟨h1, h⟩ := He.ba h
 obtain ⟨h2, h⟩ := He.ba h
 obtain ⟨h3, h⟩ := He.ba h
 obtain ⟨h4, h⟩ := He.ba h
 obtain ⟨h5, h6⟩ := He.ba h
 exact ⟨h1, He.eqO_ok h2, He.eqO_ok h3, of_decide_eq_true h4, He.eqO_ok h5, of_decide_eq_true h6⟩
theorem aBY {K : PySem.W.Frag} {C : Addr} (c : aCG K C = true) : Cls K C := by
 unfold aCG at c
 obtain ⟨c1, c⟩ := He.ba c
 obtain ⟨c2, c⟩ := He.ba c
 obtain ⟨c3, c4⟩ := He.ba c
 exact ⟨c1, c2, c3, He.eqO_ok c4⟩
theorem aH1 {K : PySem.W.Frag} {C : Addr} (h : kiB K C = true) : KiC K C := by
 unfold kiB at h
 obtain ⟨h1, h⟩ := He.ba h
 obtain ⟨h5, h6⟩ := He.ba h
 exact ⟨aBY h1, He.eqO_ok h5, of_decide_eq_true h6⟩
theorem aDT {K : PySem.W.Frag} {g : Gx} {l : List (Nat × Addr)} (hg : g.ca = fun c => l.lookup c) (h : kfB K l = true) : KF K g := by
 unfold kfB at h
 obtain ⟨h1, h⟩ := He.ba h
 obtain ⟨h2, h⟩ := He.ba h
 obtain ⟨h3, h⟩ := He.ba h
 obtain ⟨h4, h⟩ := He.ba h
 obtain ⟨h5, h6⟩ := He.ba h
 obtain ⟨a1, a2⟩ := He.ba h1
 have look : ∀ {c C}, g.ca c = some C -> (c, C) ∈ l := fun {c C} e => qG (by rw [hg] at e; exact e)
 refine ⟨⟨He.eqO_ok a1, of_decide_eq_true a2⟩, fun c C hc e => ?_, fun c C hc e => ?_, fun c C d E e1 e2 => ?_, fun c C e => ?_, fun d E t ht e => ?_, fun t ht => ?_⟩
 ·have := List.all_eq_true.mp h2 _ (look e)
  rw [if_pos hc] at this
  exact aH2 this
 ·have := List.all_eq_true.mp h2 _ (look e)
  rw [if_neg (by simpa using hc)] at this
  exact aH1 this
 ·have := List.all_eq_true.mp (List.all_eq_true.mp h3 _ (look e1)) _ (look e2)
  exact of_decide_eq_true this
 ·exact of_decide_eq_true (List.all_eq_true.mp h4 _ (look e))
 ·exact of_decide_eq_true (List.all_eq_true.mp (List.all_eq_true.mp h5 _ (look e)) t ht)
 ·exact of_decide_eq_true (List.all_eq_true.mp h6 t ht)
theorem aDH {K : PySem.W.Frag} {g : Gx} {mg : Str -> Option Value} {l : List (Nat × Addr)} {x : Str} {C : Addr} {L : List Nat} (hg : g.ca = fun c => l.lookup c) (hm : mg x = some (.ref C)) (h : exB K l C L = true) : ChF K mg g x L := by
 refine ⟨C, hm, fun c C' hc e => ?_⟩
 have := List.all_eq_true.mp h _ (qG (c := c) (C := C') (by rw [hg] at e; exact e))
 rw [if_pos hc] at this
 exact of_decide_eq_true this
theorem aBx {K : PySem.W.Frag} {g : Gx} {l : List (Nat × Addr)} {fl : Str} (hg : g.ca = fun c => l.lookup c) (h : aGk K l fl = true) : AtX K g fl := by
 have look : ∀ {c C}, g.ca c = some C -> (c, C) ∈ l := fun {c C} e => qG (by rw [hg] at e; exact e)
 refine ⟨fun c C hc e => ?_, fun c C hc e => ?_⟩
 ·have := List.all_eq_true.mp h _ (look e)
  rw [if_neg (by simpa using hc)] at this
  obtain ⟨h1, h2⟩ := He.ba this
  exact ⟨aBY h1, He.eqO_ok h2⟩
 ·have := List.all_eq_true.mp h _ (look e)
  rw [if_pos hc] at this
  obtain ⟨h1, h2⟩ := He.ba this
  exact ⟨xfB_ok h1, He.eqO_ok h2⟩
theorem aEF {P : Program} {w : World} {K : PySem.W.Frag} {mg : Str -> Option Value} {base : Heap} {g : Gx} {c : Nat} {x q gx : Str} {fs : List Str} {st : Stmt} {C G : Addr} {fd : FuncData} (hC : g.ca c = some C) (hm : mg x = some (.ref C)) (hmg : mg gx = some (.ref G)) (h : xcB K C G fs = true)
  (F : FunD K "__init__" q (defArgs st) (defBody st) (defScope st) [] [] (He.ma K C "__init__") fd) (bd : BdM "__init__" q st ("self" :: fs)) (S : FnScope ("self" :: fs) ("self" :: fs) (defScope st)) (hb : IsIn gx fs (defBody st)) (hx : okG (defScope st) gx = true) (hs : okN ("self" :: fs) (defScope st) "self" = true) (hf : (fs.all fun f => okN ("self" :: fs) (defScope st) f) = true) (hl : decide (fs.length <= 900) = true) :
  XcF P w K mg base g c x fs := by
 unfold xcB at h
 obtain ⟨h1, h⟩ := He.ba h
 obtain ⟨h2, h⟩ := He.ba h
 obtain ⟨h3, h⟩ := He.ba h
 obtain ⟨h4, h5⟩ := He.ba h
 have T := aGL h1
 exact ⟨C, hC, T, hm, of_decide_eq_true hl, _, fd, He.eqO_ok h4, of_decide_eq_true h5, aGA F S hb T hmg (aGy h2) hx hs (fun f hf' => List.all_eq_true.mp hf f hf') (fun f hf' => He.eqO_ok (List.all_eq_true.mp h3 f hf')) (of_decide_eq_true hl), F.bindsN bd⟩
end PV
end
section
set_option maxHeartbeats 4000000
namespace PV
open PySem PySem.Spec PyProof.Rows L2
end PV
end
section
set_option maxHeartbeats 4000000
namespace PV
open PySem PySem.Spec PyProof.Rows L2
end PV
end
section
set_option maxHeartbeats 4000000
namespace PV
open PySem PySem.Spec PyProof.Rows L2
end PV
end
section
namespace PV
open PySem PySem.Spec PyProof.Rows L2
end PV
end
section
namespace PV
open PySem PySem.Spec PyProof.Rows L2
end PV
end
section
namespace PV
open PySem PySem.Spec PyProof.Rows L2
theorem aBC {X : Cx} {pins : List (Addr × Obj)} {s : Shared} {σ : L2.St} {H : Hp} {kx vx tg iter : Expr} {ifs : List Expr} {rest : List Comprehension} {scope : Scope} {own : List (Str × Nat)} {pos : Pos} {wi : TI} {o0 : HO} {Qd : Addr -> Hp -> Prop} {wish : It -> Addr -> Hp -> Prop} {use : Option (Value -> Sem Unit)} {Qf : Value -> Shared -> Prop} {pos2 : Pos}
  (hN : X.N.Nodup) (I : Inv X pins σ H s) (hi : PI X tg iter wi) (ok : BlkOk X.N X.env.scope scope own) (hs : ∀ x, foldedSetIterable iter X.env x = pure x) (h0 : aAE o0)
  (h : wi σ H fun J H1 => ∀ D, H1 D = none -> wish J D (upd H1 D o0)) (hQ : ∀ D C s' m H', Inv X pins σ H' s' -> Qd D H' -> s'.heap.Ns C m -> FpOk X pins H' C -> compPost (model X.prog X.w) X.A X.xe use Qf (.ref D) C (.ok .next) s')
  (loop : ∀ (R : Addr -> Result -> Shared -> Prop) (s3 : Shared) (H3 : Hp) (C : Addr) (cl : List (Str × Addr)) (fp : List Addr) (J : It) (it D : Addr) (tn : Nat -> Heap -> Prop) (s4 : Shared), DEnt X pins σ (own.map (·.2)) Qd R (BX X scope s3 H3 C cl fp) tg J it D fp tn H3 s4 -> wish J D H3 ->
   codeAny (model X.prog X.w) X.A (.compLoop (.DictComp kx vx (⟨tg, iter, ifs, 0⟩ :: rest) scope pos) 0 (.ref it) (.ref D) (compEnvC scope cl C X.env)) (R D) s4) :
  wpAny (model X.prog X.w) X.A (comprehension (.DictComp kx vx (⟨tg, iter, ifs, 0⟩ :: rest) scope pos) scope X.env pos2 newDict false (eval iter X.env) use) Qf X.xe s := by
 have fr : ∀ y ∈ scope.names, y.2 = .free -> ∃ c, X.env.cells.lookup y.1 = some c := fun y hy e => (ok.free y hy e).elim (fun k => I.ok.has _ (.inl k)) fun k => I.ok.has _ (.inr k)
 refine wpAny_comprehension_free (use := use) rfl hs (closure_ok fr) ok.kind (fun y hy e => by rw [ok.uniq y hy, e]) (thn (hi.run pins s σ H _ I h) fun xv s1 hx => thn hx fun itv s2 z2 => ?_)
 obtain ⟨it, fp, tn, J, H2, rfl, I2, T, st2, f2, q⟩ := z2
 refine wpAny_newObj_type (newEnv_comp ?_)
 generalize eD : s2.heap.objs.size = D
 have nD : H2 D = none := I2.hok.fresh (Nat.le_of_eq eD)
 have wsh := q D nD
 generalize es3 : ({ s2 with heap := s2.heap.push { cls := .type "dict", data := .dict #[] } } : Shared) = s3
 have hp3 : s3.heap = s2.heap.push { cls := .type "dict", data := .dict #[] } := by rw [<- es3]
 have I3 : Inv X pins σ (upd H2 D o0) s3 := by
  subst es3
  refine I2.laid (t' := s2.toks) (fun b o e => Heap.get?_push_of_some _ e) (Nat.le_of_eq eD) ?_
  rw [<- eD]
  rcases h0 with rfl | rfl
  ·exact dk_empty s2.heap I2.big
  ·exact dt_empty s2.heap I2.big
 have lt3 : ∀ b ∈ fp, b < s2.heap.objs.size := fun b hb => let ⟨o, e, _⟩ := T.obj _ _ st2 b hb; Heap.lt_size e
 have f3 : ∀ b ∈ fp, FpOk X pins (upd H2 D o0) b /\ b < s3.heap.objs.size := fun b hb => by
  have l := lt3 b hb
  have ne : b ≠ D := by rw [<- eD]; exact Nat.ne_of_lt l
  exact ⟨⟨(upd_ne ne).trans (f2 b hb).1, (f2 b hb).2⟩, by rw [hp3, Heap.size_push]; exact Nat.lt_succ_of_lt l⟩
 have st3 : tn 0 s3.heap := T.keep _ _ _ st2 fun b _ o e => by rw [hp3]; exact Heap.get?_push_of_some _ e
 have I4 := block_start I3 ok hN f3
 generalize eH3 : upd H2 D o0 = H3 at I3 I4 wsh f3
 generalize ecl : cellsFrom (s3.heap.objs.size + 1) scope.names (cloFrom X.env.cells scope.names []) = cl at I4
 generalize es4 : ({ s3 with heap := pushCells (s3.heap.push { cls := .type "dict", data := .dict #[] }) scope.names } : Shared) = s4 at I4
 have st4 : tn 0 s4.heap := T.keep _ _ _ st3 fun b _ o e => by rw [<- es4]; exact pushCells_keeps _ _ _ _ (Heap.get?_push_of_some _ e)
 have lp := loop (fun D => compPost (model X.prog X.w) X.A X.xe use Qf (.ref D) s3.heap.objs.size) s3 H3 s3.heap.objs.size cl fp J it D tn s4 ⟨T, st4, I4, fun b hb => (f3 b hb).1.1, fun {σ' H' s'} I' hn b hb => ⟨hn b hb, (I'.ok.exf b hb).1, I'.ok.exfs b hb, .inl hb, fun x c e => (I'.ok.exf b hb).2 x c e, fun p hp => absurd (show p ∈ ([] : List (Addr × Obj)) ++ [] from hp) (by simp)⟩, fun {H' s'} I' qd => ?_⟩ wsh
 ·subst ecl es4
  exact codeAny_compStart_dict lp (T.self X.A 0 _ _ _ st4 lp)
 ·have I7 : Inv X pins σ H' s' := I3.call' (ch := fp) I'.os I'.base I'.hok I'.bare fun b hb => ⟨(f3 b hb).1.2.2.2.1, (f3 b hb).1.2.1, (f3 b hb).1.2.2.2.2.1, (f3 b hb).1.2.2.2.2.2⟩
  have nC : H' s3.heap.objs.size = none := I'.free
  obtain ⟨m, hn, _⟩ := I'.loc
  exact hQ D s3.heap.objs.size s' m H' I7 qd hn (I3.fpOk (H' := H') (Nat.le_refl _) nC)
theorem aFn {X : Cx} {kx vx tg iter : Expr} {ifs : List Expr} {scope : Scope} {i0 : Nat} {y0 : Str} {py spos : Pos} {own : List (Str × Nat)} {pos : Pos} {o0 : HO} {wi : TI} {g : TG} {tt : TT} {tk tv : TE} (hc : X.calm = true) (hu : X.A.units + 1 < cLine) (hN : X.N.Nodup) (hy : X.N[i0]? = some y0) (hyl : X.env.scope.names.lookup y0 = some .local) (hsw : swapsWith (.DictComp kx vx [⟨tg, iter, ifs, 0⟩] scope pos) (some (.Name y0 py)) spos.line X.env = pure true) (h0 : aAE o0) (hi : PI X tg iter wi) (ok : BlkOk X.N X.env.scope scope own)
  (hg : ∀ s H C cl fp, PG (BX X scope s H C cl fp) tg g) (ht : ∀ s H C cl fp, PTs (BX X scope s H C cl fp) ifs tt) (hk : ∀ s H C cl fp, PE (BX X scope s H C cl fp) kx tk) (hv : ∀ s H C cl fp, PE (BX X scope s H C cl fp) vx tv) (hs : ∀ x, foldedSetIterable iter X.env x = pure x) :
  PS X (.Assign [.Name y0 py] (.DictComp kx vx [⟨tg, iter, ifs, 0⟩] scope pos) spos) (tAsg (tDp o0 wi g tt tk tv (own.map (·.2))) (gName i0)) := by
 refine ⟨fun pins s σ H Dd I h => ?_⟩
 rw [exec_Assign_Name_used _ _ _ _ hsw]
 refine wpAny_bind (wpAny_standAt (wpAny_bind ?_))
 show wpAny _ X.A (do let _ <- comprehension (.DictComp kx vx [⟨tg, iter, ifs, 0⟩] scope pos) scope X.env (firstIterPos [⟨tg, iter, ifs, 0⟩] pos) newDict false (eval iter X.env) (some (assign (.Name y0 py) X.env))) _ _ s
 have h : tDp o0 wi g tt tk tv (own.map (·.2)) σ H (fun x H1 => gName i0 x σ H1 Dd.nx) := h
 refine wpAny_bind (thn (aBC (rest := []) (use := some (assign (.Name y0 py) X.env)) (Qf := fun _ s' => SP X pins Dd .next s') (Qd := fun D H' => gName i0 (.ref D) σ H' Dd.nx) (wish := fun J D Hs => zT J (fun x H' Nx => g x (wipe σ (own.map fun p : Str × Nat => p.2)) H' fun σ2 H2 => wipe σ2 (own.map fun p : Str × Nat => p.2) = wipe σ (own.map fun p : Str × Nat => p.2) /\ tt σ2 H2 fun b H3 => if b = true then tk σ2 H3 fun y H4 => tv σ2 H4 fun z H5 => ∃ H6, DPut H5 D y z H6 /\ Nx H6 else Nx H3) Hs fun H' => gName i0 (.ref D) σ H' Dd.nx) hN I hi ok hs h0 h (fun L C s' m H' I' q hn f => ?_) ?_) fun _ s' hq => wpAny_pure (wpAny_pure hq))
 ·show wpAny _ _ (assign (.Name y0 py) X.env (.ref L)) _ _ _
  refine wpAny_assign_Name (store_ok2 (v := V.ref L) I' hN hy (.inl hyl) rfl (fun s2 I2 ⟨a, sb, ha⟩ => ?_) (.inr hyl))
  obtain ⟨f0, f1, f2, f3, f4, f5⟩ := f
  have haC : C ≠ a := by
   rcases ha with z | z
   ·rw [z]; exact f1
   ·exact fun e => f4 y0 a z e.symm
  refine ⟨m, hn.sameBut sb haC, fun h3 sb3 => ?_⟩
  exact ⟨_, H', I2.turned (t' := s2.toks) (fun b o hb e => (sb3.2 b hb).trans e) f0 f1 f3 f4 f5, q⟩
 rintro R s3 H3 C cl fp J it D tn s4 ⟨T, st4, I4, n4, fo, dn⟩ ⟨W, ⟨m0, w0⟩, step⟩
 refine compLoop_anyD (fun n s' => ∃ i H', Inv (BX X scope s3 H3 C cl fp) [] (wipe σ (own.map (·.2))) H' s' /\ tn i s'.heap /\ (∀ b ∈ fp, H' b = none) /\ W i n H') ?_ m0 ⟨0, H3, I4, st4, n4, w0⟩
 rintro n s5 ⟨i, H5, I5, st5, n5, w5⟩
 rcases step i n H5 w5 with ⟨stop, fin⟩ | ⟨go, Nx, hNx, body⟩
 ·refine thnF (T.done _ rfl rfl rfl hc i [] s5 _ H5 (fun _ _ => False) I5 (fo I5 n5) st5 stop) fun r s6 ⟨hr, I6⟩ => ?_
  subst hr
  exact dn I6 fin
 ·refine thnF (aFZ (X := BX X scope s3 H3 C cl fp) T hc I5 (fo I5 n5) st5 go (E := fun _ _ => False) (Q := fun u s7 => ∃ x H7, Inv (BX X scope s3 H3 C cl fp) ([] ++ pinsAt fp s7.heap) (wipe σ (own.map (·.2))) H7 s7 /\ RelV x u /\ J.yld i H5 x H7 /\ (∀ {σ2 : L2.St} {H2 : Hp} {s2 : Shared}, Inv (BX X scope s3 H3 C cl fp) ([] ++ pinsAt fp s7.heap) σ2 H2 s2 -> Inv (BX X scope s3 H3 C cl fp) [] σ2 H2 s2 /\ tn (i + 1) s2.heap /\ ∀ b ∈ fp, H2 b = none))
   fun u x H1 s1 a b c d => ⟨x, H1, a, b, c, @d⟩) fun r s6 ⟨u, hr, z⟩ => ?_
  subst hr
  refine thnF z fun _ s7 ⟨x, H7, I7, r7, y7, back⟩ => ?_
  refine thnF ((hg s3 H3 C cl fp).run _ s7 _ H7 x u _ I7 r7 (body x H7 y7)) fun _ s8 ⟨σ8, H8, I8, w8, q8⟩ => ?_
  refine thnF ((ht s3 H3 C cl fp).run _ s8 σ8 H8 _ I8 q8) fun b s9 ⟨H9, I9, q9⟩ => ?_
  have fin : ∀ {s' : Shared} {H' : Hp}, Inv (BX X scope s3 H3 C cl fp) ([] ++ pinsAt fp s7.heap) σ8 H' s' -> Nx H' -> ∃ m, m < n /\ ∃ i H', Inv (BX X scope s3 H3 C cl fp) [] (wipe σ (own.map (·.2))) H' s' /\ tn i s'.heap /\ (∀ b ∈ fp, H' b = none) /\ W i m H' := fun {s' H'} I' nx => by
   obtain ⟨m', hm, w'⟩ := hNx H' nx
   obtain ⟨a, b, c⟩ := back I'
   exact ⟨m', hm, i + 1, H', a.weak (knows w8).1 (knows w8).2, b, c, w'⟩
  cases b with
  | false => exact fin I9 q9
  | true =>
   refine thnF ((hk s3 H3 C cl fp).run _ s9 σ8 H9 _ I9 q9) fun zk s10 ⟨yk, H10, I10, r10, q10⟩ => ?_
   refine thnF ((hv s3 H3 C cl fp).run _ s10 σ8 H10 _ I10 q10) fun zv s11 ⟨yv, H11, I11, r11, H12, put, nx⟩ => ?_
   exact aAo (X := BX X scope s3 H3 C cl fp) hu I11 put r10 r11 fun s12 I12 => fin I12 nx
theorem aFL {kx vx : Expr} {gs : List Comprehension} {scope : Scope} {pos py : Pos} {y : Str} {l : Nat} {env : Env} (hk : env.scope.kind = .function) (hy : env.scope.names.lookup y = some .local) (hl : (py.line == pos.line) = true)
  (ha : (scope.names.any fun (n, k) => n == y && (k == .local || k == .cell)) = false) : swapsWith (.DictComp kx vx gs scope pos) (some (.Name y py)) l env = pure true := by
 have ky : env.kindOf y = some .local := hy
 have hb : env.blockKind = .function := by unfold Env.blockKind; rw [hk]; rfl
 unfold swapsWith
 simp only [hb, ky, ha, Expr.pos, hl]
 rfl
section
variable {κ : Type} [DecidableEq κ] {K : KKind κ} {FS : FST} {g : Gx} {k : Nat} {cl : Cll} {N : List Str} {sc : Scope} {fq : Str -> Bool} {X : Cx} {Wx : WX} {kx vx tg iter : Expr} {ifs : List Expr} {scope : Scope} {own : List (Str × Nat)} {pos py spos p : Pos} {mi mI : M Src} {t : Tg} {mt : M Bool} {mk mv : M D} {i : Nat} {y : Str}
theorem aFJ (KO : KOk K) (hc : X.calm = true) (hu : X.A.units + 1 < cLine) (hN : X.N.Nodup) (hy : X.N[i]? = some y) (hyl : X.env.scope.names.lookup y = some .local) (hsw : swapsWith (.DictComp kx vx [⟨tg, iter, ifs, 0⟩] scope pos) (some (.Name y py)) spos.line X.env = pure true) (ok : BlkOk X.N X.env.scope scope own) (hsl : ∀ i ∈ t.slots, i ∈ own.map (·.2)) (hs : ∀ x, foldedSetIterable iter X.env x = pure x)
  (hi : SI g X Wx tg iter mi) (hg : SBG g X scope tg t) (hts : STs g X scope ifs mt) (hk : SB g X scope kx mk) (hv : SB g X scope vx mv) : SS g X Wx (.Assign [.Name y py] (.DictComp kx vx [⟨tg, iter, ifs, 0⟩] scope pos) spos) (aS (.nm i) (mDc K mi t mt mk mv (own.map (·.2)))) := by
 intro σw h σ H μ E rs rh po
 refine mU (aFn hc hu hN hy hyl hsw KO.d0 wM ok (fun s0 H0 C cl fp => (⟨fun pins s σ H v u Q I r q => q s0 H0 C cl fp pins s u I r⟩ : PG _ _ (tBG X scope tg))) (fun s0 H0 C cl fp => tP hts s0 H0 C cl fp)
  (fun s0 H0 C cl fp => (⟨fun pins s σ H Q I q => q s0 H0 C cl fp pins s I⟩ : PE _ _ (tB1 X scope kx))) (fun s0 H0 C cl fp => (⟨fun pins s σ H Q I q => q s0 H0 C cl fp pins s I⟩ : PE _ _ (tB1 X scope vx))) hs) ?_
 refine aBW (fun {σw h σ H μ Q} rs rh po => ?_) rs rh po
 refine hi σw h σ H μ _ rs rh (po.bind.imp fun src h1 μ1 H1 x1 r1 p1 J sk D nD => ?_)
 have rs1 := (rs.ext rh.trk x1).wipe (own.map (·.2))
 have pl := aDE KO (fun c fs h => tG (fun _ _ _ _ _ _ => yN) _ _ _ _) x1 nD p1
 have go := aCO (a := D) r1.trk nD
 refine xU (rel := lF K g) go iX (fun μ H h x r i => (sk.ext x).at r i) (fun w x acc h μ H' σ1 Nx G nt qx e2 p2 => ?_) (aB6 KO r1 nD) pl
 intro s0 H0 C cl fp
 refine hg s0 H0 C cl fp w x _ σ1 h _ H' μ _ (rs1.ext r1.trk G.x) G.r nt qx e2 fun σ' rs' w' => ⟨?_, aGg KO go hts hk hv G rs' p2⟩
 rw [w' _ hsl, sP]
theorem Good.swD (G : Good FS g k cl N sc fq X Wx) {gs : List Comprehension} {l : Nat} (h : vC sc scope y py pos = true) (hy : X.env.scope.names.lookup y = some .local) : swapsWith (.DictComp kx vx gs scope pos) (some (.Name y py)) l X.env = pure true := by
 unfold vC at h
 simp only [Bool.and_eq_true, Bool.not_eq_true'] at h
 obtain ⟨⟨h1, h2⟩, h3⟩ := h
 refine aFL ?_ hy h2 h3
 rw [G.sc]
 split at h1
 ·rename_i e; exact e
 ·cases h1
theorem Good.qsetDc (G : Good FS g k cl N sc fq X Wx) (i2 : Nat) (KO : KOk K) (own : List (Str × Nat)) (vs : List Nat) (hl : okL N sc i2 y = true) (hw : vC sc scope y p pos = true) (hB : okB N sc scope own = true) (hvs : own.map (·.2) = vs) (hsl : sJ t.slots vs = true) (hs : vA iter = true) (hi : QI g X Wx tg iter mI) (hg : ∀ X, Good FS g k cl N (relS scope sc) (fqB scope) X WF -> QG g X tg t) (ht : QTs FS g k cl N (relS scope sc) (fqB scope) ifs mt)
  (hk : ∀ X, Good FS g k cl N (relS scope sc) (fqB scope) X WF -> QE g X WF kx mk) (hv : ∀ X, Good FS g k cl N (relS scope sc) (fqB scope) X WF -> QE g X WF vx mv) : QS g X Wx (.Assign [.Name y p] (.DictComp kx vx [⟨tg, iter, ifs, 0⟩] scope pos) spos) (aS (.nm i2) (mDc K mI t mt mk mv vs)) := ⟨by
 subst hvs
 obtain ⟨h1, h2⟩ := G.loc hl
 exact aFJ KO G.calm G.u1 G.xN h1 h2 (G.swD hw h2) (G.bok hB) (tU hsl) (fun _ => wB hs) hi.p (fun s0 H0 C c1 fp => (hg _ (G.blk scope s0 H0 C c1 fp)).p) (ht.un.sts G) (fun s0 H0 C c1 fp => (hk _ (G.blk scope s0 H0 C c1 fp)).p) (fun s0 H0 C c1 fp => (hv _ (G.blk scope s0 H0 C c1 fp)).p)⟩
end
end PV
end
section
namespace PV
open PySem PySem.Spec PyProof.Rows L2
end PV
end
section
namespace PV
open PySem PySem.Spec PyProof.Rows L2
/-- what the making of a lambda does to the tracked things -/
def aCx (q : Str) (P : Addr) (H H1 : Hp) : Prop := H1 = H \/ ∃ ps ps' c1, H P = some (.tbl ps) /\ H c1 = none /\ H1 = L2.upd (L2.upd H P (.tbl ps')) c1 (LamX.CodeO c1 q)
theorem aCx.ext {q : Str} {P : Addr} {H H1 : Hp} {μ : List Addr} (e : aCx q P H H1) (t : Trk μ H) : Ext μ H μ H1 := by
 rcases e with rfl | ⟨ps, ps', c1, hP, n, rfl⟩
 ·exact Ext.refl t
 ·refine ⟨⟨[], by simp, by simp⟩, fun b o qb _ nt => ?_, fun x hx => ?_, fun b qs qb => ?_⟩
  ·rw [upd_ne (ne_of_none qb n), upd_ne (fun z => by rw [z, hP] at qb; cases qb; cases nt)]; exact qb
  ·obtain ⟨o, qx, m⟩ := t x hx
   rw [upd_ne (ne_of_none qx n), upd_ne (fun z => by rw [z, hP] at qx; cases qx; cases m), qx]; simp
  ·rw [upd_ne (ne_of_none qb n)]
   by_cases e : b = P
   ·rw [e, upd_same]; exact ⟨_, rfl⟩
   ·rw [upd_ne e]; exact ⟨_, qb⟩
theorem aCx.at {q : Str} {P a : Addr} {H H1 : Hp} {μ : List Addr} (e : aCx q P H H1) (t : Trk μ H) (ha : a ∈ μ) : H1 a = H a := by
 obtain ⟨o, qx, m⟩ := t a ha
 rcases e with rfl | ⟨ps, ps', c1, hP, n, rfl⟩
 ·rfl
 ·rw [upd_ne (ne_of_none qx n), upd_ne (fun z => by rw [z, hP] at qx; cases qx; cases m)]
end PV
end
section
namespace PV
open PySem PySem.Spec PyProof.Rows L2
end PV
end
section
namespace PV
open PySem PySem.Spec PyProof.Rows L2
end PV
end
section
namespace PV
open PySem PySem.Spec PyProof.Rows L2
end PV
end
section
namespace PV
open PySem PySem.Spec PyProof.Rows L2
end PV
end
section
namespace PV
open PySem PySem.Spec PyProof.Rows L2 HT
section
variable {prog : Program} {w : World} {A : Around} {E : Value -> Shared -> Prop} {s : Shared}
theorem aCz (n : Nat) : Builtin.Slice.sliceAdjust none none (-1) (n : Int) = ((n : Int) - 1, -1) := by
 unfold Builtin.Slice.sliceAdjust
 simp
theorem aC3 (n : Nat) : Builtin.Slice.slicePlaces ((n : Int) - 1) (-1) (-1) = n := by
 unfold Builtin.Slice.slicePlaces
 have h1 : ¬ ((-1 : Int) > 0) := by omega
 simp only [h1, if_false]
 by_cases h : (n : Int) - 1 > -1
 ·simp only [h, if_true]
  simp
 ·simp only [h, if_false]
  omega
theorem vO {sl : Addr} {vs : Value} {n : Nat} {Q : Int × Int × Nat -> Shared -> Prop} (hs : s.heap.IsSliceOf sl .none .none vs) (ps : IsPart vs (some (-1)))
  (h : Q ((n : Int) - 1, -1, n) s) : wpAny (model prog w) A (Builtin.Slice.sliceApplied (.ref sl) (pure (n : Int))) Q E s := by
 obtain ⟨os, hos, hcs, hds⟩ := id hs
 unfold Builtin.Slice.sliceApplied Builtin.Slice.sliceFields
 refine wpAny_bind (wpAny_bind (wpAny_field hos hds (x := .none) rfl (wpAny_bind (wpAny_field hos hds (x := .none) rfl (wpAny_bind (wpAny_field hos hds (x := vs) rfl (wpAny_pure ?_)))))))
 refine wpAny_bind (slicePart_ ps ?_)
 show wpAny _ _ (if ((-1 : Int) == 0) = true then _ else _) _ _ s
 rw [if_neg (by decide)]
 refine wpAny_bind (slicePart_none (wpAny_bind (slicePart_none (wpAny_bind (wpAny_pure ?_)))))
 show wpAny _ _ (match Builtin.Slice.sliceAdjust none none (-1) (n : Int) with | (lo, hi) => pure (lo, (-1 : Int), Builtin.Slice.slicePlaces lo hi (-1))) _ _ s
 rw [aCz n]
 show wpAny _ _ (pure ((n : Int) - 1, (-1 : Int), Builtin.Slice.slicePlaces ((n : Int) - 1) (-1) (-1))) _ _ s
 rw [aC3]
 exact wpAny_pure h
theorem pA {α β : Type} {f : α -> Option β} {g : α -> β} : ∀ {l : List α}, (∀ k ∈ l, f k = some (g k)) -> l.filterMap f = l.map g
 | [], _ => rfl
 | k :: l, h => by
  rw [List.filterMap_cons, h k (List.mem_cons_self ..)]
  simp only [List.map_cons]
  rw [pA fun x hx => h x (List.mem_cons_of_mem _ hx)]
theorem aFk (xs : Array Value) : ((List.range xs.size).filterMap fun (k : Nat) => xs[(((xs.size : Int) - 1) + (k : Int) * (-1)).toNat]?).toArray = xs.toList.reverse.toArray := by
 have e : ∀ k ∈ List.range xs.size, xs[(((xs.size : Int) - 1) + (k : Int) * (-1)).toNat]? = some (xs.toList.reverse[k]?.getD default) := by
  intro k hk
  have hk' : k < xs.size := List.mem_range.mp hk
  have e1 : (((xs.size : Int) - 1) + (k : Int) * (-1)).toNat = xs.size - 1 - k := by omega
  rw [e1]
  have hl : k < xs.toList.reverse.length := by rw [List.length_reverse, Array.length_toList]; exact hk'
  rw [List.getElem?_eq_getElem hl, List.getElem_reverse]
  simp only [Option.getD_some, Array.length_toList]
  rw [Array.getElem?_eq_getElem (by omega)]
  simp
 have e2 : ((List.range xs.size).filterMap fun (k : Nat) => xs[(((xs.size : Int) - 1) + (k : Int) * (-1)).toNat]?) = (List.range xs.size).map fun k => xs.toList.reverse[k]?.getD default := by
  exact pA e
 rw [e2]
 congr 1
 refine List.ext_getElem (by simp) fun i h1 h2 => ?_
 rw [List.getElem_map, List.getElem_range, List.getElem?_eq_getElem h2]
 rfl
theorem uC {t sl : Addr} {items : Array Value} {vs : Value} {Q : Value -> Shared -> Prop} (ht : IsTup s.heap t items) (hs : s.heap.IsSliceOf sl .none .none vs) (ps : IsPart vs (some (-1)))
  (h : Q (.ref s.heap.objs.size) { s with heap := s.heap.push { cls := .type "tuple", data := .seq items.toList.reverse.toArray } })
  (hsz : items.size <= sizeLine) : wpAny (model prog w) A (getItem (.ref t) (.ref sl)) Q E s := by
 have htake : sizeOk (.seq items.toList.reverse.toArray) := by
  show items.toList.reverse.toArray.size <= sizeLine
  rw [List.size_toArray, List.length_reverse, Array.length_toList]
  omega
 obtain ⟨os, hos, hcs, hds⟩ := id hs
 have hTs : s.TypeIs (.ref sl) "slice" := ⟨os, hos, hcs⟩
 unfold getItem
 try with_reducible refine wpAny_holding ?_
 first | refine wpAny_bind (wpAny_pure ?_) | skip
 refine wpAny_bind (wpAny_sequenceKey ht.typeIs (by decide) ?_)
 refine wpAny_bind (wpAny_callSpecial?_slot (name := Str.ofString "__getitem__") ht.typeIs PyProof.Rows.slot_tuple_getitem
  (wpAny_call_entry PyProof.Rows.slot_tuple_getitem ht.typeIs entry_tuple_getitem ?_ (args_tuple_getitem _ _)))
 show wpAny _ _ (Builtin.Tuple.tupleItemsOf (.ref t) >>= _) _ _ s
 refine wpAny_bind (tupleItemsOf_ ht ?_)
 refine wpAny_bind (wpAny_typeOf hTs ?_)
 rw [if_pos (by decide)]
 refine wpAny_bind (vO hs ps ?_)
 have hno : ¬ ((((items.size : Int) - 1) == 0 && (-1 : Int) == 1 && items.size == items.size) = true) := by
  intro q
  rw [Bool.and_eq_true, Bool.and_eq_true] at q
  exact absurd q.1.2 (by decide)
 show wpAny _ _ (if (((items.size : Int) - 1) == 0 && (-1 : Int) == 1 && items.size == items.size) = true then _ else _) _ _ s
 rw [if_neg hno, aFk]
 first
  | exact wpAny_bind (m := Builtin.Tuple.tupleExact _) (wpAny_newObj_type (wpAny_pure ⟨_, rfl, wpAny_pure h⟩) htake)
  | exact wpAny_bind (m := Builtin.Tuple.tupleExact _) (wpAny_newObj_type (wpAny_bind (wpAny_pure (wpAny_pure ⟨_, rfl, wpAny_pure h⟩))) htake)
  | exact wpAny_bind (wpAny_bind (m := Builtin.Tuple.tupleExact _) (wpAny_newObj_type (wpAny_pure (wpAny_pure ⟨_, rfl, wpAny_pure h⟩)) htake))
  | exact wpAny_bind (wpAny_bind (m := Builtin.Tuple.tupleExact _) (wpAny_newObj_type (wpAny_pure ⟨_, rfl, wpAny_pure h⟩) htake))
end
section
variable {X : Cx}
def aKC (K : PySem.W.Frag) (te : TE) : TE := fun σ H Q => te σ H fun x H1 => ∃ a xs, x = .ref a /\ ((SqL K H1 a xs /\ ∀ p, H1 p = none -> Q (.ref p) (upd H1 p (.lst xs.reverse))) \/ (SqT K H1 a xs /\ ∀ p, H1 p = none -> Q (.ref p) (upd H1 p (.tup xs.reverse))))
theorem aGN {e : Expr} {te : TE} {k : Nat} {p1 p2 p3 pos : Pos} (he : PE X e te) : PE X (.Subscript e (.Slice none none (some (.UnaryOp .USub (.Constant (.int 1) k p1) p2)) p3) pos) (aKC X.K te) := by
 refine ⟨fun pins s σ H Q I h => ?_⟩
 refine Subscript_ (thn (he.run pins s σ H _ I h) fun v s1 ⟨x, H1, I1, r1, q1⟩ => ?_)
 obtain ⟨a, xs, ex, q⟩ := q1
 subst ex
 cases r1
 have hst : PO X (some (.UnaryOp .USub (.Constant (.int 1) k p1) p2)) (tPart (tUn (rU fun i => .int (-i)) (tC (.int 1)))) := po_some (pe_un un_neg pe_int)
 refine wpAny_Slice (thn (po_none.run pins s1 σ H1 (fun o H2 => o = none /\ H2 = H1) I1 ⟨rfl, rfl⟩) fun vl s2 ⟨l, H2, I2, pl, el, e2⟩ => ?_)
 subst el e2
 refine thn (po_none.run pins s2 σ H2 (fun o H3 => o = none /\ H3 = H2) I2 ⟨rfl, rfl⟩) fun vu s3 ⟨u, H3, I3, pu, eu, e3⟩ => ?_
 subst eu e3
 refine thn (hst.run pins s3 σ H3 (fun o H4 => o = some (-1) /\ H4 = H3) I3 ⟨1, rfl, -1, rfl, rfl, rfl⟩) fun vs s4 ⟨o, H4, I4, ps, eo, e4⟩ => ?_
 subst eo e4
 have I5 : Inv X pins σ H4 { s4 with heap := s4.heap.push { cls := .type "slice", data := .fields #[vl, vu, vs] } } := I4.kept (t' := s4.toks) fun b ob q => Heap.get?_push_of_some _ q
 show wpAny (model X.prog X.w) X.A (subscriptTail e (.Slice none none (some (.UnaryOp .USub (.Constant (.int 1) k p1) p2)) p3) (.ref a) (.ref s4.heap.objs.size)) (EP X pins σ Q) X.xe { s4 with heap := s4.heap.push { cls := .type "slice", data := .fields #[vl, vu, vs] } }
 rcases q with ⟨hx, q⟩ | ⟨hx, q⟩
 ·obtain ⟨its, r, ht, hz⟩ := I5.list hx
  have hlen := r.length
  refine tail_any (ops := [.ref a, .ref s4.heap.objs.size]) ht.isList.typeIs (PySem.slot_list_getitem.lookup) ?_ (by with_unfolding_all rfl)
  refine wpAny_getItem_list_slice ht.isList (Heap.IsSliceOf.new _ vl vu vs) pl pu ps (by decide) ?_ (by rw [List.size_toArray]; omega)
  rw [PySem.W.krv_pick]
  refine ⟨.ref _, _, I5.laid (t' := s4.toks) (o := .lst xs.reverse) (fun b ob q => Heap.get?_push_of_some _ q) (Nat.le_refl _) ?_, rfl, q _ (I5.hok.fresh (Nat.le_refl _))⟩
  exact ⟨by rw [List.length_reverse]; exact hz, _, 0, r.reverse, Heap.get?_push_size _ rfl⟩
 ·obtain ⟨its, r, ht, hz⟩ := I5.tuple hx
  have hlen := r.length
  cases pl
  cases pu
  refine tail_any (ops := [.ref a, .ref s4.heap.objs.size]) ht.typeIs (PyProof.Rows.slot_tuple_getitem.lookup) ?_ (by with_unfolding_all rfl)
  refine uC ht (Heap.IsSliceOf.new _ .none .none vs) ps ?_ (by rw [List.size_toArray]; omega)
  refine ⟨.ref _, _, I5.laid (t' := s4.toks) (o := .tup xs.reverse) (fun b ob q => Heap.get?_push_of_some _ q) (Nat.le_refl _) ?_, rfl, q _ (I5.hok.fresh (Nat.le_refl _))⟩
  exact ⟨by rw [List.length_reverse]; exact hz, _, r.reverse, IsTup.new _ _⟩
end
def sE (x : D) (h : Hh) : R D := match asL h x with
 | some ws => .ok (.tl ws.reverse) h
 | none => match asT x with
  | some ws => .ok (.tup ws.reverse) h
  | none => .bad
section
variable {g : Gx} {X : Cx} {Wx : WX} {a : Expr} {ma : M D} {p1 p2 p3 pos : Pos} {k : Nat}
theorem RVs.rev {g : Gx} {μ : List Addr} {H : Hp} : ∀ {ws : List D} {vs : List V}, RVs g μ H ws vs -> RVs g μ H ws.reverse vs.reverse
 | [], vs, r => by
  have : vs = [] := r
  subst this
  exact rfl
 | w :: ws, vs, r => by
  obtain ⟨v, vs', rfl, h1, h2, h3⟩ := r
  rw [List.reverse_cons, List.reverse_cons]
  exact RVs.append (RVs.rev h3) ⟨v, [], rfl, h1, h2, rfl⟩
theorem aIQ (hK : X.K = g.K) (ha : SE g X Wx a ma) : SE g X Wx (.Subscript a (.Slice none none (some (.UnaryOp .USub (.Constant (.int 1) k p1) p2)) p3) pos) (mF1 sE ma) := by
 intro σw h σ H μ Q rs rh po
 refine fG (aGN bB) ?_
 refine ha σw h σ H μ _ rs rh (po.bind.imp fun x h1 μ1 H1 x1 r1 p1 vx qx fx => ?_)
 unfold sE at p1
 split at p1
 ·rename_i ws ew
  obtain ⟨a, vs, rfl, s1, z⟩ := fK r1 qx ew
  refine ⟨a, vs, rfl, .inl ⟨by rw [hK]; exact s1, fun p np => ?_⟩⟩
  refine p1 μ1 _ (.new r1.trk np) (r1.new np) _ (.newL r1 np z.rev) (Fr.back x1 fun c ec => ?_)
  cases ec
  exact np
 ·split at p1
  ·rename_i ws ew
   obtain ⟨a, vs, rfl, s1, z⟩ := dC qx ew
   refine ⟨a, vs, rfl, .inr ⟨by rw [hK]; exact s1, fun p np => ?_⟩⟩
   exact p1 μ1 _ (.new r1.trk np) (r1.new np) _ (.newT r1 np z.rev) (.of rfl)
  ·exact p1.elim
variable {FS : FST} {kk : Nat} {cl : Cll} {N : List Str} {sc : Scope} {fq : Str -> Bool}
theorem Good.qrev (G : Good FS g kk cl N sc fq X Wx) (ha : QE g X Wx a ma) : QE g X Wx (.Subscript a (.Slice none none (some (.UnaryOp .USub (.Constant (.int 1) k p1) p2)) p3) pos) (mF1 sE ma) := ⟨aIQ G.K ha.p⟩
end
end PV
end
section
namespace PV
open PySem PySem.Spec PyProof.Rows L2
end PV
end
section
namespace PV
open PySem PySem.Spec PyProof.Rows L2
def tL (x y : D) (h : Hh) : R D := match x, y with
 | x, .int k => match asT x with
  | some ws => if 2 <= k /\ k <= 1000 /\ 0 < ws.length /\ ws.length <= 1000 then .ok (.tup (List.replicate k.toNat ws).flatten) h else .bad
  | none => .bad
 | _, _ => .bad
section
variable {g : Gx} {X : Cx} {Wx : WX} {FS : FST} {k : Nat} {cl : Cll} {N : List Str} {sc : Scope} {fq : Str -> Bool}
theorem aHa (hK : X.K = g.K) : SO g X Wx (binaryOp .Mult) tL := by
 intro x y h σ H μ vx vy Q rh qx qy po
 unfold tL at po
 split at po
 ·split at po
  ·rename_i ws ew
   split at po
   ·rename_i hc
    obtain ⟨h1, h2, h3, h4⟩ := hc
    obtain ⟨a, vs, rfl, s1, z⟩ := dC qx ew
    have l := z.length
    refine bT op_repT ⟨a, _, vs, rfl, qy, by rw [hK]; exact s1, fun e => ?_, h1, h2, by omega, fun p np => ?_⟩
    ·rw [e] at l; simp only [List.length_nil] at l; omega
    ·exact po μ _ (.new rh.trk np) (rh.new np) _ (.newT rh np (z.rep _)) (.of rfl)
   ·exact po.elim
  ·exact po.elim
 ·exact po.elim
theorem Good.omulTW (G : Good FS g k cl N sc fq X Wx) : QO g X Wx (binaryOp .Mult) tL := ⟨aHa G.K⟩
end
end PV
end
section
namespace PV
open PySem PySem.Spec PyProof.Rows L2
section
variable {σ : Sg} {h h1 : Hh} {a b : MS} {m n : M D} {c d : M Bool} {ms : List (M D)} {mA : M (List D)} {t : Tg} {f : D -> D -> Hh -> R D} {f1 : D -> Hh -> R D} {i : Nat} {w x y : D} {cl : Cll}
@[simp] theorem aFa : aM a b σ h = (a σ h).seq b := id rfl
@[simp] theorem aLu : dF σ h = .nx σ h := id rfl
@[simp] theorem aE9 : bF m σ h = (m σ h).then σ fun w h1 => .ret w h1 := id rfl
@[simp] theorem aDZ : fR m σ h = (m σ h).then σ fun _ h1 => .nx σ h1 := id rfl
@[simp] theorem aMs : fE c a b σ h = (c σ h).then σ fun x h1 => if x = true then a σ h1 else b σ h1 := id rfl
@[simp] theorem aKL : aS (.nm i) m σ h = (m σ h).then σ fun w h1 => .nx (σ.set i (some (aT w h1).1)) (aT w h1).2 := id rfl
@[simp] theorem aH6 : mOp f m n σ h = (m σ h).bind fun x h1 => (n σ h1).bind fun y h2 => f x y h2 := id rfl
@[simp] theorem aH5 : mF1 f1 m σ h = (m σ h).bind f1 := id rfl
@[simp] theorem aJO : mC w σ h = .ok w h := id rfl
theorem tJ : mV i σ h = match σ[i]? with
 | some (some w) => .ok w h
 | _ => .bad := rfl
@[simp] theorem aLq {l : Sg} : mV 0 (some w :: l) h = .ok w h := id rfl
@[simp] theorem aOr {l : Sg} {o : Option D} : mV (i + 1) (o :: l) h = mV i l h := id rfl
@[simp] theorem aOi {l : Sg} {o0 : Option D} : mV 1 (o0 :: some w :: l) h = .ok w h := id rfl
@[simp] theorem aOj {l : Sg} {o0 o1 : Option D} : mV 2 (o0 :: o1 :: some w :: l) h = .ok w h := id rfl
@[simp] theorem aOk {l : Sg} {o0 o1 o2 : Option D} : mV 3 (o0 :: o1 :: o2 :: some w :: l) h = .ok w h := id rfl
@[simp] theorem aOl {l : Sg} {o0 o1 o2 o3 : Option D} : mV 4 (o0 :: o1 :: o2 :: o3 :: some w :: l) h = .ok w h := id rfl
@[simp] theorem aOm {l : Sg} {o0 o1 o2 o3 o4 : Option D} : mV 5 (o0 :: o1 :: o2 :: o3 :: o4 :: some w :: l) h = .ok w h := id rfl
@[simp] theorem aOn {l : Sg} {o0 o1 o2 o3 o4 o5 : Option D} : mV 6 (o0 :: o1 :: o2 :: o3 :: o4 :: o5 :: some w :: l) h = .ok w h := id rfl
@[simp] theorem aOo {l : Sg} {o0 o1 o2 o3 o4 o5 o6 : Option D} : mV 7 (o0 :: o1 :: o2 :: o3 :: o4 :: o5 :: o6 :: some w :: l) h = .ok w h := id rfl
@[simp] theorem aOp {l : Sg} {o0 o1 o2 o3 o4 o5 o6 o7 : Option D} : mV 8 (o0 :: o1 :: o2 :: o3 :: o4 :: o5 :: o6 :: o7 :: some w :: l) h = .ok w h := id rfl
@[simp] theorem aOq {l : Sg} {o0 o1 o2 o3 o4 o5 o6 o7 o8 : Option D} : mV 9 (o0 :: o1 :: o2 :: o3 :: o4 :: o5 :: o6 :: o7 :: o8 :: some w :: l) h = .ok w h := id rfl
@[simp] theorem aNC {l : Sg} {o0 o1 o2 o3 o4 o5 o6 o7 o8 o9 : Option D} : mV 10 (o0 :: o1 :: o2 :: o3 :: o4 :: o5 :: o6 :: o7 :: o8 :: o9 :: some w :: l) h = .ok w h := id rfl
@[simp] theorem aND {l : Sg} {o0 o1 o2 o3 o4 o5 o6 o7 o8 o9 o10 : Option D} : mV 11 (o0 :: o1 :: o2 :: o3 :: o4 :: o5 :: o6 :: o7 :: o8 :: o9 :: o10 :: some w :: l) h = .ok w h := id rfl
@[simp] theorem aNE {l : Sg} {o0 o1 o2 o3 o4 o5 o6 o7 o8 o9 o10 o11 : Option D} : mV 12 (o0 :: o1 :: o2 :: o3 :: o4 :: o5 :: o6 :: o7 :: o8 :: o9 :: o10 :: o11 :: some w :: l) h = .ok w h := id rfl
@[simp] theorem aMp : bE mA σ h = (mA σ h).bind fun ws h1 => if ws.length <= sizeLine then .ok (.tup ws) h1 else .bad := id rfl
@[simp] theorem aMm : dW mA σ h = (mA σ h).bind fun ws h1 => if ws.length <= sizeLine then .ok (.tl ws) h1 else .bad := id rfl
@[simp] theorem aKJ : aA [] σ h = .ok [] h := id rfl
@[simp] theorem aJN : aA (m :: ms) σ h = (m σ h).bind fun w h1 => (aA ms σ (aT w h1).2).bind fun ws h2 => .ok ((aT w h1).1 :: ws) h2 := id rfl
@[simp] theorem aNB : mB m σ h = (m σ h).bind fun x h1 => match x with
 | .bl b => .ok b h1
 | _ => .bad := id rfl
@[simp] theorem aMY : mIf c m n σ h = (c σ h).bind fun x h1 => if x = true then m σ h1 else n σ h1 := id rfl
@[simp] theorem aLj : nM c d σ h = (c σ h).bind fun x h1 => if x = true then d σ h1 else .ok false h1 := id rfl
@[simp] theorem aMn : lA c d σ h = (c σ h).bind fun x h1 => if x = true then .ok true h1 else d σ h1 := id rfl
@[simp] theorem aLo : kH c σ h = (c σ h).bind fun x h1 => .ok (!x) h1 := id rfl
@[simp] theorem aLl {f : Nat} : aK cl f mA σ h = gcR h ((mA σ h).bind fun ws h1 => cl f ws h1) := id rfl
@[simp] theorem aKK {f : Nat} {perm : List Nat} : mR cl f mA perm σ h = gcR h ((mA σ h).bind fun ws h1 => match cY perm ws with
 | some ws => cl f ws h1
 | none => .bad) := id rfl
@[simp] theorem aM3 : mSt m σ h = (m σ h).bind fun w h1 => .ok (aT w h1).1 (aT w h1).2 := id rfl
@[simp] theorem aLv {me mo mi : M D} : kI me mo mi σ h = (mSt me σ h).then σ fun w h1 => (mo σ h1).then σ fun x h2 => (mi σ h2).then σ fun y h3 => match oQ x y w h3 with
 | some h4 => .nx σ h4
 | none => .bad := id rfl
@[simp] theorem aM2 {lo hi : Option (M D)} : mSl m lo hi σ h = (m σ h).bind fun x h1 => (nO lo σ h1).bind fun l h2 => (nO hi σ h2).bind fun u h3 => slW x l u h3 := id rfl
@[simp] theorem aJQ : nO none σ h = .ok none h := id rfl
@[simp] theorem aJR : nO (some m) σ h = (m σ h).bind fun x h1 => match x with
  | .int i => .ok (some i) h1
  | _ => .bad := id rfl
@[simp] theorem aMv : fF (.nx σ h) = .ok .non h := id rfl
@[simp] theorem aFg : fF (.ret w h) = .ok w h := rfl
@[simp] theorem aKX {i : Int} : aT (.int i) h = (.int i, h) := id rfl
@[simp] theorem aL1 {i : Bool} : aT (.bl i) h = (.bl i, h) := id rfl
@[simp] theorem aK0 {i : Str} : aT (.str i) h = (.str i, h) := id rfl
@[simp] theorem aK1 {ws : List D} : aT (.tup ws) h = (.tup ws, h) := id rfl
@[simp] theorem aL3 {ws : List D} : aT (.kt ws) h = (.kt ws, h) := id rfl
@[simp] theorem aL2 {ws : List D} : aT (.fl ws) h = (.fl ws, h) := id rfl
@[simp] theorem aKZ : aT (.ref i) h = (.ref i, h) := id rfl
@[simp] theorem aKY : aT .non h = (.non, h) := id rfl
@[simp] theorem aL5 {ws : List D} : aT (.tl ws) h = (.ref h.length, h ++ [.lst ws]) := rfl
@[simp] theorem aHx {i j : Int} : bM (.int i) (.int j) h = .ok (.int (i + j)) h := id rfl
@[simp] theorem aJc {i j : Int} : kB (.int i) (.int j) h = .ok (.int (i - j)) h := id rfl
@[simp] theorem aM7 {i j : Int} : lC (.int i) (.int j) h = if CMul i j then .ok (.int (i * j)) h else .bad := id rfl
@[simp] theorem aMe {i j : Int} : tB (.int i) (.int j) h = if 0 < j /\ j < 1073741824 then .ok (.int (i / j)) h else .bad := id rfl
@[simp] theorem aM6 {i j : Int} : jV (.int i) (.int j) h = if 0 < j then .ok (.int (i % j)) h else .bad := id rfl
@[simp] theorem aNA {i j : Int} : ltW (.int i) (.int j) h = .ok (.bl (decide (i < j))) h := id rfl
@[simp] theorem aJK {i j : Int} : leW (.int i) (.int j) h = .ok (.bl (decide (i <= j))) h := id rfl
@[simp] theorem aNw {i j : Int} : gtW (.int i) (.int j) h = .ok (.bl (decide (j < i))) h := id rfl
@[simp] theorem aNv {i j : Int} : geW (.int i) (.int j) h = .ok (.bl (decide (j <= i))) h := id rfl
@[simp] theorem aHw {i : Int} : uK (.int i) h = .ok (.int (if i < 0 then -i else i)) h := id rfl
@[simp] theorem aM8 {i : Int} : vB (.int i) h = .ok (.int (-i)) h := id rfl
@[simp] theorem aMQ {k : Bool} : qB (.bl k) h = .ok (.int (if k then 1 else 0)) h := id rfl
@[simp] theorem aMR {k : Int} : qB (.int k) h = .ok (.int k) h := id rfl
@[simp] theorem aE3 {ws : List D} : cR (.tup ws) h = .ok (.int ws.length) h := id rfl
@[simp] theorem aMj {ws : List D} : cR (.kt ws) h = .ok (.int ws.length) h := id rfl
@[simp] theorem aMk {ws : List D} : cR (.tl ws) h = .ok (.int ws.length) h := id rfl
@[simp] theorem aMi {ws : List D} : cR (.fl ws) h = .ok (.int ws.length) h := id rfl
theorem uX {ws : List D} (e : h[i]? = some (.lst ws)) : cR (.ref i) h = .ok (.int ws.length) h := by simp [cR, asL, e]
@[simp] theorem aK5 {ws : List D} : cK (.tl ws) h = .ok (.tup ws) h := id rfl
@[simp] theorem aK4 {ws : List D} : cK (.fl ws) h = .ok (.tup ws) h := id rfl
@[simp] theorem aKG {ws : List D} : cK (.tup ws) h = .ok (.tup ws) h := id rfl
theorem aDr {ws : List D} (e : h[i]? = some (.lst ws)) : cK (.ref i) h = .ok (.tup ws) h := by simp [cK, asL, e]
@[simp] theorem aM4 {i j : Int} : xW (.int i) (.int j) h = .ok (.int (if j > i then j else i)) h := id rfl
@[simp] theorem aM5 {i j : Int} : xX (.int i) (.int j) h = .ok (.int (if j < i then j else i)) h := rfl
@[simp] theorem aMS {ws : List D} : ixW (.tup (w :: ws)) (.int 0) h = .ok w h := by simp [ixW, asL, asT, atI, ixN]
@[simp] theorem aMT {ws : List D} : ixW (.tup (x :: w :: ws)) (.int 1) h = .ok w h := by
 have : (1 : Int) < (ws.length : Int) + 1 + 1 := by omega
 simp [ixW, asL, asT, atI, ixN, this]
@[simp] theorem aMU {ws : List D} : ixW (.tup (x :: y :: w :: ws)) (.int 2) h = .ok w h := by
 have : (2 : Int) < (ws.length : Int) + 1 + 1 + 1 := by omega
 simp [ixW, asL, asT, atI, ixN, this]
theorem sU {α : Type} {ws : List α} {n : Nat} : atI ws (n : Int) = ws[n]? := by
 unfold atI ixN
 by_cases hn : n < ws.length
 ·simp [hn]
 ·simp [hn, List.getElem?_eq_none (Nat.le_of_not_lt hn)]
theorem aHY {ws : List D} {n : Nat} (e : ws[n]? = some w) : ixW (.tup ws) (.int (n : Int)) h = .ok w h := by simp [ixW, asL, asT, sU, e]
theorem aHW {ws : List D} {n : Nat} (e : ws[n]? = some w) : ixW (.fl ws) (.int (n : Int)) h = .ok w h := by simp [ixW, asL, sU, e]
theorem mQ {ws : List D} {n : Nat} (e : h[i]? = some (.lst ws)) (e2 : ws[n]? = some w) : ixW (.ref i) (.int (n : Int)) h = .ok w h := by simp [ixW, asL, e, sU, e2]
end
theorem dQ {T : Tab} {k f : Nat} {ws : List D} {h : Hh} {d : Fd} (e : T f = some d) : aL T (k + 1) f ws h = if ws.length = d.np then fF (d.body (aL T k) (aV d.nN ws) h) else .bad := by
 simp only [aL, e, aBb]
theorem aHP {h h' : Hh} {w : D} (hl : h'.length = h.length) (lim : w.lim h.length = true) : gc h w h' = .ok w h' := by
 unfold gc
 by_cases hg : hJ h.length h h' = true
 ·rw [if_pos hg, if_pos lim, List.take_of_length_le (by omega)]
 ·rw [if_neg hg]
@[simp] theorem xQ {h h' : Hh} {w : D} (hl : h'.length = h.length) (lim : w.lim h.length = true) : gcR h (.ok w h') = .ok w h' := aHP hl lim
theorem tD {n : Nat} : ∀ {h h' : Hh}, h.length <= h'.length -> (∀ (j : Nat) (c : Cl), j < h.length -> h'[j]? = some c -> h[j]? = some c \/ c.lim n = true) -> hJ n h h' = true
 | [], h', _, _ => by cases h' <;> rfl
 | c :: h, [], hl, _ => by simp at hl
 | c :: h, d :: h', hl, hj => by
  unfold hJ
  rw [Bool.and_eq_true]
  refine ⟨?_, tD (by simpa using hl) fun j e hjl he => ?_⟩
  ·rcases hj 0 d (by simp) rfl with z | z
   ·have : c = d := by simpa using z
    simp [this]
   ·simp [z]
  ·have := hj (j + 1) e (by simpa using hjl) (by simpa using he)
   simpa using this
/-- the new cells go -/
theorem aB5 {h h' : Hh} {w : D} (lim : w.lim h.length = true) (hl : h.length <= h'.length) (hj : ∀ (j : Nat) (c : Cl), j < h.length -> h'[j]? = some c -> h[j]? = some c \/ c.lim h.length = true) : gcR h (.ok w h') = .ok w (h'.take h.length) := by
 show gc h w h' = _
 unfold gc
 rw [if_pos (tD hl hj), if_pos lim]
/-- a fresh list comes back as itself -/
theorem aHN {h h' : Hh} {ws : List D} (lim : D.lims h.length ws = true) (hl : h'.length = h.length) : gcR h (.ok (.tl ws) h') = .ok (.tl ws) h' := xQ hl lim
@[simp] theorem aGF {n : Nat} {i : Int} : D.lim n (.int i) = true := by simp only [D.lim, D.lims]
@[simp] theorem aMV {n : Nat} {i : Bool} : D.lim n (.bl i) = true := by simp only [D.lim, D.lims]
@[simp] theorem aCg {n : Nat} {i : Str} : D.lim n (.str i) = true := by simp only [D.lim, D.lims]
@[simp] theorem aMl {n : Nat} : D.lim n .non = true := by simp only [D.lim, D.lims]
@[simp] theorem xT {n : Nat} {ws : List D} : D.lim n (.tup ws) = D.lims n ws := by simp only [D.lim, D.lims]
@[simp] theorem aMW {n : Nat} {ws : List D} : D.lim n (.tl ws) = D.lims n ws := by simp only [D.lim, D.lims]
@[simp] theorem aGG {n i : Nat} : D.lim n (.ref i) = decide (i < n) := by simp only [D.lim, D.lims]
@[simp] theorem aAL {n : Nat} : D.lims n [] = true := by simp only [D.lim, D.lims]
@[simp] theorem nK {n : Nat} {w : D} {ws : List D} : D.lims n (w :: ws) = (D.lim n w && D.lims n ws) := by simp only [D.lim, D.lims]
theorem qF {n : Nat} : ∀ {ws : List D}, (∀ w ∈ ws, D.lim n w = true) -> D.lims n ws = true
 | [], _ => rfl
 | w :: ws, h => by rw [nK, h w (by simp), qF fun x hx => h x (by simp [hx])]; rfl
@[simp] theorem aLi {n : Nat} {xs : List Str} : D.lims n (xs.map D.str) = true := qF fun w hw => by
 obtain ⟨x, _, rfl⟩ := List.mem_map.mp hw; rfl
@[simp] theorem aLh {n : Nat} {xs : List Int} : D.lims n (xs.map D.int) = true := qF fun w hw => by
 obtain ⟨x, _, rfl⟩ := List.mem_map.mp hw; rfl
@[simp] theorem aLg {n : Nat} {ws : List D} : Cl.lim n (.lst ws) = D.lims n ws := by simp only [Cl.lim]
end PV
end
section
namespace PV
open PySem PySem.Spec PyProof.Rows L2
theorem aE {α : Type} {l : List α} {i : Nat} {a : α} (e : l[i]? = some a) : i < l.length := by
 rcases Nat.lt_or_ge i l.length with z | z
 ·exact z
 ·rw [List.getElem?_eq_none z] at e; cases e
theorem aER {α : Type} {l : List α} {i : Nat} {a : α} (e : l[i]? = some a) : l.drop i = a :: l.drop (i + 1) := by
 have hi := aE e
 rw [List.drop_eq_getElem_cons hi]
 congr 1
 rw [List.getElem?_eq_getElem hi] at e
 exact Option.some.inj e
section
variable {src : Src} {t : Tg} {σ σ0 : Sg} {h : Hh} {ws : List D}
theorem aAI {α : Type} {body : α -> Sg -> Hh -> R α} (step : α -> D -> α) (P : α -> Nat -> Prop) (hs : ∀ i, src i h = some ws[i]?)
  (hb : ∀ i w acc, ws[i]? = some w -> P acc i -> P (step acc w) (i + 1) /\ ∃ σ1, t.set w σ0 h = some σ1 /\ body acc σ1 h = .ok (step acc w) h) :
  ∀ (n i : Nat) (acc : α), P acc i -> i <= ws.length -> ws.length < i + n -> lcL src t body σ0 n i acc h = .ok ((ws.drop i).foldl step acc) h
 | 0, i, acc, hp, hle, hl => by omega
 | n + 1, i, acc, hp, hle, hl => by
  simp only [lcL, hs]
  cases e : ws[i]? with
  | none =>
   simp only
   rw [List.drop_eq_nil_of_le (List.getElem?_eq_none_iff.mp e)]
   rfl
  | some w =>
   obtain ⟨p1, σ1, e1, e2⟩ := hb i w acc e hp
   simp only [e1, e2, R.bind_ok]
   have := aE e
   rw [aAI step P hs hb n (i + 1) (step acc w) p1 (by omega) (by omega), aER e]
   rfl
end
def oB {α β : Type} (g : α -> Option β) (acc : List β) (w : α) : List β := match g w with
 | some y => acc ++ [y]
 | none => acc
theorem nJ {α β : Type} (g : α -> Option β) : ∀ (ws : List α) (acc : List β), ws.foldl (oB g) acc = acc ++ ws.filterMap g
 | [], acc => by simp
 | w :: ws, acc => by
  rw [List.foldl_cons, nJ g ws]
  cases e : g w with
  | none => simp [oB, e]
  | some y => simp [oB, e]
/-- [e for t in ws if c], where nothing is written -/
theorem aGE {mi : M Src} {t : Tg} {mt : M Bool} {me : M D} {vs : List Nat} {σ : Sg} {h h1 : Hh} {src : Src} {ws : List D} (g : D -> Option D) (hi : mi σ h = .ok src h1) (hs : ∀ i, src i h1 = some ws[i]?) (hl : ws.length < sizeLine)
  (hb : ∀ w ∈ ws, ∃ σ1, t.set w (eF σ vs) h1 = some σ1 /\ ((∃ y, g w = some y /\ mt σ1 h1 = .ok true h1 /\ me σ1 h1 = .ok y h1 /\ y.isTl = false) \/ (g w = none /\ mt σ1 h1 = .ok false h1))) :
  mLc mi t mt me vs σ h = .ok (.tl (ws.filterMap g)) h1 := by
 unfold mLc
 rw [hi, R.bind_ok]
 have key := aAI (src := src) (t := t) (σ0 := eF σ vs) (h := h1) (ws := ws) (body := jC mt me) (oB g) (fun acc i => acc.length <= i) hs (fun i w acc e hp => by
   obtain ⟨σ1, e1, z⟩ := hb w (List.mem_of_getElem? e)
   have hi := aE e
   rcases z with ⟨y, eg, et, ee, nt⟩ | ⟨eg, et⟩
   ·refine ⟨by simp [oB, eg]; omega, σ1, e1, ?_⟩
    have ha : acc.length < sizeLine := by omega
    simp only [jC, et, noX, R.bind_ok, if_true, ee, qW nt, ha, oB, eg]
   ·refine ⟨by simp [oB, eg]; omega, σ1, e1, ?_⟩
    simp [jC, et, noX, oB, eg]) fX 0 [] (by simp) (by omega) (by unfold fX; have : sizeLine = 16777216 := rfl; omega)
 rw [key, R.bind_ok, List.drop_zero, nJ]
 rfl
/-- the same without a test -/
theorem aH4 {mi : M Src} {t : Tg} {me : M D} {vs : List Nat} {σ : Sg} {h h1 : Hh} {src : Src} {ws : List D} (g : D -> D) (hi : mi σ h = .ok src h1) (hs : ∀ i, src i h1 = some ws[i]?) (hl : ws.length < sizeLine)
  (hb : ∀ w ∈ ws, ∃ σ1, t.set w (eF σ vs) h1 = some σ1 /\ me σ1 h1 = .ok (g w) h1 /\ (g w).isTl = false) : mLc mi t (fun _ h => .ok true h) me vs σ h = .ok (.tl (ws.map g)) h1 := by
 have := aGE (mt := fun _ h => .ok true h) (me := me) (fun w => some (g w)) hi hs hl fun w hw => by
  obtain ⟨σ1, e1, e2, e3⟩ := hb w hw
  exact ⟨σ1, e1, .inl ⟨g w, rfl, rfl, e2, e3⟩⟩
 rw [this]
 simp
section
variable {h : Hh} {ws us : List D} {i : Nat}
def vZ (ws : List D) : List D := ws.mapIdx fun i w => .tup [.int (i : Nat), w]
theorem aHh {s : Src} (hs : ∀ j, s j h = some ws[j]?) (j : Nat) : qU s j h = some (vZ ws)[j]? := by
 unfold qU vZ
 rw [hs, List.getElem?_mapIdx]
 cases ws[j]? <;> rfl
theorem tS {lo : Int} {n : Nat} (j : Nat) : jZ lo n j h = some ((List.range n).map fun (i : Nat) => D.int (lo + (i : Nat)))[j]? := by
 unfold jZ
 by_cases hj : j < n
 ·simp [hj]
 ·simp [hj]
end
/-- a for loop that goes through -/
theorem aB3 {src : Src} {t : Tg} {b : MS} {ws : List D} (I : Nat -> Sg -> Hh -> Prop) (hs : ∀ i σ h, I i σ h -> src i h = some ws[i]?)
  (step : ∀ i w σ h, I i σ h -> ws[i]? = some w -> ∃ σ1 σ2 h2, t.set w σ h = some σ1 /\ (b σ1 h = .nx σ2 h2 \/ b σ1 h = .cont σ2 h2) /\ I (i + 1) σ2 h2) :
  ∀ (n i : Nat) (σ : Sg) (h : Hh), I i σ h -> i <= ws.length -> ws.length < i + n -> ∃ σ2 h2, hA src t b n i σ h = .nx σ2 h2 /\ I ws.length σ2 h2
 | 0, i, σ, h, hi, hle, hl => by omega
 | n + 1, i, σ, h, hi, hle, hl => by
  simp only [hA, hs i σ h hi]
  cases e : ws[i]? with
  | none =>
   have := List.getElem?_eq_none_iff.mp e
   have hi' : i = ws.length := by omega
   subst hi'
   exact ⟨σ, h, rfl, hi⟩
  | some w =>
   obtain ⟨σ1, σ2, h2, e1, e2, hi2⟩ := step i w σ h hi e
   have := aE e
   obtain ⟨σ3, h3, e3, hi3⟩ := aB3 I hs step n (i + 1) σ2 h2 hi2 (by omega) (by omega)
   refine ⟨σ3, h3, ?_, hi3⟩
   rcases e2 with e2 | e2
   ·simp only [e1, e2]; exact e3
   ·simp only [e1, e2]; exact e3
theorem aE8 {mi : M Src} {src : Src} {t : Tg} {b : MS} {ws : List D} {σ : Sg} {h h1 : Hh} (I : Nat -> Sg -> Hh -> Prop) (hm : mi σ h = .ok src h1) (hs : ∀ i σ h, I i σ h -> src i h = some ws[i]?)
  (step : ∀ i w σ h, I i σ h -> ws[i]? = some w -> ∃ σ1 σ2 h2, t.set w σ h = some σ1 /\ (b σ1 h = .nx σ2 h2 \/ b σ1 h = .cont σ2 h2) /\ I (i + 1) σ2 h2)
  (h0 : I 0 σ h1) (hl : ws.length <= 16777216) : ∃ σ2 h2, fJ mi t b σ h = .nx σ2 h2 /\ I ws.length σ2 h2 := by
 unfold fJ
 rw [hm, R.then_ok]
 exact aB3 I hs step fX 0 σ h1 h0 (by omega) (by unfold fX; omega)
end PV
end
section
namespace PV
open PySem PySem.Spec PyProof.Rows L2
theorem gR {α β γ : Type} {f : α -> Option β} {g : γ -> α} {k : γ -> β} : ∀ {xs : List γ}, (∀ x ∈ xs, f (g x) = some (k x)) -> aJ f (xs.map g) = some (xs.map k)
 | [], _ => rfl
 | x :: xs, h => by
  simp only [List.map_cons, aJ]
  rw [h x (by simp), gR fun y hy => h y (by simp [hy])]
@[simp] theorem aMG {h : Hh} {n : Nat} {i : Int} : toP h (n + 1) (.int i) = some (.int i) := id rfl
@[simp] theorem aMI {h : Hh} {n : Nat} {i : Str} : toP h (n + 1) (.str i) = some (.str i) := id rfl
@[simp] theorem aNt {h : Hh} {n : Nat} {i : Bool} : toP h (n + 1) (.bl i) = some (.bool i) := id rfl
@[simp] theorem aMH {h : Hh} {n : Nat} : toP h (n + 1) .non = some .none := id rfl
@[simp] theorem aMJ {h : Hh} {n : Nat} {ws : List D} : toP h (n + 1) (.tup ws) = (aJ (toP h n) ws).map .tuple := id rfl
@[simp] theorem aNu {h : Hh} {n : Nat} {ws : List D} : toP h (n + 1) (.tl ws) = (aJ (toP h n) ws).map .list := id rfl
@[simp] theorem aE6 {α β : Type} {f : α -> Option β} : aJ f [] = some [] := id rfl
theorem iW {α β : Type} {f : α -> Option β} {x : α} {xs : List α} {y : β} {ys : List β} (h1 : f x = some y) (h2 : aJ f xs = some ys) : aJ f (x :: xs) = some (y :: ys) := by simp only [aJ, h1, h2]
theorem dE : ∀ {ds : List PyData}, (∀ d ∈ ds, d.canLay0 = true) -> PyData.canLayAll0 ds = true
 | [], _ => by simp [PyData.canLayAll0]
 | d :: ds, h => by
  simp only [PyData.canLayAll0, Bool.and_eq_true]
  exact ⟨h d (by simp), dE fun x hx => h x (by simp [hx])⟩
theorem eK {n : Nat} : ∀ {ds : List PyData}, (∀ d ∈ ds, d.depth <= n) -> PyData.depthAll ds <= n
 | [], _ => by simp [PyData.depthAll]
 | d :: ds, h => by
  simp only [PyData.depthAll]
  have h1 := h d (by simp)
  have h2 := eK fun x hx => h x (List.mem_cons_of_mem _ hx)
  omega
theorem wX {ds : List PyData} {n : Nat} (hn : n < 64) (h : ∀ d ∈ ds, d.canLay0 = true) (hd : ∀ d ∈ ds, d.depth <= n) : SeqAt.shaped (.tuple ds) = true := by
 have := eK hd
 simp [SeqAt.shaped, PyData.canLay0, dE h, PyData.depth]
 omega
theorem aDf {x : Str} (h : PyData.strOk x = true) : SeqAt.shaped (.str x) = true := by simp [SeqAt.shaped, PyData.canLay0, h, PyData.depth]
theorem uU {h : Hh} {x : Str} {ss : List Str} (hx : PyData.strOk x = true) (hs : ∀ s ∈ ss, PyData.strOk s = true) : inW (.str x) (.tup (ss.map .str)) h = .ok (.bl (decide (x ∈ ss))) h := by
 have e1 : toP h bJ (.tup (ss.map .str)) = some (.tuple (ss.map .str)) := by
  show (aJ (toP h 65) (ss.map .str)).map PyData.tuple = _
  rw [gR (f := toP h 65) (g := D.str) (k := PyData.str) fun x _ => rfl]
  rfl
 have s1 : SeqAt.shaped (.tuple (ss.map .str)) = true := wX (n := 0) (by omega) (fun d hd => by
  obtain ⟨s, hs', rfl⟩ := List.mem_map.mp hd
  simp [PyData.canLay0, hs s hs']) (fun d hd => by
  obtain ⟨s, hs', rfl⟩ := List.mem_map.mp hd
  simp [PyData.depth])
 have e2 : toP h bJ (.str x) = some (.str x) := rfl
 simp only [inW, inO, e1, e2, s1, aDf hx, Bool.and_self, if_true]
 congr 3
 rw [Bool.eq_iff_iff]
 simp only [List.any_map, List.any_eq_true, Function.comp, decide_eq_true_eq, PyData.eqv, beq_iff_eq]
 constructor
 ·rintro ⟨s, hs, rfl⟩; exact hs
 ·exact fun hm => ⟨x, hm, rfl⟩
end PV
end
section
namespace PV
open PySem PySem.Spec PyProof.Rows L2
end PV
end
section
namespace PV
open PySem PySem.Spec PyProof.Rows L2
theorem aCd {α : Type} {src : Src} {t : Tg} {body : α -> Sg -> Hh -> R α} {σ0 : Sg} {ws : List D} (I : Nat -> α -> Hh -> Prop) (hs : ∀ i acc h, I i acc h -> src i h = some ws[i]?)
  (step : ∀ i w acc h, I i acc h -> ws[i]? = some w -> ∃ σ1 acc' h', t.set w σ0 h = some σ1 /\ body acc σ1 h = .ok acc' h' /\ I (i + 1) acc' h') :
  ∀ (n i : Nat) (acc : α) (h : Hh), I i acc h -> i <= ws.length -> ws.length < i + n -> ∃ acc' h', lcL src t body σ0 n i acc h = .ok acc' h' /\ I ws.length acc' h'
 | 0, i, acc, h, hi, hle, hl => by omega
 | n + 1, i, acc, h, hi, hle, hl => by
  simp only [lcL, hs i acc h hi]
  cases e : ws[i]? with
  | none =>
   have := List.getElem?_eq_none_iff.mp e
   have hi' : i = ws.length := by omega
   subst hi'
   exact ⟨acc, h, rfl, hi⟩
  | some w =>
   obtain ⟨σ1, acc', h', e1, e2, hi2⟩ := step i w acc h hi e
   have := aE e
   obtain ⟨acc3, h3, e3, hi3⟩ := aCd I hs step n (i + 1) acc' h' hi2 (by omega) (by omega)
   refine ⟨acc3, h3, ?_, hi3⟩
   simp only [e1, e2, R.bind_ok]; exact e3
/-- [e for t in ws], each turn under I -/
theorem aDW {mi : M Src} {t : Tg} {me : M D} {vs : List Nat} {σ : Sg} {h h1 : Hh} {src : Src} {ws : List D} (I : Nat -> List D -> Hh -> Prop) (hi : mi σ h = .ok src h1) (hs : ∀ i acc h, I i acc h -> src i h = some ws[i]?) (hl : ws.length < sizeLine)
  (h0 : I 0 [] h1) (step : ∀ i w acc h, I i acc h -> acc.length = i -> ws[i]? = some w -> ∃ σ1 y h', t.set w (eF σ vs) h = some σ1 /\ me σ1 h = .ok y h' /\ I (i + 1) (acc ++ [(aT y h').1]) (aT y h').2) :
  ∃ acc h', mLc mi t (fun _ h => .ok true h) me vs σ h = .ok (.tl acc) h' /\ acc.length = ws.length /\ I ws.length acc h' := by
 obtain ⟨acc, h', e, hI, hlen⟩ := aCd (src := src) (t := t) (body := jC (fun _ h => .ok true h) me) (σ0 := eF σ vs) (ws := ws) (fun i acc h => I i acc h /\ acc.length = i) (fun i acc h hi => hs i acc h hi.1) (fun i w acc h hi e => by
  obtain ⟨σ1, y, h', e1, e2, e3⟩ := step i w acc h hi.1 hi.2 e
  have hlt := aE e
  have ha : acc.length < sizeLine := by have := hi.2; omega
  exact ⟨σ1, acc ++ [(aT y h').1], (aT y h').2, e1, by simp only [jC, noX, R.bind_ok, if_true, e2, ha], e3, by simp [hi.2]⟩) fX 0 [] h1 ⟨h0, rfl⟩ (by omega) (by unfold fX; have : sizeLine = 16777216 := rfl; omega)
 refine ⟨acc, h', ?_, hlen, hI⟩
 unfold mLc
 rw [hi, R.bind_ok, e]
 rfl
end PV
end
section
namespace PV
open PySem PySem.Spec PyProof.Rows L2
theorem zW {i j : Int} (h : -18446744073709551616 < i) (h2 : i < 18446744073709551616) : CMul i j := .inl ⟨by simpa using h, by simpa using h2⟩
theorem zX {i j : Int} (h : -18446744073709551616 < j) (h2 : j < 18446744073709551616) : CMul i j := .inr ⟨by simpa using h, by simpa using h2⟩
/-- the heap changes at the cells is alone -/
structure Up (is : List Nat) (h h' : Hh) : Prop where
 len : h'.length = h.length
 same : ∀ j, j ∉ is -> h'[j]? = h[j]?
theorem Up.rfl' {is : List Nat} {h : Hh} : Up is h h := ⟨rfl, fun _ _ => rfl⟩
theorem Up.trans {is : List Nat} {h h1 h2 : Hh} (a : Up is h h1) (b : Up is h1 h2) : Up is h h2 := ⟨b.len.trans a.len, fun j hj => (b.same j hj).trans (a.same j hj)⟩
theorem Up.mono {is js : List Nat} {h h1 : Hh} (a : Up is h h1) (s : ∀ i ∈ is, i ∈ js) : Up js h h1 := ⟨a.len, fun j hj => a.same j fun z => hj (s j z)⟩
theorem Up.get {is : List Nat} {h h1 : Hh} (a : Up is h h1) {j : Nat} {c : Cl} (e : h[j]? = some c) (hj : j ∉ is) : h1[j]? = some c := (a.same j hj).trans e
theorem Up.set {is : List Nat} {h : Hh} {i : Nat} {c : Cl} (hi : i ∈ is) : Up is h (h.set i c) := ⟨by simp, fun j hj => List.getElem?_set_ne fun z => hj (by rw [<- z]; exact hi)⟩
/-- new cells go: what is left of the old ones -/
theorem Up.cut {is : List Nat} {h e h' : Hh} (a : Up is (h ++ e) h') : Up is h (h'.take h.length) := by
 have hl := a.len
 rw [List.length_append] at hl
 refine ⟨by rw [List.length_take]; omega, fun j hj => ?_⟩
 by_cases hlt : j < h.length
 ·rw [List.getElem?_take_of_lt hlt, a.same j hj, List.getElem?_append_left hlt]
 ·rw [List.getElem?_eq_none (by rw [List.length_take]; omega), List.getElem?_eq_none (by omega)]
theorem aFO {h' : Hh} {n i : Nat} {c : Cl} (e : h'[i]? = some c) (hi : i < n) : (h'.take n)[i]? = some c := by rw [List.getElem?_take_of_lt hi]; exact e
theorem aBV {h e : Hh} {i : Nat} {c : Cl} (q : h[i]? = some c) : (h ++ e)[i]? = some c := by rw [List.getElem?_append_left (aE q)]; exact q
/-- a call leaves the caller's cells, each as it was or plain -/
theorem aHO {is : List Nat} {h e h' : Hh} {w : D} (a : Up is (h ++ e) h') (lim : w.lim h.length = true) (hp : ∀ i ∈ is, i < h.length -> ∃ c, h'[i]? = some c /\ (h[i]? = some c \/ c.lim h.length = true)) : gcR h (.ok w h') = .ok w (h'.take h.length) := by
 have hl := a.len
 rw [List.length_append] at hl
 refine aB5 lim (by omega) fun j c hj ec => ?_
 by_cases hm : j ∈ is
 ·obtain ⟨c', e1, e2⟩ := hp j hm hj
  rw [e1] at ec; cases ec; exact e2
 ·left
  rw [a.same j hm, List.getElem?_append_left hj] at ec; exact ec
theorem iS {is : List Nat} {h h' : Hh} {w : D} (a : Up is h h') (lim : w.lim h.length = true) : gcR h (.ok w h') = .ok w h' := xQ a.len lim
/-- a source of draws at cell i, drawn from at most c times -/
def Sr (h : Hh) (i : Nat) (c : Nat) : Prop := ∃ a b d : Int, h[i]? = some (.lst [.int a, .int b, .int d]) /\ 0 <= d /\ d <= c
theorem Sr.mono {h : Hh} {i c c' : Nat} (s : Sr h i c) (hc : c <= c') : Sr h i c' := let ⟨a, b, d, e, h0, h1⟩ := s; ⟨a, b, d, e, h0, by omega⟩
theorem Sr.lt {h : Hh} {i c : Nat} (s : Sr h i c) : i < h.length := let ⟨_, _, _, e, _, _⟩ := s; aE e
theorem Sr.app {h e : Hh} {i c : Nat} (s : Sr h i c) : Sr (h ++ e) i c := let ⟨a, b, d, e, h0, h1⟩ := s; ⟨a, b, d, aBV e, h0, h1⟩
theorem Sr.cut {h : Hh} {i c n : Nat} (s : Sr h i c) (hi : i < n) : Sr (h.take n) i c := let ⟨a, b, d, e, h0, h1⟩ := s; ⟨a, b, d, aFO e hi, h0, h1⟩
theorem Sr.up {h h' : Hh} {i c : Nat} {is : List Nat} (s : Sr h i c) (u : Up is h h') (hi : i ∉ is) : Sr h' i c := let ⟨a, b, d, e, h0, h1⟩ := s; ⟨a, b, d, u.get e hi, h0, h1⟩
theorem Sr.cell {h : Hh} {i c : Nat} (s : Sr h i c) (n : Nat) : ∃ x, h[i]? = some x /\ x.lim n = true := let ⟨a, b, d, e, h0, h1⟩ := s; ⟨_, e, by simp⟩
theorem aGw {i c : Nat} {h e h' : Hh} {w : D} (a : Up [i] (h ++ e) h') (s : Sr h' i c) (lim : w.lim h.length = true) : gcR h (.ok w h') = .ok w (h'.take h.length) :=
 aHO a lim fun j hj _ => by
  have : j = i := by simpa using hj
  subst this
  obtain ⟨x, e1, e2⟩ := s.cell h.length
  exact ⟨x, e1, .inr e2⟩
theorem yZ {h : Hh} {p r : Nat} {ws : List D} (e : h[p]? = some (.lst ws)) (hr : r < ws.length) (hl : ws.length < 1073741824) : kP (.ref p) (.int (r : Int)) h = .ok ws[r] (h.set p (.lst (ws.eraseIdx r))) := by
 have h1 : -(2 ^ 63 : Int) <= (r : Int) := by omega
 have h2 : (r : Int) < 2 ^ 63 := by omega
 have h3 : seqIndex? (r : Int) ws.length = some r := by
  unfold seqIndex?
  simp
  omega
 simp [kP, eC, e, h3, List.getElem?_eq_getElem hr]
 omega
theorem pZ {α : Type} : ∀ {l : List α} {r : Nat} (hr : r < l.length), l.Perm (l[r] :: l.eraseIdx r)
 | x :: l, 0, _ => .refl _
 | x :: l, r + 1, hr => by
  have := pZ (l := l) (r := r) (by simpa using hr)
  simp only [List.getElem_cons_succ, List.eraseIdx_cons_succ]
  exact (this.cons x).trans (.swap _ _ _)
theorem kZ {α β : Type} {f : α -> β} : ∀ {l : List α} {r : Nat}, (l.map f).eraseIdx r = (l.eraseIdx r).map f
 | [], r => by simp
 | x :: l, 0 => by simp
 | x :: l, r + 1 => by simp [kZ (l := l) (r := r)]
theorem qK {m : M D} {σ : Sg} {h h1 : Hh} {n : Nat} (e : m σ h = .ok (.int n) h1) (hn : n < 1073741824) : gM m σ h = .ok (jZ 0 n) h1 := by
 unfold gM
 rw [e, R.bind_ok]
 show (if _ then _ else _) = _
 rw [if_pos ⟨by omega, by omega⟩, Int.toNat_natCast]
theorem mE {h : Hh} {p : Nat} {ws : List D} (e : h[p]? = some (.lst ws)) : tyM h (.ref p) = some "list" := by simp [tyM, e]
theorem aF1 {op : Op1} {o a : M D} {σ : Sg} {h h1 : Hh} {p : Nat} {ws : List D} (eo : o σ h = .ok (.ref p) h1) (e : h1[p]? = some (.lst ws)) : mM1 (on1 "list" op) o a σ h = (a σ h1).bind fun y h2 => op (.ref p) y h2 := by
 unfold mM1
 rw [eo, R.bind_ok, mE e]
 rfl
theorem pR {h : Hh} {p : Nat} {ws : List D} {y : D} (e : h[p]? = some (.lst ws)) (hl : ws.length < sizeLine) (hy : y.isTl = false) : gG (.ref p) y h = .ok .non (h.set p (.lst (ws ++ [y]))) := by simp [gG, eC, e, hl, hy]
theorem jA {h : Hh} {p : Nat} {c : Cl} (hp : p < h.length) : (h.set p c)[p]? = some c := List.getElem?_set_self hp
theorem dH {h : Hh} {p q : Nat} {c : Cl} (hp : p ≠ q) : (h.set p c)[q]? = h[q]? := List.getElem?_set_ne hp
theorem aEJ {h : Hh} {c : Cl} {r : Hh} : (h ++ c :: r)[h.length]? = some c := by simp
theorem aEK {h : Hh} {c d : Cl} {r : Hh} : (h ++ c :: d :: r)[h.length + 1]? = some d := by simp [List.getElem?_append_right]
theorem aDu {h : Hh} {c d e : Cl} {r : Hh} : (h ++ c :: d :: e :: r)[h.length + 2]? = some e := by simp [List.getElem?_append_right]
end PV
end
section
namespace PV
open PySem PySem.Spec PyProof.Rows L2
/-- the heap changes at the cells is, and may grow -/
structure Ux (is : List Nat) (h h' : Hh) : Prop where
 len : h.length <= h'.length
 same : ∀ j, j < h.length -> j ∉ is -> h'[j]? = h[j]?
theorem Up.ux {is : List Nat} {h h' : Hh} (a : Up is h h') : Ux is h h' := ⟨Nat.le_of_eq a.len.symm, fun j _ hj => a.same j hj⟩
theorem Ux.trans {is : List Nat} {h h1 h2 : Hh} (a : Ux is h h1) (b : Ux is h1 h2) : Ux is h h2 := ⟨Nat.le_trans a.len b.len, fun j hj hi => (b.same j (Nat.lt_of_lt_of_le hj a.len) hi).trans (a.same j hj hi)⟩
theorem Ux.app {is : List Nat} {h e : Hh} : Ux is h (h ++ e) := ⟨by simp, fun j hj _ => List.getElem?_append_left hj⟩
theorem Ux.mono {is js : List Nat} {h h1 : Hh} (a : Ux is h h1) (s : ∀ i ∈ is, i < h.length -> i ∈ js) : Ux js h h1 := ⟨a.len, fun j hj hm => a.same j hj fun z => hm (s j z hj)⟩
theorem Ux.get {is : List Nat} {h h1 : Hh} (a : Ux is h h1) {j : Nat} {c : Cl} (e : h[j]? = some c) (hj : j ∉ is) : h1[j]? = some c := (a.same j (aE e) hj).trans e
theorem aAB {is : List Nat} {h e h' : Hh} {w : D} (a : Ux is (h ++ e) h') (lim : w.lim h.length = true) (hp : ∀ i ∈ is, i < h.length -> ∃ c, h'[i]? = some c /\ c.lim h.length = true) :
  ∃ h2, gcR h (.ok w h') = .ok w h2 /\ Up is h h2 /\ (∀ i, i < h.length -> h2[i]? = h'[i]?) := by
 have hl := a.len
 rw [List.length_append] at hl
 refine ⟨h'.take h.length, aB5 lim (by omega) fun j c hj ec => ?_, ⟨by rw [List.length_take]; omega, fun j hj => ?_⟩, fun i hi => List.getElem?_take_of_lt hi⟩
 ·by_cases hm : j ∈ is
  ·obtain ⟨c', e1, e2⟩ := hp j hm hj
   rw [e1] at ec; cases ec; exact .inr e2
  ·left
   rw [a.same j (by rw [List.length_append]; omega) hm, List.getElem?_append_left hj] at ec; exact ec
 ·by_cases hlt : j < h.length
  ·rw [List.getElem?_take_of_lt hlt, a.same j (by rw [List.length_append]; omega) hj, List.getElem?_append_left hlt]
  ·rw [List.getElem?_eq_none (by rw [List.length_take]; omega), List.getElem?_eq_none (by omega)]
/-- nothing was written -/
theorem aHM {h e h' : Hh} {w : D} (a : Ux [] (h ++ e) h') (lim : w.lim h.length = true) : gcR h (.ok w h') = .ok w h := by
 obtain ⟨h2, e1, u, _⟩ := aAB a lim (fun i hi => by simp at hi)
 rw [e1]
 have : h2 = h := by
  apply List.ext_getElem?
  intro j
  exact u.same j (by simp)
 rw [this]
theorem aGv {h h' : Hh} {w : D} (a : Ux [] h h') (lim : w.lim h.length = true) : gcR h (.ok w h') = .ok w h := aHM (e := []) (by rw [List.append_nil]; exact a) lim
@[simp] theorem aMh {h e : Hh} {w : D} (lim : w.lim h.length = true) : gcR h (.ok w (h ++ e)) = .ok w h := aGv .app lim
structure Opr where
 kind : Str
 words : List Str
 deriving DecidableEq, Inhabited
def Opr.enc (o : Opr) : D := .tup [.str o.kind, .tup (o.words.map .str)]
def Opr.L (o : Opr) : Bool := decide (o.kind ∈ [("infix" : Str), "postfix"])
def Opr.Rr (o : Opr) : Bool := decide (o.kind ∈ [("infix" : Str), "prefix"])
def Opr.S (o : Opr) : Bool := decide (o.kind ∈ [("prefix" : Str), "closed"])
def kinds : List Str := ["closed", "infix", "postfix", "prefix"]
theorem Opr.enc_lim {o : Opr} {n : Nat} : o.enc.lim n = true := by simp [Opr.enc]
@[simp] theorem aKW {o : Opr} {h : Hh} : aT o.enc h = (o.enc, h) := rfl
def iD : List Str := ["!", "\u0023", "$", "&", "*", "+", ",", "-", ".", "/", ":", ";", "<", "=", ">"]
def iE : List Str := ["?", "\u0040", "[", "]", "^", "_", "{", "|", "}", "~"]
def lO : List Str := ["if", "then", "else", "and", "or", "not", "is", "z9"]
def aJ2 : List Str := ["--", "**", "lengthy8", "of", "in", "to", "by", "=>", "((", "f(", ")x"]
/-- the words that the laws draw from -/
def gZ : List Str := (iD ++ iE) ++ lO ++ aJ2
/-- words that some laws write -/
def aJ3 : List Str := ["last", "end", "op", "do", "o0x", "o1x", "o2x", "o3x", "o4x", "o5x", "o6x", "o7x", "o8x", "o9x", "o10x", "o11x", "o0y", "o1y", "o2y", "o3y", "o4y", "o5y", "o6y", "o7y", "o8y", "o9y", "o10y", "o11y"]
def nR : List Str := gZ ++ aJ3
theorem aBH : gZ.Nodup := by decide +kernel
theorem y0 {x : Str} (h : x ∈ gZ) : x ∈ nR := List.mem_append_left _ h
theorem aAV : ∀ x ∈ nR, PyData.strOk x = true := by decide +kernel
theorem qD : ∀ x ∈ kinds, PyData.strOk x = true := by decide +kernel
def dD (b : Bool) (ops : List Opr) : List Str := ops.filterMap fun o => if o.S = b then o.words.head? else none
def dS (ops : List Opr) : List Str := ops.flatMap fun o => o.words.tail
/-- an operator's kind and number of words -/
structure OprOk (o : Opr) : Prop where
 kd : o.kind ∈ kinds
 l1 : 1 <= o.words.length
 l3 : o.words.length <= 3
 l2 : o.kind = "closed" -> 2 <= o.words.length
 w0 : ∀ x ∈ o.words, x ∈ nR
/-- a list of operators whose words do not meet where they must not -/
structure OpsOk (ops : List Opr) : Prop where
 ok : ∀ o ∈ ops, OprOk o
 nd : ∀ b, (dD b ops).Nodup
 lt : (dS ops).Nodup
 ld : ∀ x ∈ dS ops, ∀ b, x ∉ dD b ops
/-- while it is made: the words left, the first words of one role alone -/
structure OpI (pool : List Str) (sh : Bool -> List Str) (ops : List Opr) : Prop where
 oo : OpsOk ops
 pn : pool.Nodup
 p0 : ∀ x ∈ pool, x ∈ gZ
 dp : ∀ o ∈ ops, ∀ x ∈ o.words, x ∉ pool
 sn : ∀ b, (sh b).Nodup
 si : ∀ b, ∀ x ∈ sh b, x ∈ dD b ops
 sd : ∀ b, ∀ x ∈ sh b, x ∉ dD (!b) ops
 wy : ∀ o ∈ ops, ∀ x ∈ o.words, x ∈ gZ
theorem aCL {b : Bool} {ops : List Opr} {x : Str} (h : x ∈ dD b ops) : ∃ o ∈ ops, o.S = b /\ o.words.head? = some x := by
 unfold dD at h
 obtain ⟨o, ho, e⟩ := List.mem_filterMap.mp h
 by_cases hb : o.S = b
 ·rw [if_pos hb] at e; exact ⟨o, ho, hb, e⟩
 ·rw [if_neg hb] at e; cases e
theorem kF {b : Bool} {ops : List Opr} {x : Str} (h : x ∈ dD b ops) : ∃ o ∈ ops, x ∈ o.words := by
 obtain ⟨o, ho, _, e⟩ := aCL h
 exact ⟨o, ho, List.mem_of_mem_head? (by rw [e]; rfl)⟩
theorem aBF {ops : List Opr} {x : Str} (h : x ∈ dS ops) : ∃ o ∈ ops, x ∈ o.words := by
 unfold dS at h
 obtain ⟨o, ho, e⟩ := List.mem_flatMap.mp h
 exact ⟨o, ho, List.mem_of_mem_tail e⟩
theorem gH {b : Bool} {ops : List Opr} {o : Opr} {x : Str} {r : List Str} (e : o.words = x :: r) : dD b (ops ++ [o]) = dD b ops ++ if o.S = b then [x] else [] := by
 unfold dD
 rw [List.filterMap_append]
 by_cases hb : o.S = b
 ·simp [hb, e]
 ·simp [hb]
theorem uG {ops : List Opr} {o : Opr} {x : Str} {r : List Str} (e : o.words = x :: r) : dS (ops ++ [o]) = dS ops ++ r := by
 unfold dS
 simp [e]
theorem wI {α : Type} {l : List α} {x : α} (h : l.Nodup) (hx : x ∉ l) : (l ++ [x]).Nodup := by
 rw [List.nodup_append]
 exact ⟨h, by simp, fun a ha b hb => by
  have : b = x := by simpa using hb
  subst this; intro z; subst z; exact hx ha⟩
/-- one more operator: its first word x is new to its role, its later words r are new -/
theorem OpsOk.snoc {ops : List Opr} {o : Opr} {x : Str} {r : List Str} (I : OpsOk ops) (ho : OprOk o) (e : o.words = x :: r) (hx : x ∉ dD o.S ops) (hxl : x ∉ dS ops) (rn : r.Nodup) (rx : x ∉ r) (rf : ∀ y ∈ r, ∀ b, y ∉ dD b ops) (rl : ∀ y ∈ r, y ∉ dS ops) : OpsOk (ops ++ [o]) := by
 refine ⟨fun o' h' => ?_, fun b => ?_, ?_, fun y hy b hb => ?_⟩
 ·rcases List.mem_append.mp h' with h' | h'
  ·exact I.ok o' h'
  ·have : o' = o := by simpa using h'
   subst this; exact ho
 ·rw [gH e]
  by_cases hb : o.S = b
  ·subst hb
   rw [if_pos rfl]
   exact wI (I.nd _) hx
  ·rw [if_neg hb, List.append_nil]; exact I.nd b
 ·rw [uG e, List.nodup_append]
  exact ⟨I.lt, rn, fun a ha b hb z => by subst z; exact rl a hb ha⟩
 ·rw [uG e] at hy
  rw [gH e] at hb
  rcases List.mem_append.mp hy with hy | hy
  ·rcases List.mem_append.mp hb with hb | hb
   ·exact I.ld y hy b hb
   ·by_cases hs : o.S = b
    ·rw [if_pos hs] at hb
     have : y = x := by simpa using hb
     subst this; exact hxl hy
    ·rw [if_neg hs] at hb; simp at hb
  ·rcases List.mem_append.mp hb with hb | hb
   ·exact rf y hy b hb
   ·by_cases hs : o.S = b
    ·rw [if_pos hs] at hb
     have : y = x := by simpa using hb
     subst this; exact rx hy
    ·rw [if_neg hs] at hb; simp at hb
section
variable {pool pool' ws : List Str} {sh : Bool -> List Str} {ops : List Opr}
theorem OpI.split (I : OpI pool sh ops) (p : pool.Perm (ws ++ pool')) : ws.Nodup /\ pool'.Nodup /\ (∀ x ∈ ws, x ∉ pool') /\ (∀ x ∈ ws, x ∈ pool) /\ (∀ x ∈ pool', x ∈ pool) := by
 have n := p.nodup I.pn
 rw [List.nodup_append] at n
 exact ⟨n.1, n.2.1, fun x hx hp => n.2.2 x hx x hp rfl, fun x hx => p.symm.subset (List.mem_append_left _ hx), fun x hx => p.symm.subset (List.mem_append_right _ hx)⟩
theorem OpI.new (I : OpI pool sh ops) {x : Str} (hx : x ∈ pool) : (∀ b, x ∉ dD b ops) /\ x ∉ dS ops :=
 ⟨fun b h => by obtain ⟨o, ho, hw⟩ := kF h; exact I.dp o ho x hw hx, fun h => by obtain ⟨o, ho, hw⟩ := aBF h; exact I.dp o ho x hw hx⟩
/-- all words new -/
theorem OpI.add (I : OpI pool sh ops) {x : Str} {r : List Str} (p : pool.Perm ((x :: r) ++ pool')) {kd : Str} (ho : OprOk ⟨kd, x :: r⟩) : OpI pool' (fun b => if b = Opr.S ⟨kd, x :: r⟩ then sh b ++ [x] else sh b) (ops ++ [⟨kd, x :: r⟩]) := by
 obtain ⟨wn, pn, wp, wi, pi⟩ := I.split p
 rw [List.nodup_cons] at wn
 have nx := I.new (wi x (by simp))
 refine ⟨I.oo.snoc ho rfl (nx.1 _) nx.2 wn.2 wn.1 (fun y hy b => (I.new (wi y (by simp [hy]))).1 b) (fun y hy => (I.new (wi y (by simp [hy]))).2), pn, fun y hy => I.p0 y (pi y hy), fun o ho' y hy hp => ?_, fun b => ?_, fun b y hy => ?_, fun b y hy hf => ?_, fun o ho' y hy => ?_⟩
 ·rcases List.mem_append.mp ho' with h' | h'
  ·exact I.dp o h' y hy (pi y hp)
  ·have : o = ⟨kd, x :: r⟩ := by simpa using h'
   subst this; exact wp y hy hp
 ·show (if _ then _ else _ : List Str).Nodup
  split
  ·exact wI (I.sn b) fun h => nx.1 b (I.si b x h)
  ·exact I.sn b
 ·rw [gH (x := x) (r := r) rfl]
  by_cases hb : b = Opr.S ⟨kd, x :: r⟩
  ·rw [if_pos hb] at hy
   rw [if_pos hb.symm]
   rcases List.mem_append.mp hy with hy | hy
   ·exact List.mem_append_left _ (I.si b y hy)
   ·exact List.mem_append_right _ hy
  ·rw [if_neg hb] at hy
   exact List.mem_append_left _ (I.si b y hy)
 ·rw [gH (x := x) (r := r) rfl] at hf
  by_cases hb : b = Opr.S ⟨kd, x :: r⟩
  ·rw [if_pos hb] at hy
   rw [if_neg (by rw [<- hb]; cases b <;> simp), List.append_nil] at hf
   rcases List.mem_append.mp hy with hy | hy
   ·exact I.sd b y hy hf
   ·have : y = x := by simpa using hy
    subst this; exact nx.1 _ hf
  ·rw [if_neg hb] at hy
   have hb2 : Opr.S ⟨kd, x :: r⟩ = !b := by revert hb; cases b <;> cases Opr.S ⟨kd, x :: r⟩ <;> simp
   rw [if_pos hb2] at hf
   rcases List.mem_append.mp hf with hf | hf
   ·exact I.sd b y hy hf
   ·have : y = x := by simpa using hf
    subst this; exact nx.1 b (I.si b y hy)
 ·rcases List.mem_append.mp ho' with h' | h'
  ·exact I.wy o h' y hy
  ·have : o = ⟨kd, x :: r⟩ := by simpa using h'
   subst this; exact I.p0 y (wi y hy)
/-- the first word x is one of the other role -/
theorem OpI.share (I : OpI pool sh ops) {x z : Str} {r rest : List Str} (p : pool.Perm ((z :: r) ++ pool')) {kd : Str} (ho : OprOk ⟨kd, x :: r⟩) (hx : (sh (!Opr.S ⟨kd, x :: r⟩)).Perm (x :: rest)) : OpI pool' (fun b => if b = (!Opr.S ⟨kd, x :: r⟩) then rest else sh b) (ops ++ [⟨kd, x :: r⟩]) := by
 obtain ⟨wn, pn, wp, wi, pi⟩ := I.split p
 rw [List.nodup_cons] at wn
 generalize hS : Opr.S ⟨kd, x :: r⟩ = S at hx ⊢
 have xm : x ∈ sh (!S) := hx.symm.subset (by simp)
 have xf := I.si _ x xm
 have xd := I.sd _ x xm
 rw [Bool.not_not] at xd
 obtain ⟨ox, hox, hwx⟩ := kF xf
 have xp : x ∉ pool := I.dp ox hox x hwx
 have nd := hx.nodup (I.sn _)
 rw [List.nodup_cons] at nd
 have sub : ∀ y ∈ rest, y ∈ sh (!S) := fun y hy => hx.symm.subset (by simp [hy])
 refine ⟨I.oo.snoc ho rfl (by rw [hS]; exact xd) (fun h => I.oo.ld x h _ xf) wn.2 (fun h => xp (wi x (by simp [h]))) (fun y hy b => (I.new (wi y (by simp [hy]))).1 b) (fun y hy => (I.new (wi y (by simp [hy]))).2), pn, fun y hy => I.p0 y (pi y hy), fun o ho' y hy hp => ?_, fun b => ?_, fun b y hy => ?_, fun b y hy hf => ?_, fun o ho' y hy => ?_⟩
 ·rcases List.mem_append.mp ho' with h' | h'
  ·exact I.dp o h' y hy (pi y hp)
  ·have : o = ⟨kd, x :: r⟩ := by simpa using h'
   subst this
   rcases List.mem_cons.mp hy with hy | hy
   ·subst hy; exact xp (pi y hp)
   ·exact wp y (by simp [hy]) hp
 ·show (if _ then _ else _ : List Str).Nodup
  split
  ·exact nd.2
  ·exact I.sn b
 ·rw [gH (x := x) (r := r) rfl]
  refine List.mem_append_left _ ?_
  by_cases hb : b = !S
  ·rw [if_pos hb] at hy
   rw [hb]
   exact I.si _ y (sub y hy)
  ·rw [if_neg hb] at hy
   exact I.si b y hy
 ·rw [gH (x := x) (r := r) rfl, hS] at hf
  by_cases hb : b = !S
  ·rw [if_pos hb] at hy
   have hb2 : S = !b := by rw [hb, Bool.not_not]
   rw [if_pos hb2] at hf
   rcases List.mem_append.mp hf with hf | hf
   ·exact I.sd b y (by rw [hb]; exact sub y hy) hf
   ·have : y = x := by simpa using hf
    subst this; exact nd.1 hy
  ·rw [if_neg hb] at hy
   have hb2 : ¬ S = !b := fun z => hb (by rw [z, Bool.not_not])
   rw [if_neg hb2, List.append_nil] at hf
   exact I.sd b y hy hf
 ·rcases List.mem_append.mp ho' with h' | h'
  ·exact I.wy o h' y hy
  ·have : o = ⟨kd, x :: r⟩ := by simpa using h'
   subst this
   rcases List.mem_cons.mp hy with hy | hy
   ·subst hy; exact I.wy ox hox y hwx
   ·exact I.p0 y (wi y (by simp [hy]))
theorem OpI.congr {sh' : Bool -> List Str} (I : OpI pool sh ops) (h : ∀ b, sh b = sh' b) : OpI pool sh' ops := by
 have : sh = sh' := funext h
 rw [<- this]; exact I
theorem OpI.start : OpI gZ (fun _ => []) [] := ⟨⟨by simp, by simp [dD], by simp [dS], by simp [dS]⟩, aBH, fun _ h => h, by simp, by simp, by simp, by simp, by simp⟩
end
end PV
end
section
namespace PV
open PySem PySem.Spec PyProof.Rows L2
theorem sz {n : Nat} (h : n <= 16777216) : n <= sizeLine := h
theorem szl {n : Nat} (h : n < 16777216) : n < sizeLine := h
@[simp] theorem aOs : ((1 : Nat) <= sizeLine) = True := eq_true (sz (by decide))
@[simp] theorem aOt : ((2 : Nat) <= sizeLine) = True := eq_true (sz (by decide))
@[simp] theorem aOu : ((3 : Nat) <= sizeLine) = True := eq_true (sz (by decide))
@[simp] theorem aOv : ((4 : Nat) <= sizeLine) = True := eq_true (sz (by decide))
@[simp] theorem aOw : ((5 : Nat) <= sizeLine) = True := eq_true (sz (by decide))
@[simp] theorem aOx : ((6 : Nat) <= sizeLine) = True := eq_true (sz (by decide))
@[simp] theorem aOy : ((7 : Nat) <= sizeLine) = True := eq_true (sz (by decide))
@[simp] theorem aOz : ((8 : Nat) <= sizeLine) = True := eq_true (sz (by decide))
@[simp] theorem aOA : ((9 : Nat) <= sizeLine) = True := eq_true (sz (by decide))
@[simp] theorem aNN : ((10 : Nat) <= sizeLine) = True := eq_true (sz (by decide))
@[simp] theorem aNO : ((11 : Nat) <= sizeLine) = True := eq_true (sz (by decide))
@[simp] theorem aNP : ((12 : Nat) <= sizeLine) = True := eq_true (sz (by decide))
@[simp] theorem aNQ : ((13 : Nat) <= sizeLine) = True := eq_true (sz (by decide))
@[simp] theorem aNR : ((14 : Nat) <= sizeLine) = True := eq_true (sz (by decide))
@[simp] theorem aNS : ((15 : Nat) <= sizeLine) = True := eq_true (sz (by decide))
@[simp] theorem aNT : ((16 : Nat) <= sizeLine) = True := eq_true (sz (by decide))
@[simp] theorem aNU : ((17 : Nat) <= sizeLine) = True := eq_true (sz (by decide))
@[simp] theorem aNV : ((18 : Nat) <= sizeLine) = True := eq_true (sz (by decide))
@[simp] theorem aNW : ((19 : Nat) <= sizeLine) = True := eq_true (sz (by decide))
@[simp] theorem aNX : ((20 : Nat) <= sizeLine) = True := eq_true (sz (by decide))
@[simp] theorem aNY : ((21 : Nat) <= sizeLine) = True := eq_true (sz (by decide))
@[simp] theorem aNZ : ((22 : Nat) <= sizeLine) = True := eq_true (sz (by decide))
@[simp] theorem aN0 : ((23 : Nat) <= sizeLine) = True := eq_true (sz (by decide))
@[simp] theorem aN1 : ((24 : Nat) <= sizeLine) = True := eq_true (sz (by decide))
@[simp] theorem aN2 : ((25 : Nat) <= sizeLine) = True := eq_true (sz (by decide))
@[simp] theorem aN3 : ((26 : Nat) <= sizeLine) = True := eq_true (sz (by decide))
@[simp] theorem aN4 : ((27 : Nat) <= sizeLine) = True := eq_true (sz (by decide))
@[simp] theorem aN5 : ((28 : Nat) <= sizeLine) = True := eq_true (sz (by decide))
@[simp] theorem aN6 : ((29 : Nat) <= sizeLine) = True := eq_true (sz (by decide))
@[simp] theorem aN7 : ((30 : Nat) <= sizeLine) = True := eq_true (sz (by decide))
@[simp] theorem aN8 : ((31 : Nat) <= sizeLine) = True := eq_true (sz (by decide))
@[simp] theorem aN9 : ((32 : Nat) <= sizeLine) = True := eq_true (sz (by decide))
@[simp] theorem aOa : ((33 : Nat) <= sizeLine) = True := eq_true (sz (by decide))
@[simp] theorem aOb : ((34 : Nat) <= sizeLine) = True := eq_true (sz (by decide))
@[simp] theorem aOc : ((35 : Nat) <= sizeLine) = True := eq_true (sz (by decide))
@[simp] theorem aOd : ((36 : Nat) <= sizeLine) = True := eq_true (sz (by decide))
@[simp] theorem aOe : ((37 : Nat) <= sizeLine) = True := eq_true (sz (by decide))
@[simp] theorem aOf : ((38 : Nat) <= sizeLine) = True := eq_true (sz (by decide))
@[simp] theorem aOg : ((39 : Nat) <= sizeLine) = True := eq_true (sz (by decide))
@[simp] theorem aOh : ((40 : Nat) <= sizeLine) = True := eq_true (sz (by decide))
@[simp] theorem tA {a b : Str} {h : Hh} : eqW (.str a) (.str b) h = .ok (.bl (decide (a = b))) h := id rfl
@[simp] theorem aMt {a b : Str} {h : Hh} : neW (.str a) (.str b) h = .ok (.bl (!decide (a = b))) h := id rfl
theorem wW {i : Int} : SeqAt.shaped (.int i) = true := by simp [SeqAt.shaped, PyData.canLay0, PyData.depth]
theorem lQ {i j : Int} {h : Hh} : eqW (.int i) (.int j) h = .ok (.bl (decide (i = j))) h := by
 have e1 : toP h bJ (.int i) = some (.int i) := rfl
 have e2 : toP h bJ (.int j) = some (.int j) := rfl
 have e3 : PyData.eqv (.int i) (.int j) = decide (i = j) := by
  rw [Bool.eq_iff_iff]
  simp [PyData.eqv]
 simp only [eqW, eqD, e1, e2, wW, Bool.and_self, if_true, e3]
theorem aBN {ds : List PyData} {n : Nat} (hn : n < 64) (h : ∀ d ∈ ds, d.canLay0 = true) (hd : ∀ d ∈ ds, d.depth <= n) : SeqAt.shaped (.list ds) = true := by
 have := eK hd
 simp [SeqAt.shaped, PyData.canLay0, dE h, PyData.depth]
 omega
theorem aBt {h : Hh} {n : Nat} {l : List Str} : aJ (toP h (n + 1)) (l.map .str) = some (l.map .str) := gR (f := toP h (n + 1)) (g := D.str) (k := PyData.str) fun x _ => rfl
theorem aBO {l : List Str} (hs : ∀ s ∈ l, PyData.strOk s = true) : SeqAt.shaped (.list (l.map .str)) = true := aBN (n := 0) (by omega) (fun d hd => by
  obtain ⟨s, hs', rfl⟩ := List.mem_map.mp hd
  simp [PyData.canLay0, hs s hs']) (fun d hd => by
  obtain ⟨s, hs', rfl⟩ := List.mem_map.mp hd
  simp [PyData.depth])
theorem aFR {h : Hh} {q n : Nat} {l : List Str} (e : h[q]? = some (.lst (l.map .str))) : toP h (n + 2) (.ref q) = some (.list (l.map .str)) := by
 show (match h[q]? with
   | some (.lst ws) => (aJ (toP h (n + 1)) ws).map PyData.list
   | _ => none) = _
 rw [e]
 simp only [aBt, Option.map_some]
theorem aGI {h : Hh} {q : Nat} {l : List Str} (e : h[q]? = some (.lst (l.map .str))) (hs : ∀ s ∈ l, PyData.strOk s = true) : neW (.ref q) (.tl []) h = .ok (.bl (!l.isEmpty)) h := by
 have e1 : toP h bJ (.ref q) = some (.list (l.map .str)) := aFR e
 have e2 : toP h bJ (.tl []) = some (.list []) := rfl
 have s1 := aBO hs
 have s2 : SeqAt.shaped (.list []) = true := by decide +kernel
 have e3 : PyData.eqv (.list (l.map .str)) (.list []) = l.isEmpty := by
  cases l <;> simp [PyData.eqv, PyData.eqvAll]
 simp only [neW, eqD, e1, e2, s1, s2, Bool.and_self, if_true, e3]
section
variable {σ : Sg} {h : Hh} {m o a b : M D} {ts : List Tg} {t : Tg} {ws : List D} {w : D} {i : Nat}
@[simp] theorem aKM : aS (.tu ts) m σ h = (m σ h).then σ fun w h1 => match Tg.set (.tu ts) (aT w h1).1 σ (aT w h1).2 with
 | some σ1 => .nx σ1 (aT w h1).2
 | none => .bad := id rfl
@[simp] theorem aMa : Tg.set (.nm i) w σ h = some (σ.set i (some w)) := by simp only [Tg.set]
@[simp] theorem aK3 : Tg.set (.tu ts) (.tup ws) σ h = Tg.sets ts ws σ h := by simp only [Tg.set, asT]
@[simp] theorem aKE : Tg.sets [] [] σ h = some σ := by simp only [Tg.sets]
@[simp] theorem aJz : Tg.sets (t :: ts) (w :: ws) σ h = (Tg.set t w σ h).bind fun σ1 => Tg.sets ts ws σ1 h := by
 simp only [Tg.sets]
 cases Tg.set t w σ h <;> rfl
@[simp] theorem aMZ {f : String -> Option Op0} : mM0 f o σ h = (o σ h).bind fun x h1 => match tyM h1 x with
 | some T => match f T with
  | some op => op x h1
  | none => .bad
 | none => .bad := id rfl
@[simp] theorem aM0 {f : String -> Option Op1} : mM1 f o a σ h = (o σ h).bind fun x h1 => match tyM h1 x with
 | some T => match f T with
  | some op => (a σ h1).bind fun y h2 => op x y h2
  | none => .bad
 | none => .bad := id rfl
@[simp] theorem aM1 {f : String -> Option Op2} : mM2 f o a b σ h = (o σ h).bind fun x h1 => match tyM h1 x with
 | some T => match f T with
  | some op => (a σ h1).bind fun y h2 => (b σ h2).bind fun z h3 => op x y z h3
  | none => .bad
 | none => .bad := id rfl
@[simp] theorem aLz {T : String} {op : Op0} : on0 T op T = some op := by simp [on0]
@[simp] theorem aFf {T : String} {op : Op1} : on1 T op T = some op := by simp [on1]
@[simp] theorem aLA {T : String} {op : Op2} : on2 T op T = some op := by simp [on2]
@[simp] theorem aMK {x : Str} : tyM h (.str x) = some "str" := rfl
end
theorem aKp {h : Hh} {w : D} {ws : List D} : slW (.tup (w :: ws)) (some 1) none h = .ok (.tup ws) h := by
 have e1 : HT.sIx (w :: ws).length 0 (some 1) = 1 := by simp [HT.sIx]
 have e2 : HT.sIx (w :: ws).length (w :: ws).length none = (w :: ws).length := rfl
 simp only [slW, asL, asT, e1, e2]
 rw [if_neg (by omega)]
 simp only [oG, e1, e2]
 simp
theorem aEI {h : Hh} {xs ys : List D} (hl : xs.length + ys.length <= 16777216) : bM (.tup xs) (.tup ys) h = .ok (.tup (xs ++ ys)) h := by
 have hl' : xs.length + ys.length <= sizeLine := hl
 simp only [bM, asT, hl', if_true]
 by_cases h1 : xs = []
 ·simp [h1]
 ·by_cases h2 : ys = []
  ·simp [h1, h2]
  ·simp [h1, h2]
end PV
end
section
namespace PV
open PySem PySem.Spec PyProof.Rows L2
theorem aJ4 {h : Hh} : qN (.int 10) (.int 18) h = .ok (.int 1000000000000000000) h := by rfl
theorem aJ5 {h : Hh} : ∃ z : Int, 0 < z /\ qN (.int 10) (.int 60) h = .ok (.int z) h /\ ∃ y : Int, 0 < y /\ qN (.int z) (.int 4) h = .ok (.int y) h :=
 ⟨10 ^ 60, by decide, by rfl, (10 ^ 60) ^ 4, by decide, by rfl⟩
end PV
end
section
namespace PV
open PySem PySem.Spec PyProof.Rows L2
/-- data that can be shown: its depth, the length of its text -/
structure PN (n l : Nat) (d : PyData) : Prop where
 lay : d.canLay0 = true
 sh : d.showable = true
 dp : d.depth <= n
 ln : d.shown.length <= l
theorem PN.mono {n l n' l' : Nat} {d : PyData} (p : PN n l d) (hn : n <= n') (hl : l <= l') : PN n' l' d := ⟨p.lay, p.sh, Nat.le_trans p.dp hn, Nat.le_trans p.ln hl⟩
theorem PN.shaped {n l : Nat} {d : PyData} (p : PN n l d) (hn : n <= 64) : SeqAt.shaped d = true := by
 have := p.dp
 simp [SeqAt.shaped, p.lay]
 omega
theorem log2_lt {n k : Nat} (h : n < 2 ^ k) (hk : 0 < k) : n.log2 < k := by
 by_cases h0 : n = 0
 ·subst h0; simpa using hk
 ·exact (Nat.log2_lt h0).mpr h
theorem aD6 {i : Nat} (h : i < 1000000000000) : PN 0 12 (.int i) := by
 refine ⟨rfl, ?_, by simp [PyData.depth], ?_⟩
 ·simp only [PyData.showable, Int.natAbs_natCast, decide_eq_true_eq]
  exact Nat.lt_trans (log2_lt (k := 40) (Nat.lt_trans h (by decide)) (by decide)) (by decide)
 ·show (Str.ofString (toString (i : Int))).length <= 12
  exact toString_length_le (by omega) (by decide) (by omega)
theorem mZ {l : Nat} : ∀ {ds : List PyData}, (∀ d ∈ ds, d.shown.length <= l) -> ((PyData.shownAll ds).map (·.length)).sum + 2 * ds.length <= ds.length * (l + 2)
 | [], _ => by simp [PyData.shownAll]
 | d :: ds, h => by
  have h1 := h d (by simp)
  have h2 := mZ fun x hx => h x (List.mem_cons_of_mem _ hx)
  simp only [PyData.shownAll, List.map_cons, List.sum_cons, List.length_cons, Nat.add_mul]
  omega
theorem mY : ∀ {ds : List PyData}, (∀ d ∈ ds, d.showable = true) -> PyData.showableAll ds = true
 | [], _ => by simp [PyData.showableAll]
 | d :: ds, h => by
  simp only [PyData.showableAll, Bool.and_eq_true]
  exact ⟨h d (by simp), mY fun x hx => h x (by simp [hx])⟩
theorem aFm {n l : Nat} {ds : List PyData} (h : ∀ d ∈ ds, PN n l d) : PN (n + 1) (ds.length * (l + 2) + 3) (.tuple ds) := by
 have h1 := mZ fun d hd => (h d hd).ln
 have h2 := tupleText_len_le (PyData.shownAll ds)
 have h3 := PyData.shownAll_length ds
 have h4 := eK fun d hd => (h d hd).dp
 refine ⟨by simp only [PyData.canLay0]; exact dE fun d hd => (h d hd).lay, by simp only [PyData.showable]; exact mY fun d hd => (h d hd).sh, by simp only [PyData.depth]; omega, ?_⟩
 simp only [PyData.shown]
 omega
theorem aGO {n l : Nat} {ds : List PyData} (h : ∀ d ∈ ds, PN n l d) : PN (n + 1) (ds.length * (l + 2) + 3) (.list ds) := by
 have h1 := mZ fun d hd => (h d hd).ln
 have h2 := listText_len_le (PyData.shownAll ds)
 have h3 := PyData.shownAll_length ds
 have h4 := eK fun d hd => (h d hd).dp
 refine ⟨by simp only [PyData.canLay0]; exact dE fun d hd => (h d hd).lay, by simp only [PyData.showable]; exact mY fun d hd => (h d hd).sh, by simp only [PyData.depth]; omega, ?_⟩
 simp only [PyData.shown]
 omega
end PV
end
section
namespace PV
open PySem PySem.Spec PyProof.Rows L2
/-- the places of those that p takes -/
def aHU (p : Opr -> Bool) (ops : List Opr) : List Int := ops.zipIdx.filterMap fun q => if p q.1 = true then some (q.2 : Int) else none
def aF3 (ops : List Opr) : List (Int × Int) := (aHU Opr.Rr ops).flatMap fun s => (aHU Opr.L ops).map fun o => (s, o)
end PV
end
section
namespace PV
open PySem PySem.Spec PyProof.Rows L2
inductive Tr where
 | leaf (s : Str) | grp (t : Tr) | nd (n : Nat) (ts : List Tr)
 deriving Inhabited
mutual
def Tr.enc : Tr -> D
 | .leaf s => .str s
 | .grp t => .tup [.str "(", t.enc]
 | .nd n ts => .tup (.int n :: Tr.encs ts)
def Tr.encs : List Tr -> List D
 | [] => []
 | t :: ts => t.enc :: Tr.encs ts
end
theorem uQ : ∀ ts : List Tr, Tr.encs ts = ts.map Tr.enc
 | [] => rfl
 | t :: ts => by simp only [Tr.encs, List.map_cons, uQ ts]
theorem aDF {ts : List Tr} {t : Tr} : Tr.encs (ts ++ [t]) = Tr.encs ts ++ [t.enc] := by simp [uQ]
theorem aAr {ts : List Tr} : (Tr.encs ts).length = ts.length := by simp [uQ]
@[simp] theorem pX {t : Tr} : t.enc.isTl = false := by cases t <;> simp only [Tr.enc] <;> rfl
@[simp] theorem aKA {t : Tr} {h : Hh} : aT t.enc h = (t.enc, h) := qW pX
mutual
theorem Tr.lim {n : Nat} : ∀ t : Tr, t.enc.lim n = true
 | .leaf s => by simp only [Tr.enc, aCg]
 | .grp t => by simp only [Tr.enc, xT, nK, aCg, Tr.lim t, aAL, Bool.and_self]
 | .nd m ts => by simp only [Tr.enc, xT, nK, aGF, Tr.lims ts, Bool.and_self]
theorem Tr.lims {n : Nat} : ∀ ts : List Tr, D.lims n (Tr.encs ts) = true
 | [] => by simp only [Tr.encs, aAL]
 | t :: ts => by simp only [Tr.encs, nK, Tr.lim t, Tr.lims ts, Bool.and_self]
end
def Opr.holes (o : Opr) : Nat := o.words.length - 1 + (if o.L then 1 else 0) + (if o.Rr then 1 else 0)
theorem gP {o : Opr} (h : OprOk o) : o.holes <= 4 := by
 have := h.l3
 unfold Opr.holes
 split <;> split <;> omega
mutual
/-- a tree of these operators, its identifiers of p -/
def Tr.ok (ops : List Opr) (p : Str -> Prop) : Tr -> Prop
 | .leaf s => p s
 | .grp t => t.ok ops p
 | .nd n ts => (∃ o, ops[n]? = some o /\ ts.length = o.holes) /\ Tr.oks ops p ts
def Tr.oks (ops : List Opr) (p : Str -> Prop) : List Tr -> Prop
 | [] => True
 | t :: ts => t.ok ops p /\ Tr.oks ops p ts
end
theorem pH {ops : List Opr} {p : Str -> Prop} : ∀ {ts : List Tr}, Tr.oks ops p ts ↔ ∀ t ∈ ts, t.ok ops p
 | [] => by simp [Tr.oks]
 | t :: ts => by simp [Tr.oks, pH (ts := ts)]
theorem aFe {ops : List Opr} {p : Str -> Prop} {ts : List Tr} {t : Tr} (h : Tr.oks ops p ts) (ht : t.ok ops p) : Tr.oks ops p (ts ++ [t]) := by
 rw [pH] at h ⊢
 intro x hx
 rcases List.mem_append.mp hx with hx | hx
 ·exact h x hx
 ·have : x = t := by simpa using hx
  subst this; exact ht
mutual
def Tr.depth : Tr -> Nat
 | .leaf _ => 0
 | .grp t => t.depth + 1
 | .nd _ ts => Tr.depths ts + 1
def Tr.depths : List Tr -> Nat
 | [] => 0
 | t :: ts => max t.depth (Tr.depths ts)
end
theorem iR {n : Nat} : ∀ {ts : List Tr}, Tr.depths ts <= n ↔ ∀ t ∈ ts, t.depth <= n
 | [] => by simp [Tr.depths]
 | t :: ts => by
  have := iR (n := n) (ts := ts)
  simp only [Tr.depths, List.mem_cons, forall_eq_or_imp, <- this]
  omega
def hV : List Str := ["a", "b", "x1", "7", "abcdefgh"]
theorem aFX {i q c : Nat} {h e h' : Hh} {w : D} {ws : List D} (a : Ux [i, q] (h ++ e) h') (s : Sr h' i c) (eq : h'[q]? = some (.lst ws)) (lw : D.lims h.length ws = true) (lim : w.lim h.length = true) (hi : i < h.length) (hq : q < h.length) :
  ∃ h2, gcR h (.ok w h') = .ok w h2 /\ Up [i, q] h h2 /\ Sr h2 i c /\ h2[q]? = some (.lst ws) := by
 obtain ⟨h2, e1, u, hs⟩ := aAB a lim (fun j hj _ => by
  simp at hj
  rcases hj with rfl | rfl
  ·exact s.cell h.length
  ·exact ⟨_, eq, by simpa using lw⟩)
 refine ⟨h2, e1, u, ?_, (hs q hq).trans eq⟩
 obtain ⟨x, y, d, e2, h0, h1⟩ := s
 exact ⟨x, y, d, (hs i hi).trans e2, h0, h1⟩
/-- the data of operators -/
def Opr.py (o : Opr) : PyData := .tuple [.str o.kind, .tuple (o.words.map .str)]
theorem aHr {h : Hh} {n : Nat} {o : Opr} : toP h (n + 3) o.enc = some o.py := by
 show (aJ (toP h (n + 2)) [D.str o.kind, .tup (o.words.map .str)]).map PyData.tuple = _
 have : toP h (n + 2) (.tup (o.words.map .str)) = some (.tuple (o.words.map .str)) := by
  show (aJ (toP h (n + 1)) (o.words.map .str)).map PyData.tuple = _
  rw [aBt]; rfl
 have e2 : aJ (toP h (n + 2)) [D.str o.kind, .tup (o.words.map .str)] = some [.str o.kind, .tuple (o.words.map .str)] := iW (f := toP h (n + 2)) rfl (iW (f := toP h (n + 2)) this rfl)
 rw [e2]
 rfl
theorem aHs {h : Hh} {n : Nat} {ops : List Opr} : toP h (n + 4) (.tup (ops.map Opr.enc)) = some (.tuple (ops.map Opr.py)) := by
 show (aJ (toP h (n + 3)) (ops.map Opr.enc)).map PyData.tuple = _
 rw [gR (f := toP h (n + 3)) (g := Opr.enc) (k := Opr.py) fun o _ => aHr]
 rfl
theorem aDd {ops : List Opr} (hk : ∀ o ∈ ops, PyData.strOk o.kind = true /\ ∀ x ∈ o.words, PyData.strOk x = true) : SeqAt.shaped (.tuple (ops.map Opr.py)) = true := by
 refine wX (n := 2) (by omega) (fun d hd => ?_) fun d hd => ?_
 ·obtain ⟨o, ho, rfl⟩ := List.mem_map.mp hd
  obtain ⟨h1, h2⟩ := hk o ho
  simp only [Opr.py, PyData.canLay0, PyData.canLayAll0, h1, Bool.and_true, Bool.true_and]
  exact dE fun d hd => by
   obtain ⟨x, hx, rfl⟩ := List.mem_map.mp hd
   simp [PyData.canLay0, h2 x hx]
 ·obtain ⟨o, ho, rfl⟩ := List.mem_map.mp hd
  have : PyData.depthAll (o.words.map PyData.str) <= 0 := eK fun d hd => by
   obtain ⟨x, hx, rfl⟩ := List.mem_map.mp hd
   simp [PyData.depth]
  simp only [Opr.py, PyData.depth, PyData.depthAll]
  omega
theorem OpsOk.strs {ops : List Opr} (O : OpsOk ops) : ∀ o ∈ ops, PyData.strOk o.kind = true /\ ∀ x ∈ o.words, PyData.strOk x = true := fun o ho => ⟨qD _ (O.ok o ho).kd, fun x hx => aAV x ((O.ok o ho).w0 x hx)⟩
theorem aAs {h : Hh} {ops : List Opr} (O : OpsOk ops) : eqW (.tup (ops.map Opr.enc)) (.tup []) h = .ok (.bl ops.isEmpty) h := by
 have e1 : toP h bJ (.tup (ops.map Opr.enc)) = some (.tuple (ops.map Opr.py)) := aHs
 have e2 : toP h bJ (.tup []) = some (.tuple []) := rfl
 have s2 : SeqAt.shaped (.tuple []) = true := by decide +kernel
 have e3 : PyData.eqv (.tuple (ops.map Opr.py)) (.tuple []) = ops.isEmpty := by cases ops <;> simp [PyData.eqv, PyData.eqvAll]
 simp only [eqW, eqD, e1, e2, aDd O.strs, s2, Bool.and_self, if_true, e3]
end PV
end
section
namespace PV
open PySem PySem.Spec PyProof.Rows L2
/-- the next tree on a side (true: left), by its child's number -/
def nxt (ops : List Opr) (side : Bool) : Tr -> Option (Nat × Tr)
 | .nd n ts => match ops[n]? with
  | some o => if (if side then o.L else o.Rr) = true then (ts[if side then 0 else ts.length - 1]?).map fun t => (if side then 0 else ts.length - 1, t) else none
  | none => none
 | _ => none
theorem aDX {ts : List Tr} {t : Tr} {c : Nat} (h : ts[c]? = some t) : t.depth <= Tr.depths ts := (iR.mp (Nat.le_refl _)) t (List.mem_of_getElem? h)
theorem mS {ops : List Opr} {side : Bool} {t t' : Tr} {c : Nat} (h : nxt ops side t = some (c, t')) : ∃ n ts o, t = .nd n ts /\ ops[n]? = some o /\ (if side then o.L else o.Rr) = true /\ c = (if side then 0 else ts.length - 1) /\ ts[c]? = some t' := by
 cases t with
 | leaf s => cases h
 | grp t => cases h
 | nd n ts =>
  simp only [nxt] at h
  cases eo : ops[n]? with
  | none => rw [eo] at h; cases h
  | some o =>
   rw [eo] at h
   simp only at h
   by_cases hs : (if side then o.L else o.Rr) = true
   ·rw [if_pos hs] at h
    obtain ⟨x, hx, hp⟩ := Option.map_eq_some_iff.mp h
    cases hp
    exact ⟨n, ts, o, rfl, eo, hs, rfl, hx⟩
   ·rw [if_neg hs] at h; cases h
theorem yW {ops : List Opr} {side : Bool} {t t' : Tr} {c : Nat} (h : nxt ops side t = some (c, t')) : t'.depth < t.depth := by
 obtain ⟨n, ts, o, rfl, _, _, _, hc⟩ := mS h
 have := aDX hc
 simp only [Tr.depth]
 omega
/-- whether a node with an open hole -/
theorem aCZ {ops : List Opr} {p : Str -> Prop} {side : Bool} {n : Nat} {ts : List Tr} {o : Opr} (eo : ops[n]? = some o) (ok : (Tr.nd n ts).ok ops p) : (nxt ops side (.nd n ts)).isSome = (if side then o.L else o.Rr) := by
 obtain ⟨⟨o', eo', hl⟩, _⟩ := ok
 rw [eo] at eo'; cases eo'
 simp only [nxt]
 rw [eo]
 simp only
 by_cases hs : (if side then o.L else o.Rr) = true
 ·rw [if_pos hs, hs]
  have hpos : 0 < ts.length := by
   rw [hl]
   unfold Opr.holes
   cases side
   ·simp only [Bool.false_eq_true, if_false] at hs
    simp [hs]
   ·simp only [if_true] at hs
    simp [hs]
    omega
  cases side
  ·have : ts.length - 1 < ts.length := by omega
   simp [List.getElem?_eq_getElem this]
  ·simp [List.getElem?_eq_getElem hpos]
 ·rw [if_neg hs]
  simp only [Bool.not_eq_true] at hs
  rw [hs]
  rfl
def aAa (pl : List Int) : D := .tup (pl.map .int)
@[simp] theorem aES {pl : List Int} : (aAa pl).isTl = false := by unfold aAa; rfl
@[simp] theorem aL4 {pl : List Int} {h : Hh} : aT (aAa pl) h = (aAa pl, h) := qW aES
def Tr.isLeaf : Tr -> Bool
 | .leaf _ => true
 | _ => false
/-- what a call leaves of the caller's cells, its own apart -/
theorem Up.loc {is js : List Nat} {h e h' : Hh} (u : Up is (h ++ e) h') (hi : ∀ i ∈ is, i < h.length -> i ∈ js) : Ux js h h' := by
 have hl := u.len
 rw [List.length_append] at hl
 refine ⟨by omega, fun j hj hm => ?_⟩
 rw [u.same j fun z => hm (hi j z hj), List.getElem?_append_left hj]
theorem Ux.loc {is js : List Nat} {h e h' : Hh} (u : Ux is (h ++ e) h') (hi : ∀ i ∈ is, i < h.length -> i ∈ js) : Ux js h h' := by
 have hl := u.len
 rw [List.length_append] at hl
 refine ⟨by omega, fun j hj hm => ?_⟩
 rw [u.same j (by rw [List.length_append]; omega) fun z => hm (hi j z hj), List.getElem?_append_left hj]
end PV
end
section
namespace PV
open PySem PySem.Spec PyProof.Rows L2
end PV
end
section
namespace PV
open PySem PySem.Spec PyProof.Rows L2
/-- what a def that returns a list of its own leaves -/
def Ret (h : Hh) (ws : List D) (r : R D) : Prop := ∃ w h', r = .ok w h' /\ Ux [] h h' /\ (w = .tl ws \/ ∃ i, w = .ref i /\ h.length <= i /\ h'[i]? = some (.lst ws))
theorem Ret.tl {h : Hh} {ws : List D} : Ret h ws (.ok (.tl ws) h) := ⟨_, _, rfl, ⟨Nat.le_refl _, fun _ _ _ => rfl⟩, .inl rfl⟩
end PV
end
section
namespace PV
open PySem PySem.Spec PyProof.Rows L2
mutual
def Tr.nds : Tr -> Nat
 | .leaf _ => 0
 | .grp t => t.nds
 | .nd _ ts => Tr.ndss ts + 1
def Tr.ndss : List Tr -> Nat
 | [] => 0
 | t :: ts => t.nds + Tr.ndss ts
end
mutual
def Tr.grs : Tr -> Nat
 | .leaf _ => 0
 | .grp t => t.grs + 1
 | .nd _ ts => Tr.grss ts
def Tr.grss : List Tr -> Nat
 | [] => 0
 | t :: ts => t.grs + Tr.grss ts
end
theorem yV : ∀ {ts : List Tr} {t : Tr}, Tr.ndss (ts ++ [t]) = Tr.ndss ts + t.nds
 | [], t => by simp [Tr.ndss]
 | u :: ts, t => by simp only [List.cons_append, Tr.ndss, yV (ts := ts)]; omega
theorem yR : ∀ {ts : List Tr} {t : Tr}, Tr.grss (ts ++ [t]) = Tr.grss ts + t.grs
 | [], t => by simp [Tr.grss]
 | u :: ts, t => by simp only [List.cons_append, Tr.grss, yR (ts := ts)]; omega
theorem aCi : ∀ {ts : List Tr} {t : Tr}, t ∈ ts -> t.nds <= Tr.ndss ts
 | u :: ts, t, h => by
  simp only [Tr.ndss]
  rcases List.mem_cons.mp h with rfl | h
  ·omega
  ·have := aCi h; omega
theorem aB8 : ∀ {ts : List Tr} {t : Tr}, t ∈ ts -> t.grs <= Tr.grss ts
 | u :: ts, t, h => by
  simp only [Tr.grss]
  rcases List.mem_cons.mp h with rfl | h
  ·omega
  ·have := aB8 h; omega
/-- a tree drawn: at most a nodes, b groups -/
def Tr.okG (ops : List Opr) (a b : Nat) (t : Tr) : Prop := t.ok ops (fun s => s ∈ hV) /\ t.nds <= a /\ t.grs <= b
def Tr.sm (t : Tr) : Prop := t.nds <= 1000 /\ t.grs <= 1000
theorem Tr.sm.mem {n : Nat} {ts : List Tr} {t : Tr} (h : (Tr.nd n ts).sm) (ht : t ∈ ts) : t.sm := by
 have h1 := aCi ht
 have h2 := aB8 ht
 unfold Tr.sm at h ⊢
 simp only [Tr.nds, Tr.grs] at h
 omega
theorem Tr.sm.grp {t : Tr} (h : (Tr.grp t).sm) : t.sm := by
 unfold Tr.sm at h ⊢
 simp only [Tr.nds, Tr.grs] at h
 omega
def tE : List Str -> List (List Str) -> List Str
 | [], _ => []
 | w :: ws, [] => w :: tE ws []
 | w :: ws, p :: ps => w :: (p ++ tE ws ps)
def aF2 (o : Option Opr) (ps : List (List Str)) : List Str := match o with
 | some o => if o.L = true then ps.headD [] ++ tE o.words ps.tail else tE o.words ps
 | none => []
mutual
def Tr.toks (ops : List Opr) : Tr -> List Str
 | .leaf s => [s]
 | .grp t => ("(" : Str) :: (t.toks ops ++ [(")" : Str)])
 | .nd n ts => aF2 ops[n]? (Tr.toksL ops ts)
def Tr.toksL (ops : List Opr) : List Tr -> List (List Str)
 | [] => []
 | t :: ts => t.toks ops :: Tr.toksL ops ts
end
theorem zE {ops : List Opr} : ∀ ts : List Tr, Tr.toksL ops ts = ts.map (Tr.toks ops)
 | [] => rfl
 | t :: ts => by simp only [Tr.toksL, List.map_cons, zE ts]
mutual
def Tr.py : Tr -> PyData
 | .leaf s => .str s
 | .grp t => .tuple [.str "(", t.py]
 | .nd n ts => .tuple (.int n :: Tr.pys ts)
def Tr.pys : List Tr -> List PyData
 | [] => []
 | t :: ts => t.py :: Tr.pys ts
end
theorem aEZ : ∀ x ∈ hV, PyData.strOk x = true := by decide +kernel
theorem aDO : ∀ x ∈ hV, x.length <= 8 := by decide +kernel
/-- plain data: its depth, its weight -/
structure PS (n w : Nat) (d : PyData) : Prop where
 lay : d.canLay0 = true
 sh : d.showable = true
 lv : d.leavesShort 24 = true
 dp : d.depth <= n
 wt : d.weight <= w
theorem PS.mono {n w n' w' : Nat} {d : PyData} (p : PS n w d) (hn : n <= n') (hw : w <= w') : PS n' w' d := ⟨p.lay, p.sh, p.lv, Nat.le_trans p.dp hn, Nat.le_trans p.wt hw⟩
theorem PS.pn {n w : Nat} {d : PyData} (p : PS n w d) : PN n (26 * w + 24) d := by
 refine ⟨p.lay, p.sh, p.dp, ?_⟩
 have h1 := PyData.shown_le 24 (by decide) d p.lv
 have h2 := Nat.mul_le_mul_left 26 p.wt
 omega
theorem aD8 {x : Str} {w : Nat} (h : PyData.strOk x = true) (hw : x.length <= w) : PS 0 w (.str x) := by
 refine ⟨by simp [PyData.canLay0, h], rfl, ?_, by simp [PyData.depth], by simpa [PyData.weight, Str.length] using hw⟩
 simp only [PyData.leavesShort, List.all_eq_true, decide_eq_true_eq]
 intro c hc
 simp only [PyData.strOk, Array.all_eq_true'] at h
 have := h c (by simpa using hc)
 simp at this
 omega
theorem aIh {i : Nat} (h : i < 1000000) : PS 0 20 (.int i) := by
 have p := aD6 (i := i) (by omega)
 refine ⟨rfl, p.sh, ?_, by simp [PyData.depth], ?_⟩
 ·simp only [PyData.leavesShort, decide_eq_true_eq]
  have := p.ln
  omega
 ·simp only [PyData.weight]
  split
  ·omega
  ·rw [Int.natAbs_natCast]
   have := log2_lt (n := i) (k := 20) (by omega) (by decide)
   omega
/-- a tuple by its parts -/
theorem tN {n w1 w2 : Nat} {d : PyData} {ds : List PyData} (h1 : PS n w1 d) (h2 : PS (n + 1) w2 (.tuple ds)) : PS (n + 1) (w1 + 1 + w2) (.tuple (d :: ds)) := by
 have a1 := h1.dp
 have a2 := h2.dp
 have b1 := h1.wt
 have b2 := h2.wt
 have c1 := h2.lay
 have c2 := h2.sh
 have c3 := h2.lv
 simp only [PyData.depth, PyData.weight, PyData.canLay0, PyData.showable, PyData.leavesShort] at a2 b2 c1 c2 c3
 refine ⟨?_, ?_, ?_, ?_, ?_⟩
 ·simp [PyData.canLay0, PyData.canLayAll0, h1.lay, c1]
 ·simp [PyData.showable, PyData.showableAll, h1.sh, c2]
 ·simp [PyData.leavesShort, PyData.leavesShortAll, h1.lv, c3]
 ·simp only [PyData.depth, PyData.depthAll]; omega
 ·simp only [PyData.weight, PyData.weightAll]; omega
theorem aD7 {n : Nat} : PS (n + 1) 0 (.tuple []) := ⟨rfl, rfl, rfl, by simp [PyData.depth, PyData.depthAll], by simp [PyData.weight, PyData.weightAll]⟩
mutual
theorem aAd {ops : List Opr} (O : OpsOk ops) (hol : ops.length <= 1000) : ∀ (t : Tr) (n : Nat), t.ok ops (fun s => s ∈ hV) -> t.depth <= n -> PS n (9 + 60 * t.nds + 3 * t.grs) t.py
 | .leaf s, n, h, _ => (aD8 (aEZ s h) (Nat.le_trans (aDO s h) (by omega : 8 <= 9 + 60 * (Tr.leaf s).nds + 3 * (Tr.leaf s).grs))).mono (by omega) (by omega)
 | .grp t, 0, h, hd => by simp only [Tr.depth] at hd; omega
 | .grp t, n + 1, h, hd => by
  simp only [Tr.depth] at hd
  have h1 := aAd O hol t n h (by omega)
  have h2 : PS n 1 (.str "(") := (aD8 (w := 1) (by decide +kernel) (by decide +kernel)).mono (by omega) (by omega)
  exact (tN h2 (tN h1 aD7)).mono (by omega) (by simp only [Tr.nds, Tr.grs]; omega)
 | .nd k ts, 0, h, hd => by simp only [Tr.depth] at hd; omega
 | .nd k ts, n + 1, h, hd => by
  simp only [Tr.depth] at hd
  obtain ⟨⟨o, eo, hl⟩, hs⟩ := h
  have h1 := ps_trs O hol ts n hs (by omega)
  have hk := aE eo
  have h2 : PS n 20 (.int k) := (aIh (by omega)).mono (by omega) (by omega)
  have h4 := gP (O.ok o (List.mem_of_getElem? eo))
  exact (tN h2 h1).mono (by omega) (by simp only [Tr.nds, Tr.grs]; omega)
theorem ps_trs {ops : List Opr} (O : OpsOk ops) (hol : ops.length <= 1000) : ∀ (ts : List Tr) (n : Nat), Tr.oks ops (fun s => s ∈ hV) ts -> Tr.depths ts <= n -> PS (n + 1) (10 * ts.length + 60 * Tr.ndss ts + 3 * Tr.grss ts) (.tuple (Tr.pys ts))
 | [], n, _, _ => (aD7 (n := n)).mono (by omega) (by omega)
 | t :: ts, n, h, hd => by
  simp only [Tr.depths] at hd
  exact (tN (aAd O hol t n h.1 (by omega)) (ps_trs O hol ts n h.2 (by omega))).mono (by omega) (by simp only [Tr.ndss, Tr.grss, List.length_cons]; omega)
end
end PV
end
section
namespace PV
open PySem PySem.Spec PyProof.Rows L2
end PV
end
section
namespace PV
open PySem PySem.Spec PyProof.Rows L2
/-- a value whose type is known -/
def Ty (h : Hh) : D -> Prop
 | .non => True
 | .bl _ => True
 | .int _ => True
 | .tup _ => True
 | .str x => x.length <= 1000 /\ PyData.strOk x = true
 | .ref j => (∃ ws, h[j]? = some (.lst ws)) \/ ∃ kvs, h[j]? = some (.dK kvs)
 | _ => False
theorem Ty.ux {is : List Nat} {h h' : Hh} {w : D} (t : Ty h w) (u : Ux is h h') (hn : ∀ i, w = .ref i -> i ∉ is) : Ty h' w := by
 cases w <;> first
  | exact t
  | (rename_i j
     rcases t with ⟨ws, e⟩ | ⟨kvs, e⟩
     ·exact .inl ⟨ws, u.get e (hn j rfl)⟩
     ·exact .inr ⟨kvs, u.get e (hn j rfl)⟩)
/-- nested at most n bJ; its lists are none of the cells bad -/
def Nv (bad : List Nat) (h : Hh) : Nat -> D -> Prop
 | 0, _ => False
 | n + 1, w => match w with
  | .non => True
  | .bl _ => True
  | .int i => ∃ k : Nat, i = k /\ k < 1000
  | .str x => PyData.strOk x = true /\ x.length <= 20
  | .tup ws => ws.length <= 8 /\ ∀ x ∈ ws, Nv bad h n x
  | .ref j => j ∉ bad /\ ∃ ws, h[j]? = some (.lst ws) /\ ws.length <= 8 /\ ∀ x ∈ ws, Nv bad h n x
  | _ => False
theorem Nv.ux {bad is : List Nat} {h h' : Hh} (u : Ux is h h') (hs : ∀ i ∈ is, i < h.length -> i ∈ bad) : ∀ {n : Nat} {w : D}, Nv bad h n w -> Nv bad h' n w
 | 0, w, v => v
 | n + 1, w, v => by
  cases w <;> first
   | exact v
   | (rename_i ws
      exact ⟨v.1, fun x hx => Nv.ux u hs (v.2 x hx)⟩)
   | (rename_i j
      obtain ⟨hj, ws, e, hl, ha⟩ := v
      exact ⟨hj, ws, u.get e fun z => hj (hs j z (aE e)), hl, fun x hx => Nv.ux u hs (ha x hx)⟩)
theorem Nv.mono {bad bad' : List Nat} {h : Hh} (hs : ∀ i ∈ bad', i ∈ bad) : ∀ {n : Nat} {w : D}, Nv bad h n w -> Nv bad' h n w
 | 0, w, v => v
 | n + 1, w, v => by
  cases w <;> first
   | exact v
   | (rename_i ws
      exact ⟨v.1, fun x hx => Nv.mono hs (v.2 x hx)⟩)
   | (rename_i j
      obtain ⟨hj, ws, e, hl, ha⟩ := v
      exact ⟨fun z => hj (hs j z), ws, e, hl, fun x hx => Nv.mono hs (ha x hx)⟩)
theorem Nv.up {bad : List Nat} {h : Hh} : ∀ {n : Nat} {w : D}, Nv bad h n w -> Nv bad h (n + 1) w
 | 0, w, v => v.elim
 | n + 1, w, v => by
  cases w <;> first
   | exact v
   | (rename_i ws
      exact ⟨v.1, fun x hx => Nv.up (v.2 x hx)⟩)
   | (rename_i j
      obtain ⟨hj, ws, e, hl, ha⟩ := v
      exact ⟨hj, ws, e, hl, fun x hx => Nv.up (ha x hx)⟩)
theorem Nv.ty {bad : List Nat} {h : Hh} {n : Nat} {w : D} (v : Nv bad h n w) : Ty h w := by
 cases n with
 | zero => exact v.elim
 | succ n =>
  cases w <;> first
   | trivial
   | exact ⟨by have := v.2; omega, v.1⟩
   | exact v.elim
   | (obtain ⟨_, ws, e, _⟩ := v; exact .inl ⟨ws, e⟩)
theorem Nv.tup {bad : List Nat} {h : Hh} {n : Nat} {ws : List D} (v : Nv bad h (n + 1) (.tup ws)) : ws.length <= 8 /\ ∀ x ∈ ws, Nv bad h n x := v
theorem Nv.lim {bad : List Nat} {h : Hh} : ∀ {n : Nat} {w : D}, Nv bad h n w -> D.lim h.length w = true
 | 0, w, v => v.elim
 | n + 1, w, v => by
  cases w <;> first
   | rfl
   | exact v.elim
   | (rw [xT]; exact qF fun x hx => Nv.lim (v.2 x hx))
   | (obtain ⟨_, ws, e, _⟩ := v; rw [aGG]; exact decide_eq_true (aE e))
theorem Nv.isTl {bad : List Nat} {h : Hh} {n : Nat} {w : D} (v : Nv bad h n w) : w.isTl = false := by
 cases n with
 | zero => exact v.elim
 | succ n => cases w <;> first | rfl | exact v.elim
end PV
end
section
namespace PV
open PySem PySem.Spec PyProof.Rows L2
/-- the values of a law: plain ones, and the empty dict -/
def Vg (bad : List Nat) (h : Hh) (w : D) : Prop := Nv bad h 5 w \/ ∃ j, w = .ref j /\ j ∉ bad /\ h[j]? = some (.dK [])
theorem Vg.ux {bad is : List Nat} {h h' : Hh} {w : D} (v : Vg bad h w) (u : Ux is h h') (hs : ∀ i ∈ is, i < h.length -> i ∈ bad) : Vg bad h' w := by
 rcases v with v | ⟨j, rfl, hj, e⟩
 ·exact .inl (v.ux u hs)
 ·exact .inr ⟨j, rfl, hj, u.get e fun z => hj (hs j z (aE e))⟩
theorem Vg.isTl {bad : List Nat} {h : Hh} {w : D} (v : Vg bad h w) : w.isTl = false := by
 rcases v with v | ⟨j, rfl, hj, e⟩
 ·exact v.isTl
 ·rfl
end PV
end
section
namespace PV
open PySem PySem.Spec PyProof.Rows L2
mutual
theorem aE4 {n m : Nat} (hn : n <= m) : ∀ {w : D}, D.lim n w = true -> D.lim m w = true
 | .non, _ => rfl
 | .bl _, _ => rfl
 | .int _, _ => rfl
 | .str _, _ => rfl
 | .ty _, _ => rfl
 | .fn _, _ => rfl
 | .cls _, _ => rfl
 | .ref i, h => by simp only [D.lim, decide_eq_true_eq] at h ⊢; omega
 | .tup ws, h => by simp only [D.lim] at h ⊢; exact lims_mono hn h
 | .kt ws, h => by simp only [D.lim] at h ⊢; exact lims_mono hn h
 | .tl ws, h => by simp only [D.lim] at h ⊢; exact lims_mono hn h
 | .fl ws, h => by simp only [D.lim] at h ⊢; exact lims_mono hn h
 | .xc _ _ ws, h => by simp only [D.lim] at h ⊢; exact lims_mono hn h
theorem lims_mono {n m : Nat} (hn : n <= m) : ∀ {ws : List D}, D.lims n ws = true -> D.lims m ws = true
 | [], _ => rfl
 | w :: ws, h => by
  simp only [D.lims, Bool.and_eq_true] at h ⊢
  exact ⟨aE4 hn h.1, lims_mono hn h.2⟩
end
@[simp] theorem aLw {b : MS} {hs : List Hdl} {σ : Sg} {h : Hh} : qL b hs σ h = match b σ h with
 | .exc c fs σ1 h1 => if 100 <= c then gS hs c fs σ1 h1 else .bad
 | r => r := by rfl
@[simp] theorem aLt {c : Nat} {fs : List (Str × D)} {σ : Sg} {h : Hh} : gS [] c fs σ h = .exc c fs σ h := id rfl
@[simp] theorem aMq {L : List Nat} {i : Nat} {ms : MS} {r : List Hdl} {c : Nat} {fs : List (Str × D)} {σ : Sg} {h : Hh} : gS ((L, some i, ms) :: r) c fs σ h = if L.contains c = true then (ms (σ.set i (some (sS c fs))) h).unset i else gS r c fs σ h := id rfl
@[simp] theorem aMr {L : List Nat} {ms : MS} {r : List Hdl} {c : Nat} {fs : List (Str × D)} {σ : Sg} {h : Hh} : gS ((L, none, ms) :: r) c fs σ h = if L.contains c = true then (ms σ h).noexc else gS r c fs σ h := id rfl
@[simp] theorem aMd {i : Nat} {σ : Sg} {h : Hh} : (RT.nx σ h).unset i = .nx (σ.set i none) h := id rfl
@[simp] theorem aK6 {i : Nat} {w : D} {h : Hh} : (RT.ret w h).unset i = .ret w h := id rfl
@[simp] theorem aLx {σ : Sg} {h : Hh} : (RT.nx σ h).noexc = .nx σ h := id rfl
@[simp] theorem aKN {w : D} {h : Hh} : (RT.ret w h).noexc = .ret w h := id rfl
@[simp] theorem aMO {c : Nat} {fs : List (Str × D)} : sS c fs = .xc c (fs.map (·.1)) (fs.map (·.2)) := id rfl
@[simp] theorem aL7 {c : Nat} {ks : List Str} {ws : List D} {h : Hh} : aT (.xc c ks ws) h = (.xc c ks ws, h) := id rfl
@[simp] theorem aKV {c : Nat} {h : Hh} : aT (.cls c) h = (.cls c, h) := id rfl
@[simp] theorem aL6 {c : String} {h : Hh} : aT (.ty c) h = (.ty c, h) := id rfl
@[simp] theorem aLk {a b : M D} {σ : Sg} {h : Hh} : aJM a b σ h = (a σ h).bind fun x h1 => match x with
 | .bl true => b σ h1
 | .bl false => .ok (.bl false) h1
 | _ => .bad := id rfl
@[simp] theorem aMo {a b : M D} {σ : Sg} {h : Hh} : aLp a b σ h = (a σ h).bind fun x h1 => match x with
 | .bl true => .ok (.bl true) h1
 | .bl false => b σ h1
 | _ => .bad := id rfl
@[simp] theorem aMX {n c : Nat} {ks : List Str} {ws : List D} : D.lim n (.xc c ks ws) = D.lims n ws := by simp only [D.lim]
@[simp] theorem aJT {c : Nat} {ks : List Str} {ma : M (List D)} {σ : Sg} {h : Hh} : pC c ks ma σ h = (ma σ h).then σ fun ws h1 => if ws.length = ks.length then .exc c ((ks.zip ws).reverse) σ h1 else .bad := id rfl
@[simp] theorem aLB {c : Nat} {fs : List (Str × D)} {σ : Sg} {h : Hh} : fF (.exc c fs σ h) = .exc c fs h := id rfl
@[simp] theorem aLf {κ : Type} {n : Nat} : gL (κ := κ) n [] = true := id rfl
@[simp] theorem aKI {κ : Type} {n : Nat} {p : κ × D} {ps : List (κ × D)} : gL n (p :: ps) = (D.lim n p.2 && gL n ps) := id rfl
theorem aGu {h h' : Hh} {c : Nat} {fs : List (Str × D)} (a : Ux [] h h') (lim : gL h.length fs = true) : gcR h (.exc c fs h') = .exc c fs h := by
 have e : hJ h.length h h' = true := tD a.len fun j c hj e => .inl (by rw [<- e]; exact (a.same j hj (by simp)).symm)
 simp only [gcR, gcX, e, lim, and_self, if_true]
 congr 1
 apply List.ext_getElem?
 intro j
 rcases Nat.lt_or_ge j h.length with hj | hj
 ·rw [List.getElem?_take_of_lt hj]; exact a.same j hj (by simp)
 ·rw [List.getElem?_eq_none hj, List.getElem?_eq_none (by simp; omega)]
@[simp] theorem aJm {h e : Hh} {c : Nat} {fs : List (Str × D)} (lim : gL h.length fs = true) : gcR h (.exc c fs (h ++ e)) = .exc c fs h := aGu .app lim
@[simp] theorem aMg {f : Str} {c : Nat} {ks : List Str} {ws : List D} {h : Hh} : rN f (.xc c ks ws) h = if 100 <= c then match (ks.zip ws).lookup f with
   | some w => .ok w h
   | none => .bad
  else .bad := id rfl
@[simp] theorem aLm {f : Str} {m : M D} {σ : Sg} {h : Hh} : tH f m σ h = (m σ h).bind (rN f) := id rfl
end PV
end
section
namespace PV
open PySem PySem.Spec PyProof.Rows L2
@[simp] theorem aLn {cl : Cll} {mt : Nat -> Option Nat} {m : Str} {mo : M D} {ms : M (List D)} {σ : Sg} {h : Hh} : aJP cl mt m mo ms σ h = gcR h ((mo σ h).bind fun x h1 => match x with
 | .ref i => match h1[i]? with
  | some (.ins c fs) => match mt c with
   | some f => if c < 100 /\ fs.lookup m = none then (ms σ h1).bind fun ws h2 => cl f (.ref i :: ws) h2 else .bad
   | none => .bad
  | _ => .bad
 | _ => .bad) := id rfl
@[simp] theorem aLs {f : Str} {mo me : M D} {σ : Sg} {h : Hh} : aJS f mo me σ h = (mSt me σ h).then σ fun w h1 => (mo σ h1).then σ fun x h2 => match aGe f x w h2 with
 | some h3 => .nx σ h3
 | none => .bad := id rfl
end PV
end
section
namespace PV
open PySem PySem.Spec PyProof.Rows L2
/-- an entry -/
structure Ent where
 s : Int
 o : Int
 e : Str
def Ent.enc (x : Ent) : D := .tup [.int x.s, .int x.o, .str x.e]
def kOf (s o : Int) : List Key := [.inl s, .inl o]
/-- the entry of a pair -/
def aHJ (es : List Ent) (s o : Int) : Str := match es.find? fun x => decide (x.s = s /\ x.o = o) with
 | some x => x.e
 | none => "error"
def tf3 (od ed : D) (j : Nat) : List (Str × D) := [(("operators" : Str), od), ("entries", ed), ("entry_by_pair", .ref j)]
/-- the table at k of the heap: where its dict stands -/
structure TabAt (h : Hh) (k : Nat) (ops : List Opr) (es : List Ent) (j : Nat) (kvs : List (List Key × D)) : Prop where
 at_ : h[k]? = some (.ins 0 (tf3 (.tup (ops.map Opr.enc)) (.tup (es.map Ent.enc)) j))
 dic : h[j]? = some (.dT kvs)
 get : ∀ s o, fN kvs (kOf s o) = if (s, o) ∈ aF3 ops then some (.str (aHJ es s o)) else none
theorem TabAt.ux {is : List Nat} {h h' : Hh} {k j : Nat} {ops : List Opr} {es : List Ent} {kvs : List (List Key × D)} (t : TabAt h k ops es j kvs) (u : Ux is h h') (hk : k ∉ is) (hj : j ∉ is) : TabAt h' k ops es j kvs := ⟨u.get t.at_ hk, u.get t.dic hj, t.get⟩
end PV
end
section
namespace PV
open PySem PySem.Spec PyProof.Rows L2
/-- the nodes on a side -/
def lG (ops : List Opr) (side : Bool) : Nat -> Tr -> List Tr
 | 0, _ => []
 | f + 1, t => match nxt ops side t with
  | some (_, t') => t :: lG ops side f t'
  | none => []
theorem kR {ops : List Opr} {side : Bool} {f : Nat} {t : Tr} (h : nxt ops side t = none) : lG ops side f t = [] := by
 cases f with
 | zero => rfl
 | succ f => simp only [lG, h]
theorem sF {ops : List Opr} {side : Bool} {f c : Nat} {t t' : Tr} (h : nxt ops side t = some (c, t')) : lG ops side (f + 1) t = t :: lG ops side f t' := by simp only [lG, h]
theorem aEt {ops : List Opr} {side : Bool} : ∀ {f g : Nat} {t : Tr}, t.depth <= f -> t.depth <= g -> lG ops side f t = lG ops side g t := by
 intro f
 induction f with
 | zero =>
  intro g t hf hg
  cases e : nxt ops side t with
  | none => rw [kR e, kR e]
  | some q => obtain ⟨c, t'⟩ := q; have := yW e; omega
 | succ f ih =>
  intro g t hf hg
  cases e : nxt ops side t with
  | none => rw [kR e, kR e]
  | some q =>
   obtain ⟨c, t'⟩ := q
   have := yW e
   cases g with
   | zero => omega
   | succ g => rw [sF e, sF e, ih (g := g) (by omega) (by omega)]
def Tr.num : Tr -> Nat
 | .nd n _ => n
 | _ => 0
def kid : Tr -> Int -> Option Tr
 | .leaf _, _ => none
 | .grp t, c => if c = 0 then some t else none
 | .nd _ ts, c => if 0 <= c then ts[c.toNat]? else none
def sub : Tr -> List Int -> Option Tr
 | t, [] => some t
 | t, c :: pl => (kid t c).bind fun t' => sub t' pl
/-- whether the entries with the facing nodes let a node stand -/
def aAO (ops : List Opr) (ent : Int -> Int -> Str) (t : Tr) : Bool :=
 (match nxt ops false t with
  | some (_, r) => (lG ops true r.depth r).all fun x => decide (ent t.num x.num = "shift")
  | none => true) &&
 (match nxt ops true t with
  | some (_, l) => (lG ops false l.depth l).all fun x => decide (ent x.num t.num = "reduce")
  | none => true)
mutual
def lM (ops : List Opr) (ent : Int -> Int -> Str) : Tr -> Bool
 | .leaf _ => true
 | .grp t => lM ops ent t
 | .nd n ts => aAO ops ent (.nd n ts) && fitsTs ops ent ts
def fitsTs (ops : List Opr) (ent : Int -> Int -> Str) : List Tr -> Bool
 | [] => true
 | t :: ts => lM ops ent t && fitsTs ops ent ts
end
theorem wA {ops : List Opr} {ent : Int -> Int -> Str} : ∀ {ts : List Tr}, fitsTs ops ent ts = ts.all (lM ops ent)
 | [] => rfl
 | t :: ts => by simp only [fitsTs, List.all_cons, wA]
end PV
end
section
namespace PV
open PySem PySem.Spec PyProof.Rows L2
def Ent.key (x : Ent) : Int × Int := (x.s, x.o)
end PV
end
section
namespace PV
open PySem PySem.Spec PyProof.Rows L2
/-- a dict that holds the entry of each pair -/
def aEH (h : Hh) (j : Nat) (ops : List Opr) (es : List Ent) : Prop := ∃ kvs, h[j]? = some (.dT kvs) /\ ∀ s o, fN kvs (kOf s o) = if (s, o) ∈ aF3 ops then some (.str (aHJ es s o)) else none
theorem aEH.ux {is : List Nat} {h h' : Hh} {j : Nat} {ops : List Opr} {es : List Ent} (d : aEH h j ops es) (u : Ux is h h') (hj : j ∉ is) : aEH h' j ops es := by
 obtain ⟨kvs, e, hg⟩ := d
 exact ⟨kvs, u.get e hj, hg⟩
/-- entries with increased numbers -/
def Ent.up (n : Nat) (x : Ent) : Ent := ⟨x.s + n, x.o + n, x.e⟩
/-- operators of one word each -/
structure Named (ops : List Opr) (ws : List Str) : Prop where
 kd : ∀ o ∈ ops, o.kind ∈ kinds /\ o.kind ≠ "closed"
 wd : ops.map Opr.words = ws.map fun w => [w]
theorem Named.app {a b : List Opr} {ws us : List Str} (h1 : Named a ws) (h2 : Named b us) : Named (a ++ b) (ws ++ us) := ⟨fun o ho => by
 rcases List.mem_append.mp ho with ho | ho
 ·exact h1.kd o ho
 ·exact h2.kd o ho, by rw [List.map_append, List.map_append, h1.wd, h2.wd]⟩
end PV
end
section
namespace PV
open PySem PySem.Spec PyProof.Rows L2
/-- an unfinished operator, or an open group -/
structure Uf where
 num : Option Nat
 parts : List Tr
 later : List Str
def Uf.bd (f : Uf) : Bool := f.num.isNone || !f.later.isEmpty
def Uf.nm (f : Uf) : Nat := f.num.getD 0
inductive RErr where
 | missing (p : Nat) | unexp (p : Nat) | uncl (p : Nat) | entry (p s o : Nat)
def aH9 (ops : List Opr) (b : Bool) (w : Str) : Option Nat := ops.findIdx? fun o => decide (o.L = b) && decide (o.words.head? = some w)
/-- the last child -/
theorem aFc {ops : List Opr} {n c : Nat} {ts : List Tr} {r : Tr} (h : nxt ops false (.nd n ts) = some (c, r)) : ts.dropLast ++ [r] = ts := by
 obtain ⟨n', ts', o, h1, _, _, hc, he⟩ := mS h
 cases h1
 simp only [Bool.false_eq_true, if_false] at hc
 have hlt := aE he
 have hne : ts ≠ [] := fun z => by rw [z] at hlt; simp at hlt
 have : ts.getLast hne = r := by
  rw [List.getLast_eq_getElem]
  rw [List.getElem?_eq_getElem hlt] at he
  have h2 : ts.length - 1 = c := hc.symm
  simp only [h2]
  exact Option.some.inj he
 rw [<- this]
 exact List.dropLast_concat_getLast hne
end PV
end
section
namespace PV
open PySem PySem.Spec PyProof.Rows L2
end PV
end
section
namespace PV
open PySem PySem.Spec PyProof.Rows L2
end PV
end
section
namespace PV
open PySem PySem.Spec PyProof.Rows L2
section
variable (ops : List Opr) (ent : Int -> Int -> Str) (p : Str -> Prop)
def lsp (t : Tr) : List Tr := lG ops true t.depth t
def rsp (t : Tr) : List Tr := lG ops false t.depth t
/-- the tokens so far of an operator: its left part, its words with its other parts -/
def ftk (o : Opr) (parts : List Tr) (used : List Str) : List Str :=
 if o.L = true then (match parts with | [] => [] | l :: qs => l.toks ops ++ tE used (qs.map (Tr.toks ops))) else tE used (parts.map (Tr.toks ops))
/-- the numbers on its left side -/
def fls (o : Opr) (n : Nat) (parts : List Tr) : List Nat :=
 if o.L = true then n :: (match parts with | [] => [] | l :: _ => (lsp ops l).map Tr.num) else []
/-- an unfinished operator, with the words that were used -/
structure FOk (n : Nat) (parts : List Tr) (later : List Str) (o : Opr) (used : List Str) : Prop where
 eo : ops[n]? = some o
 wd : o.words = used ++ later
 ln : parts.length + 1 = used.length + (if o.L = true then 1 else 0)
 ne : 1 <= used.length
 ok : ∀ q ∈ parts, q.ok ops p /\ lM ops ent q = true
 lf : o.L = true -> ∀ l, parts.head? = some l -> ∀ x ∈ rsp ops l, ent x.num n = "reduce"
end
section
variable {ops : List Opr} {ent : Int -> Int -> Str} {p : Str -> Prop}
/-- a node of such parts -/
theorem aGJ {n : Nat} {o : Opr} {ts : List Tr} (eo : ops[n]? = some o) (hl : ts.length = o.holes) (hok : ∀ q ∈ ts, q.ok ops p /\ lM ops ent q = true) (lf : o.L = true -> ∀ l, ts.head? = some l -> ∀ x ∈ rsp ops l, ent x.num n = "reduce") (rf : o.Rr = true -> ∀ r, ts.getLast? = some r -> ∀ x ∈ lsp ops r, ent n x.num = "shift") :
  (Tr.nd n ts).ok ops p /\ lM ops ent (.nd n ts) = true /\ (lsp ops (.nd n ts)).map Tr.num = fls ops o n ts := by
 have ok : (Tr.nd n ts).ok ops p := ⟨⟨o, eo, hl⟩, pH.mpr fun q hq => (hok q hq).1⟩
 have hdl : (Tr.nd n ts).depth = Tr.depths ts + 1 := by simp only [Tr.depth]
 refine ⟨ok, ?_, ?_⟩
 ·rw [lM, Bool.and_eq_true, wA, List.all_eq_true]
  refine ⟨?_, fun q hq => (hok q hq).2⟩
  unfold aAO
  rw [Bool.and_eq_true]
  constructor
  ·cases e : nxt ops false (.nd n ts) with
   | none => rfl
   | some q =>
    obtain ⟨c, r⟩ := q
    obtain ⟨n', ts', o', h1, h2, h3, hc, h4⟩ := mS e
    cases h1
    rw [eo] at h2; cases h2
    have hts := aFc e
    have hlast : ts.getLast? = some r := by rw [<- hts]; simp
    simp only [List.all_eq_true, decide_eq_true_eq]
    exact fun x hx => rf (by simpa using h3) r hlast x hx
  ·cases e : nxt ops true (.nd n ts) with
   | none => rfl
   | some q =>
    obtain ⟨c, l⟩ := q
    obtain ⟨n', ts', o', h1, h2, h3, hc, h4⟩ := mS e
    cases h1
    rw [eo] at h2; cases h2
    simp only [if_true] at hc
    subst hc
    have hh : ts.head? = some l := by rw [List.head?_eq_getElem?]; exact h4
    simp only [List.all_eq_true, decide_eq_true_eq]
    exact fun x hx => lf (by simpa using h3) l hh x hx
 ·unfold lsp fls
  rw [hdl]
  cases hL : o.L with
  | false =>
   have : nxt ops true (.nd n ts) = none := by simp [nxt, eo, hL]
   rw [kR this]; rfl
  | true =>
   have hs := aCZ (side := true) eo ok
   simp only [if_true, hL] at hs
   obtain ⟨⟨c, l⟩, e⟩ := Option.isSome_iff_exists.mp hs
   obtain ⟨n', ts', o', h1, h2, h3, hc, h4⟩ := mS e
   cases h1
   simp only [if_true] at hc
   subst hc
   cases ts with
   | nil => simp at h4
   | cons l' qs =>
    have : l' = l := by simpa using h4
    subst this
    have hld : l'.depth <= Tr.depths (l' :: qs) := iR.mp (Nat.le_refl _) l' (by simp)
    rw [sF e, aEt (f := Tr.depths (l' :: qs)) (g := l'.depth) hld (Nat.le_refl _)]
    rfl
/-- tokens of the whole -/
theorem aHt {n : Nat} {o : Opr} {ts : List Tr} (eo : ops[n]? = some o) (hL : o.L = true -> ts ≠ []) : (Tr.nd n ts).toks ops = ftk ops o ts o.words := by
 simp only [Tr.toks, aF2, eo, ftk, zE]
 cases h : o.L with
 | false => simp
 | true =>
  cases ts with
  | nil => exact absurd rfl (hL h)
  | cons l qs => simp
theorem aDN {α : Type} {l : List α} {x : α} (h : l ≠ []) : (l ++ [x]).head? = l.head? := by
 cases l with
 | nil => exact absurd rfl h
 | cons a l => rfl
theorem FOk.pne {n : Nat} {o : Opr} {parts : List Tr} {used : List Str} {later : List Str} (F : FOk ops ent p n parts later o used) : o.L = true -> parts ≠ [] := fun h z => by
 have ln := F.ln
 have := F.ne
 rw [h, z] at ln
 simp only [List.length_nil, if_true] at ln; omega
/-- all words used, no right hole -/
theorem FOk.done {n : Nat} {o : Opr} {parts : List Tr} {used : List Str} (F : FOk ops ent p n parts [] o used) (hR : o.Rr = false) :
  (Tr.nd n parts).ok ops p /\ lM ops ent (.nd n parts) = true /\ (lsp ops (.nd n parts)).map Tr.num = fls ops o n parts /\ (Tr.nd n parts).toks ops = ftk ops o parts used := by
 have hw : o.words = used := by rw [F.wd, List.append_nil]
 have hl : parts.length = o.holes := by
  have := F.ln
  have := F.ne
  unfold Opr.holes
  rw [hw, hR]
  simp only [Bool.false_eq_true, if_false]
  omega
 obtain ⟨h1, h2, h3⟩ := aGJ (ts := parts) (p := p) (ent := ent) F.eo hl F.ok F.lf (fun h => by rw [hR] at h; cases h)
 exact ⟨h1, h2, h3, by rw [aHt F.eo F.pne, hw]⟩
/-- the next word, behind a closed hole -/
theorem FOk.next {n : Nat} {o : Opr} {parts : List Tr} {used later : List Str} {w : Str} {x : Tr} (F : FOk ops ent p n parts (w :: later) o used) (xo : x.ok ops p) (xf : lM ops ent x = true) : FOk ops ent p n (parts ++ [x]) later o (used ++ [w]) := by
 refine ⟨F.eo, by rw [F.wd]; simp, ?_, by simp, fun q hq => ?_, fun hL l hh => F.lf hL l (by rwa [aDN (F.pne hL)] at hh)⟩
 ·have := F.ln
  simp only [List.length_append, List.length_cons, List.length_nil]
  omega
 ·rcases List.mem_append.mp hq with hq | hq
  ·exact F.ok q hq
  ·have : q = x := by simpa using hq
   subst this; exact ⟨xo, xf⟩
end
end PV
end
section
namespace PV
open PySem PySem.Spec PyProof.Rows L2
end PV
end
section
namespace PV
open PySem PySem.Spec PyProof.Rows L2
end PV
end
section
namespace PV
open PySem PySem.Spec PyProof.Rows L2
/-- from the innermost boundary on -/
def bs (st : List Uf) : List Uf := st.dropWhile fun f => !f.bd
end PV
end
section
namespace PV
open PySem PySem.Spec PyProof.Rows L2
end PV
end
section
namespace PV
open PySem PySem.Spec PyProof.Rows L2
theorem aCV {ops ops' : List Opr} (h : ops'.Sublist ops) : (dS ops').Sublist (dS ops) := by
 unfold dS
 induction h with
 | slnil => exact List.Sublist.refl _
 | cons a _ ih => simp only [List.flatMap_cons]; exact ih.trans (List.sublist_append_right _ _)
 | cons_cons a _ ih => simp only [List.flatMap_cons]; exact (List.Sublist.refl _).append ih
theorem OpsOk.sub {ops ops' : List Opr} (O : OpsOk ops) (h : ops'.Sublist ops) : OpsOk ops' := by
 have hf : ∀ b, (dD b ops').Sublist (dD b ops) := fun b => h.filterMap _
 have hl := aCV h
 exact ⟨fun o ho => O.ok o (h.subset ho), fun b => (O.nd b).sublist (hf b), O.lt.sublist hl, fun x hx b hb => O.ld x (hl.subset hx) b ((hf b).subset hb)⟩
end PV
end
section
namespace PV
open PySem PySem.Spec PyProof.Rows L2
def rdF (tb sA fA kA : Nat) (od : D) : List (Str × D) := [(("rules" : Str), .ref tb), ("starts", .ref sA), ("follows", .ref fA), ("stack", .ref kA), ("operand", od)]
def ufF (num : D) (p : Nat) (later : List Str) : List (Str × D) := [(("number" : Str), num), ("parts", .ref p), ("later", .tup (later.map .str))]
def aLy (f : Uf) : D := match f.num with
 | none => .non
 | some n => .int (n : Nat)
def odD : Option Tr -> D
 | none => .non
 | some t => t.enc
structure FrAt (h : Hh) (x : Nat × Nat × Uf) : Prop where
 u : h[x.1]? = some (.ins 1 (ufF (aLy x.2.2) x.2.1 x.2.2.later))
 p : h[x.2.1]? = some (.lst (Tr.encs x.2.2.parts))
def xM (fr : List (Nat × Nat × Uf)) : List Nat := fr.flatMap fun x => [x.1, x.2.1]
/-- the reader at r: its frames, the innermost first; nothing below n0 has changed -/
structure RdAt (hb : Hh) (ops : List Opr) (r tb sA fA kA : Nat) (h : Hh) (fr : List (Nat × Nat × Uf)) (od : Option Tr) : Prop where
 rd : h[r]? = some (.ins 2 (rdF tb sA fA kA (odD od)))
 st : ∃ kvs, h[sA]? = some (.dK kvs) /\ ∀ w, fN kvs (.inr w) = (aH9 ops false w).map fun n => D.int (n : Nat)
 fo : ∃ kvs, h[fA]? = some (.dK kvs) /\ ∀ w, fN kvs (.inr w) = (aH9 ops true w).map fun n => D.int (n : Nat)
 sk : h[kA]? = some (.lst (fr.reverse.map fun x => D.ref x.1))
 fs : ∀ x ∈ fr, FrAt h x
 nd : (r :: sA :: fA :: kA :: xM fr).Nodup
 lo : ∀ a ∈ r :: sA :: fA :: kA :: xM fr, hb.length <= a
 old : ∀ a, a < hb.length -> h[a]? = hb[a]?
 len : hb.length <= h.length
section
variable {hb h h' : Hh} {ops : List Opr} {r tb sA fA kA : Nat} {fr fr' : List (Nat × Nat × Uf)} {od od' : Option Tr}
theorem aEW {x : Nat × Nat × Uf} (h : x ∈ fr) : x.1 ∈ xM fr /\ x.2.1 ∈ xM fr := by
 unfold xM
 exact ⟨List.mem_flatMap.mpr ⟨x, h, by simp⟩, List.mem_flatMap.mpr ⟨x, h, by simp⟩⟩
theorem RdAt.lt (a : RdAt hb ops r tb sA fA kA h fr od) : r < h.length /\ sA < h.length /\ fA < h.length /\ kA < h.length := by
 obtain ⟨_, e1, _⟩ := a.st
 obtain ⟨_, e2, _⟩ := a.fo
 exact ⟨aE a.rd, aE e1, aE e2, aE a.sk⟩
/-- another heap with the same cells -/
theorem RdAt.same (a : RdAt hb ops r tb sA fA kA h fr od) (hl : hb.length <= h'.length) (hs : ∀ b ∈ r :: sA :: fA :: kA :: xM fr, h'[b]? = h[b]?) (ho : ∀ b, b < hb.length -> h'[b]? = h[b]?) : RdAt hb ops r tb sA fA kA h' fr od := by
 refine ⟨by rw [hs r (by simp)]; exact a.rd, ?_, ?_, by rw [hs kA (by simp)]; exact a.sk, fun x hx => ?_, a.nd, a.lo, fun b l => (ho b l).trans (a.old b l), hl⟩
 ·obtain ⟨kvs, e, g⟩ := a.st; exact ⟨kvs, by rw [hs sA (by simp)]; exact e, g⟩
 ·obtain ⟨kvs, e, g⟩ := a.fo; exact ⟨kvs, by rw [hs fA (by simp)]; exact e, g⟩
 ·have f := aEW hx
  exact ⟨by rw [hs x.1 (by simp [f.1])]; exact (a.fs x hx).u, by rw [hs x.2.1 (by simp [f.2])]; exact (a.fs x hx).p⟩
end
end PV
end
section
namespace PV
open PySem PySem.Spec PyProof.Rows L2
end PV
end
section
namespace PV
open PySem PySem.Spec PyProof.Rows L2
/-- a value by its content; src is the law's source of draws -/
inductive Q where
 | non | bl (b : Bool) | int (i : Int) | str (x : Str) | tup (ws : List Q) | kt (ws : List Q) | lst (ws : List Q)
 | dK (kvs : List (Key × Q)) | dT (kvs : List (List Key × Q)) | ins (c : Nat) (fs : List (Str × Q))
 | ty (n : String) | fn (f : Nat) | cls (c : Nat) | xc (c : Nat) (ks : List Str) (ws : List Q) | src
 deriving Inhabited
section
variable {P : Q -> Prop} (h1 : P .non) (h2 : ∀ b, P (.bl b)) (h3 : ∀ i, P (.int i)) (h4 : ∀ x, P (.str x)) (h5 : ∀ qs, (∀ q ∈ qs, P q) -> P (.tup qs)) (h6 : ∀ qs, (∀ q ∈ qs, P q) -> P (.kt qs)) (h7 : ∀ qs, (∀ q ∈ qs, P q) -> P (.lst qs))
 (h8 : ∀ kvs : List (Key × Q), (∀ q ∈ kvs, P q.2) -> P (.dK kvs)) (h9 : ∀ kvs : List (List Key × Q), (∀ q ∈ kvs, P q.2) -> P (.dT kvs)) (h10 : ∀ c (kvs : List (Str × Q)), (∀ q ∈ kvs, P q.2) -> P (.ins c kvs))
 (h11 : ∀ n, P (.ty n)) (h12 : ∀ n, P (.fn n)) (h13 : ∀ n, P (.cls n)) (h14 : ∀ c ks qs, (∀ q ∈ qs, P q) -> P (.xc c ks qs)) (h15 : P .src)
include h1 h2 h3 h4 h5 h6 h7 h8 h9 h10 h11 h12 h13 h14 h15
mutual
theorem Q.ind : ∀ q : Q, P q
 | .non => h1
 | .bl b => h2 b
 | .int i => h3 i
 | .str x => h4 x
 | .tup qs => h5 qs (Q.inds qs)
 | .kt qs => h6 qs (Q.inds qs)
 | .lst qs => h7 qs (Q.inds qs)
 | .dK kvs => h8 kvs (Q.indK kvs)
 | .dT kvs => h9 kvs (Q.indT kvs)
 | .ins c kvs => h10 c kvs (Q.indF kvs)
 | .ty n => h11 n
 | .fn n => h12 n
 | .cls n => h13 n
 | .xc c ks qs => h14 c ks qs (Q.inds qs)
 | .src => h15
theorem Q.inds : ∀ (qs : List Q), ∀ q ∈ qs, P q
 | [] => fun q hq => by cases hq
 | q :: qs => fun x hx => (List.mem_cons.mp hx).elim (fun e => e ▸ Q.ind q) (Q.inds qs x)
theorem Q.indK : ∀ (qs : List (Key × Q)), ∀ q ∈ qs, P q.2
 | [] => fun q hq => by cases hq
 | (k, q) :: qs => fun x hx => (List.mem_cons.mp hx).elim (fun e => e ▸ Q.ind q) (Q.indK qs x)
theorem Q.indT : ∀ (qs : List (List Key × Q)), ∀ q ∈ qs, P q.2
 | [] => fun q hq => by cases hq
 | (k, q) :: qs => fun x hx => (List.mem_cons.mp hx).elim (fun e => e ▸ Q.ind q) (Q.indT qs x)
theorem Q.indF : ∀ (qs : List (Str × Q)), ∀ q ∈ qs, P q.2
 | [] => fun q hq => by cases hq
 | (k, q) :: qs => fun x hx => (List.mem_cons.mp hx).elim (fun e => e ▸ Q.ind q) (Q.indF qs x)
end
end
section
variable (F : Nat -> Prop) (sa : Nat) (h : Hh)
mutual
def Rep : Q -> D -> Prop
 | .non, w => w = .non
 | .bl b, w => w = .bl b
 | .int i, w => w = .int i
 | .str x, w => w = .str x
 | .ty n, w => w = .ty n
 | .fn n, w => w = .fn n
 | .cls n, w => w = .cls n
 | .src, w => w = .ref sa
 | .tup qs, w => ∃ ws, w = .tup ws /\ Reps qs ws
 | .kt qs, w => ∃ ws, w = .kt ws /\ Reps qs ws
 | .xc c ks qs, w => ∃ ws, w = .xc c ks ws /\ Reps qs ws
 | .lst qs, w => ∃ ws, (w = .tl ws \/ ∃ a, w = .ref a /\ F a /\ h[a]? = some (.lst ws)) /\ Reps qs ws
 | .dK kvs, w => ∃ a ws, w = .ref a /\ F a /\ h[a]? = some (.dK ws) /\ RepA kvs ws
 | .dT kvs, w => ∃ a ws, w = .ref a /\ F a /\ h[a]? = some (.dT ws) /\ RepB kvs ws
 | .ins c fs, w => ∃ a ws, w = .ref a /\ F a /\ h[a]? = some (.ins c ws) /\ RepC fs ws
def Reps : List Q -> List D -> Prop
 | [], ws => ws = []
 | q :: qs, ws => ∃ w r, ws = w :: r /\ w.isTl = false /\ Rep q w /\ Reps qs r
def RepA : List (Key × Q) -> List (Key × D) -> Prop
 | [], ws => ws = []
 | (k, q) :: qs, ws => ∃ w r, ws = (k, w) :: r /\ w.isTl = false /\ Rep q w /\ RepA qs r
def RepB : List (List Key × Q) -> List (List Key × D) -> Prop
 | [], ws => ws = []
 | (k, q) :: qs, ws => ∃ w r, ws = (k, w) :: r /\ w.isTl = false /\ Rep q w /\ RepB qs r
def RepC : List (Str × Q) -> List (Str × D) -> Prop
 | [], ws => ws = []
 | (k, q) :: qs, ws => ∃ w r, ws = (k, w) :: r /\ w.isTl = false /\ Rep q w /\ RepC qs r
end
def aN {κ : Type} : List (κ × Q) -> List (κ × D) -> Prop
 | [], ws => ws = []
 | (k, q) :: qs, ws => ∃ w r, ws = (k, w) :: r /\ w.isTl = false /\ Rep F sa h q w /\ aN qs r
end
section
variable {F F' : Nat -> Prop} {sa : Nat} {h h' : Hh} {w : D} {ws : List D} {q : Q} {qs : List Q}
theorem aCm : ∀ {kvs : List (Key × Q)} {ws : List (Key × D)}, RepA F sa h kvs ws ↔ aN F sa h kvs ws
 | [], ws => by simp only [RepA, aN]
 | (k, q) :: kvs, ws => by simp only [RepA, aN, aCm]
theorem aCn : ∀ {kvs : List (List Key × Q)} {ws : List (List Key × D)}, RepB F sa h kvs ws ↔ aN F sa h kvs ws
 | [], ws => by simp only [RepB, aN]
 | (k, q) :: kvs, ws => by simp only [RepB, aN, aCn]
theorem aCo : ∀ {kvs : List (Str × Q)} {ws : List (Str × D)}, RepC F sa h kvs ws ↔ aN F sa h kvs ws
 | [], ws => by simp only [RepC, aN]
 | (k, q) :: kvs, ws => by simp only [RepC, aN, aCo]
theorem mW {kvs : List (Key × Q)} : Rep F sa h (.dK kvs) w ↔ ∃ a ws, w = .ref a /\ F a /\ h[a]? = some (.dK ws) /\ aN F sa h kvs ws := by simp only [Rep, aCm]
theorem mX {kvs : List (List Key × Q)} : Rep F sa h (.dT kvs) w ↔ ∃ a ws, w = .ref a /\ F a /\ h[a]? = some (.dT ws) /\ aN F sa h kvs ws := by simp only [Rep, aCn]
theorem jX {c : Nat} {kvs : List (Str × Q)} : Rep F sa h (.ins c kvs) w ↔ ∃ a ws, w = .ref a /\ F a /\ h[a]? = some (.ins c ws) /\ aN F sa h kvs ws := by simp only [Rep, aCo]
theorem Reps.len : ∀ {qs : List Q} {ws : List D}, Reps F sa h qs ws -> ws.length = qs.length
 | [], _, r => by simp only [Reps] at r; rw [r]; rfl
 | q :: qs, _, r => by
  simp only [Reps] at r
  obtain ⟨w, r, rfl, _, _, z⟩ := r
  simp [z.len]
theorem Reps.get : ∀ {qs : List Q} {ws : List D} {i : Nat} {q : Q}, Reps F sa h qs ws -> qs[i]? = some q -> ∃ w, ws[i]? = some w /\ w.isTl = false /\ Rep F sa h q w
 | [], _, i, q, r, e => by simp at e
 | q :: qs, _, i, q', r, e => by
  simp only [Reps] at r
  obtain ⟨w, r, rfl, h1, h2, z⟩ := r
  cases i with
  | zero => simp at e; subst e; exact ⟨w, rfl, h1, h2⟩
  | succ i => simpa using z.get (by simpa using e)
theorem iO : ∀ {qs : List Q} {ws : List D}, Reps F sa h qs ws ↔ ws.length = qs.length /\ ∀ (i : Nat) (q : Q) (w : D), qs[i]? = some q -> ws[i]? = some w -> w.isTl = false /\ Rep F sa h q w
 | [], ws => by
  simp only [Reps]
  constructor
  ·rintro rfl; simp
  ·rintro ⟨h1, _⟩; simpa using h1
 | q :: qs, ws => by
  simp only [Reps, iO]
  constructor
  ·rintro ⟨w, r, rfl, h1, h2, h3, h4⟩
   refine ⟨by simp [h3], fun i x y ex ey => ?_⟩
   cases i with
   | zero => simp at ex ey; subst ex; subst ey; exact ⟨h1, h2⟩
   | succ i => exact h4 i x y (by simpa using ex) (by simpa using ey)
  ·rintro ⟨h1, h2⟩
   cases ws with
   | nil => simp at h1
   | cons w r =>
    have := h2 0 q w rfl rfl
    exact ⟨w, r, rfl, this.1, this.2, by simpa using h1, fun i x y ex ey => h2 (i + 1) x y (by simpa using ex) (by simpa using ey)⟩
theorem Reps.app {qs' : List Q} {ws' : List D} : ∀ {qs : List Q} {ws : List D}, Reps F sa h qs ws -> Reps F sa h qs' ws' -> Reps F sa h (qs ++ qs') (ws ++ ws')
 | [], _, a, b => by simp only [Reps] at a; subst a; exact b
 | q :: qs, _, a, b => by
  simp only [Reps] at a
  obtain ⟨w, r, rfl, h1, h2, z⟩ := a
  simp only [List.cons_append, Reps]
  exact ⟨w, _, rfl, h1, h2, z.app b⟩
theorem Reps.one (r : Rep F sa h q w) (hw : w.isTl = false) : Reps F sa h [q] [w] := by
 simp only [Reps]; exact ⟨w, [], rfl, hw, r, rfl⟩
theorem Reps.drop : ∀ {qs : List Q} {ws : List D} (n : Nat), Reps F sa h qs ws -> Reps F sa h (qs.drop n) (ws.drop n)
 | qs, ws, 0, a => a
 | [], _, n + 1, a => by simp only [Reps] at a; subst a; simp [Reps]
 | q :: qs, _, n + 1, a => by
  simp only [Reps] at a
  obtain ⟨w, r, rfl, h1, h2, z⟩ := a
  simpa using z.drop n
theorem Reps.take : ∀ {qs : List Q} {ws : List D} (n : Nat), Reps F sa h qs ws -> Reps F sa h (qs.take n) (ws.take n)
 | qs, ws, 0, a => by simp [Reps]
 | [], _, n + 1, a => by simp only [Reps] at a; subst a; simp [Reps]
 | q :: qs, _, n + 1, a => by
  simp only [Reps] at a
  obtain ⟨w, r, rfl, h1, h2, z⟩ := a
  simp only [List.take_succ_cons, Reps]
  exact ⟨w, _, rfl, h1, h2, z.take n⟩
theorem aN.keys {κ : Type} : ∀ {kvs : List (κ × Q)} {ws : List (κ × D)}, aN F sa h kvs ws -> ws.map (·.1) = kvs.map (·.1)
 | [], _, r => by simp only [aN] at r; rw [r]; rfl
 | (k, q) :: kvs, _, r => by
  simp only [aN] at r
  obtain ⟨w, r, rfl, _, _, z⟩ := r
  simp [z.keys]
theorem aN.vals {κ : Type} : ∀ {kvs : List (κ × Q)} {ws : List (κ × D)}, aN F sa h kvs ws -> Reps F sa h (kvs.map (·.2)) (ws.map (·.2))
 | [], _, r => by simp only [aN] at r; rw [r]; rfl
 | (k, q) :: kvs, _, r => by
  simp only [aN] at r
  obtain ⟨w, r, rfl, h1, h2, z⟩ := r
  simp only [List.map_cons, Reps]
  exact ⟨w, _, rfl, h1, h2, z.vals⟩
theorem pJ {κ : Type} : ∀ {kvs : List (κ × Q)} {ws : List (κ × D)}, ws.map (·.1) = kvs.map (·.1) -> Reps F sa h (kvs.map (·.2)) (ws.map (·.2)) -> aN F sa h kvs ws
 | [], ws, e, r => by simpa [aN] using e
 | (k, q) :: kvs, [], e, r => by simp at e
 | (k, q) :: kvs, (k', w) :: ws, e, r => by
  simp only [List.map_cons, Reps, List.cons.injEq] at e r
  obtain ⟨rfl, e⟩ := e
  obtain ⟨w', r', ⟨rfl, rfl⟩, h1, h2, z⟩ := r
  simp only [aN]
  exact ⟨w, ws, rfl, h1, h2, pJ e z⟩
/-- the frozen cells as they were, and more of them -/
structure Gw (F : Nat -> Prop) (h : Hh) (F' : Nat -> Prop) (h' : Hh) : Prop where
 len : h.length <= h'.length
 up : ∀ a, F a -> F' a
 same : ∀ a, F a -> h'[a]? = h[a]?
theorem Gw.rfl' : Gw F h F h := ⟨Nat.le_refl _, fun _ z => z, fun _ _ => rfl⟩
theorem Gw.trans {F2 : Nat -> Prop} {h2 : Hh} (a : Gw F h F' h') (b : Gw F' h' F2 h2) : Gw F h F2 h2 := ⟨Nat.le_trans a.len b.len, fun x z => b.up x (a.up x z), fun x z => (b.same x (a.up x z)).trans (a.same x z)⟩
theorem iY (ih : ∀ q ∈ qs, ∀ w, Rep F sa h q w -> Rep F' sa h' q w) (r : Reps F sa h qs ws) : Reps F' sa h' qs ws := by
 rw [iO] at r ⊢
 refine ⟨r.1, fun i q w e1 e2 => ?_⟩
 have := r.2 i q w e1 e2
 exact ⟨this.1, ih q (List.mem_of_getElem? e1) w this.2⟩
theorem nW {κ : Type} {kvs : List (κ × Q)} {ws : List (κ × D)} (ih : ∀ q ∈ kvs, ∀ w, Rep F sa h q.2 w -> Rep F' sa h' q.2 w) (r : aN F sa h kvs ws) : aN F' sa h' kvs ws :=
 pJ r.keys (iY (fun q hq w => by
  obtain ⟨kv, hkv, rfl⟩ := List.mem_map.mp hq
  exact ih kv hkv w) r.vals)
theorem Rep.mono (g : Gw F h F' h') (r : Rep F sa h q w) : Rep F' sa h' q w := by
 induction q using Q.ind generalizing w with
 | h5 qs ih => simp only [Rep] at r ⊢; obtain ⟨ws, e, r⟩ := r; exact ⟨ws, e, iY (fun q hq w r => ih q hq r) r⟩
 | h6 qs ih => simp only [Rep] at r ⊢; obtain ⟨ws, e, r⟩ := r; exact ⟨ws, e, iY (fun q hq w r => ih q hq r) r⟩
 | h14 c ks qs ih => simp only [Rep] at r ⊢; obtain ⟨ws, e, r⟩ := r; exact ⟨ws, e, iY (fun q hq w r => ih q hq r) r⟩
 | h7 qs ih =>
  simp only [Rep] at r ⊢
  obtain ⟨ws, e, r⟩ := r
  refine ⟨ws, ?_, iY (fun q hq w r => ih q hq r) r⟩
  rcases e with e | ⟨a, e, f, c⟩
  ·exact .inl e
  ·exact .inr ⟨a, e, g.up a f, by rw [g.same a f]; exact c⟩
 | h8 kvs ih => rw [mW] at r ⊢; obtain ⟨a, ws, e, f, c, r⟩ := r; exact ⟨a, ws, e, g.up a f, by rw [g.same a f]; exact c, nW (fun q hq w r => ih q hq r) r⟩
 | h9 kvs ih => rw [mX] at r ⊢; obtain ⟨a, ws, e, f, c, r⟩ := r; exact ⟨a, ws, e, g.up a f, by rw [g.same a f]; exact c, nW (fun q hq w r => ih q hq r) r⟩
 | h10 n kvs ih => rw [jX] at r ⊢; obtain ⟨a, ws, e, f, c, r⟩ := r; exact ⟨a, ws, e, g.up a f, by rw [g.same a f]; exact c, nW (fun q hq w r => ih q hq r) r⟩
 | _ => simpa only [Rep] using r
theorem Reps.mono (g : Gw F h F' h') (r : Reps F sa h qs ws) : Reps F' sa h' qs ws := iY (fun _ _ _ r => r.mono g) r
theorem aN.mono {κ : Type} {kvs : List (κ × Q)} {ws : List (κ × D)} (g : Gw F h F' h') (r : aN F sa h kvs ws) : aN F' sa h' kvs ws := nW (fun _ _ _ r => r.mono g) r
end
end PV
end
section
namespace PV
open PySem PySem.Spec PyProof.Rows L2
inductive Rs (α : Type) where
 | ok (a : α) | exc (c : Nat) (fs : List (Str × Q))
/-- a plain program: what must hold of its result, the number of draws so far -/
abbrev Pm (α : Type) := (Rs α -> Nat -> Prop) -> Nat -> Prop
def Pm.ret {α : Type} (a : α) : Pm α := fun K c => K (.ok a) c
def Pm.bind {α β : Type} (p : Pm α) (f : α -> Pm β) : Pm β := fun K c => p (fun r c' => match r with
 | .ok a => f a K c'
 | .exc n fs => K (.exc n fs) c') c
def Pm.bad {α : Type} : Pm α := fun _ _ => False
def Pm.exc {α : Type} (n : Nat) (fs : List (Str × Q)) : Pm α := fun K c => K (.exc n fs) c
def Pm.of {α : Type} (o : Option α) : Pm α := match o with
 | some a => .ret a
 | none => .bad
section
variable {α β γ : Type}
@[simp] theorem aH {a : α} {f : α -> Pm β} : (Pm.ret a).bind f = f a := id rfl
@[simp] theorem aJy {f : α -> Pm β} : Pm.bind Pm.bad f = Pm.bad := id rfl
@[simp] theorem aBG {n : Nat} {fs : List (Str × Q)} {f : α -> Pm β} : Pm.bind (Pm.exc n fs) f = Pm.exc n fs := id rfl
@[simp] theorem aP {a : α} : Pm.of (some a) = .ret a := id rfl
@[simp] theorem aJZ : Pm.of (none : Option α) = .bad := id rfl
@[simp] theorem aI {p : Pm α} {f : α -> Pm β} {g : β -> Pm γ} : (p.bind f).bind g = p.bind fun a => (f a).bind g := by
 funext K c
 show p _ c = p _ c
 apply congrFun
 apply congrArg
 funext r c'
 cases r <;> rfl
@[simp] theorem aKP {a : α} {K : Rs α -> Nat -> Prop} {c : Nat} : Pm.ret a K c = K (.ok a) c := id rfl
@[simp] theorem aKO {n : Nat} {fs : List (Str × Q)} {K : Rs α -> Nat -> Prop} {c : Nat} : Pm.exc n fs K c = K (.exc n fs) c := id rfl
end
/-- where a def began: the heap, the frozen cells, the source -/
structure Bs where
 h0 : Hh
 F0 : Nat -> Prop
 sa : Nat
structure Iv (B : Bs) (F : Nat -> Prop) (h : Hh) (c : Nat) : Prop where
 sr : Sr h B.sa c
 ns : ¬ F B.sa
 fl : ∀ a, F a -> ∃ x, h[a]? = some x /\ x.lim h.length = true
 len : B.h0.length <= h.length
 sl : B.sa < B.h0.length
 up0 : ∀ a, B.F0 a -> F a
 dn0 : ∀ a, a < B.h0.length -> F a -> B.F0 a
 same0 : ∀ a, a < B.h0.length -> a ≠ B.sa -> h[a]? = B.h0[a]?
structure Ge (sa : Nat) (F : Nat -> Prop) (h : Hh) (F' : Nat -> Prop) (h' : Hh) : Prop extends Gw F h F' h' where
 dn : ∀ a, a < h.length -> F' a -> F a
 old : ∀ a, a < h.length -> a ≠ sa -> h'[a]? = h[a]?
def Top (F : Nat -> Prop) (sa : Nat) (h : Hh) (a : Nat) : Q -> Prop
 | .lst qs => ∃ ws, h[a]? = some (.lst ws) /\ Reps F sa h qs ws
 | .dK kvs => ∃ ws, h[a]? = some (.dK ws) /\ aN F sa h kvs ws
 | .dT kvs => ∃ ws, h[a]? = some (.dT ws) /\ aN F sa h kvs ws
 | .ins c fs => ∃ ws, h[a]? = some (.ins c ws) /\ aN F sa h fs ws
 | _ => False
/-- fresh: nobody holds it -/
def pP (n : Nat) (F : Nat -> Prop) (sa : Nat) (h : Hh) (q : Q) (w : D) : Prop := (∃ qs ws, q = .lst qs /\ w = .tl ws /\ Reps F sa h qs ws) \/ ∃ a, w = .ref a /\ n <= a /\ ¬ F a /\ Top F sa h a q
section
variable {F F' F1 F2 : Nat -> Prop} {sa a n c c' : Nat} {h h' h1 h2 : Hh} {w : D} {ws : List D} {q : Q} {qs : List Q} {B : Bs}
theorem Ge.rfl' : Ge sa F h F h := ⟨.rfl', fun _ _ z => z, fun _ _ _ => rfl⟩
theorem Ge.trans (x : Ge sa F h F1 h1) (y : Ge sa F1 h1 F2 h2) : Ge sa F h F2 h2 :=
 ⟨x.toGw.trans y.toGw, fun a l z => x.dn a l (y.dn a (Nat.lt_of_lt_of_le l x.len) z), fun a l z => (y.old a (Nat.lt_of_lt_of_le l x.len) z).trans (x.old a l z)⟩
theorem Top.mono (g : Gw F h F' h') (ha : h'[a]? = h[a]?) (t : Top F sa h a q) : Top F' sa h' a q := by
 cases q with
 | lst qs => obtain ⟨ws, e, r⟩ := t; exact ⟨ws, by rw [ha]; exact e, r.mono g⟩
 | dK qs => obtain ⟨ws, e, r⟩ := t; exact ⟨ws, by rw [ha]; exact e, r.mono g⟩
 | dT qs => obtain ⟨ws, e, r⟩ := t; exact ⟨ws, by rw [ha]; exact e, r.mono g⟩
 | ins n qs => obtain ⟨ws, e, r⟩ := t; exact ⟨ws, by rw [ha]; exact e, r.mono g⟩
 | _ => exact t.elim
theorem Top.lt (t : Top F sa h a q) : a < h.length := by
 cases q with
 | lst qs => obtain ⟨ws, e, r⟩ := t; exact aE e
 | dK qs => obtain ⟨ws, e, r⟩ := t; exact aE e
 | dT qs => obtain ⟨ws, e, r⟩ := t; exact aE e
 | ins n qs => obtain ⟨ws, e, r⟩ := t; exact aE e
 | _ => exact t.elim
theorem Top.rep (t : Top F sa h a q) (f : F a) : Rep F sa h q (.ref a) := by
 cases q with
 | lst qs => obtain ⟨ws, e, r⟩ := t; simp only [Rep]; exact ⟨ws, .inr ⟨a, rfl, f, e⟩, r⟩
 | dK qs => obtain ⟨ws, e, r⟩ := t; rw [mW]; exact ⟨a, ws, rfl, f, e, r⟩
 | dT qs => obtain ⟨ws, e, r⟩ := t; rw [mX]; exact ⟨a, ws, rfl, f, e, r⟩
 | ins n qs => obtain ⟨ws, e, r⟩ := t; rw [jX]; exact ⟨a, ws, rfl, f, e, r⟩
 | _ => exact t.elim
theorem Rep.top (r : Rep F sa h q (.ref a)) : (q = .src /\ a = sa) \/ (F a /\ Top F sa h a q) := by
 cases q with
 | lst qs =>
  simp only [Rep] at r
  obtain ⟨ws, e | ⟨b, e, f, g⟩, r⟩ := r
  ·cases e
  ·cases e; exact .inr ⟨f, ws, g, r⟩
 | dK qs => rw [mW] at r; obtain ⟨b, ws, e, f, g, r⟩ := r; cases e; exact .inr ⟨f, ws, g, r⟩
 | dT qs => rw [mX] at r; obtain ⟨b, ws, e, f, g, r⟩ := r; cases e; exact .inr ⟨f, ws, g, r⟩
 | ins n qs => rw [jX] at r; obtain ⟨b, ws, e, f, g, r⟩ := r; cases e; exact .inr ⟨f, ws, g, r⟩
 | src => simp only [Rep] at r; cases r; exact .inl ⟨rfl, rfl⟩
 | tup qs => simp only [Rep] at r; obtain ⟨_, e, _⟩ := r; cases e
 | kt qs => simp only [Rep] at r; obtain ⟨_, e, _⟩ := r; cases e
 | xc c ks qs => simp only [Rep] at r; obtain ⟨_, e, _⟩ := r; cases e
 | _ => simp only [Rep] at r; cases r
theorem kN {n : Nat} : ∀ {ws : List D}, D.lims n ws = true ↔ ∀ w ∈ ws, D.lim n w = true
 | [] => by simp
 | w :: ws => by simp [kN (ws := ws)]
theorem iN {κ : Type} {n : Nat} : ∀ {kvs : List (κ × D)}, gL n kvs = D.lims n (kvs.map (·.2))
 | [] => rfl
 | p :: kvs => by simp [iN (kvs := kvs)]
theorem Rep.lim (hF : ∀ a, F a -> a < n) (hs : sa < n) (r : Rep F sa h q w) : w.lim n = true := by
 have key : ∀ {qs : List Q} {ws : List D}, (∀ q ∈ qs, ∀ w, Rep F sa h q w -> w.lim n = true) -> Reps F sa h qs ws -> D.lims n ws = true := fun {qs ws} ih r => kN.mpr fun w hw => by
  obtain ⟨i, hi, e⟩ := List.getElem_of_mem hw
  have hl := r.len
  have := (iO.mp r).2 i (qs[i]'(by omega)) w (by simp) (by rw [<- e]; simp)
  exact ih _ (List.getElem_mem _) w this.2
 induction q using Q.ind generalizing w with
 | h5 qs ih => simp only [Rep] at r; obtain ⟨ws, rfl, r⟩ := r; simp only [D.lim]; exact key (fun q hq w r => ih q hq r) r
 | h6 qs ih => simp only [Rep] at r; obtain ⟨ws, rfl, r⟩ := r; simp only [D.lim]; exact key (fun q hq w r => ih q hq r) r
 | h14 c ks qs ih => simp only [Rep] at r; obtain ⟨ws, rfl, r⟩ := r; simp only [D.lim]; exact key (fun q hq w r => ih q hq r) r
 | h7 qs ih =>
  simp only [Rep] at r
  obtain ⟨ws, rfl | ⟨a, rfl, f, e⟩, r⟩ := r
  ·simp only [D.lim]; exact key (fun q hq w r => ih q hq r) r
  ·simp [hF a f]
 | h8 kvs ih => rw [mW] at r; obtain ⟨a, ws, rfl, f, _⟩ := r; simp [hF a f]
 | h9 kvs ih => rw [mX] at r; obtain ⟨a, ws, rfl, f, _⟩ := r; simp [hF a f]
 | h10 n kvs ih => rw [jX] at r; obtain ⟨a, ws, rfl, f, _⟩ := r; simp [hF a f]
 | h15 => simp only [Rep] at r; subst r; simp [hs]
 | _ => simp only [Rep] at r; subst r; simp [D.lim]
theorem Reps.lim (hF : ∀ a, F a -> a < n) (hs : sa < n) (r : Reps F sa h qs ws) : D.lims n ws = true := kN.mpr fun w hw => by
 obtain ⟨i, hi, e⟩ := List.getElem_of_mem hw
 have hl := r.len
 have := (iO.mp r).2 i (qs[i]'(by omega)) w (by simp) (by rw [<- e]; simp)
 exact this.2.lim hF hs
theorem aN.lim {κ : Type} {kvs : List (κ × Q)} {ws : List (κ × D)} (hF : ∀ a, F a -> a < n) (hs : sa < n) (r : aN F sa h kvs ws) : gL n ws = true := by
 rw [iN]; exact r.vals.lim hF hs
/-- what a cut leaves -/
theorem Rep.cut (hF : ∀ a, a < n -> F' a -> F a) (hs : ∀ a, F a -> h2[a]? = h'[a]? /\ ∃ x, h'[a]? = some x /\ x.lim n = true) (r : Rep F' sa h' q w) (l : w.lim n = true) : Rep F sa h2 q w := by
 have key : ∀ {qs : List Q} {ws : List D}, (∀ q ∈ qs, ∀ w, Rep F' sa h' q w -> w.lim n = true -> Rep F sa h2 q w) -> Reps F' sa h' qs ws -> D.lims n ws = true -> Reps F sa h2 qs ws := fun {qs ws} ih r l => by
  rw [iO] at r ⊢
  refine ⟨r.1, fun i q w e1 e2 => ?_⟩
  have := r.2 i q w e1 e2
  exact ⟨this.1, ih q (List.mem_of_getElem? e1) w this.2 (kN.mp l w (List.mem_of_getElem? e2))⟩
 have keyK : ∀ {κ : Type} {kvs : List (κ × Q)} {ws : List (κ × D)}, (∀ q ∈ kvs, ∀ w, Rep F' sa h' q.2 w -> w.lim n = true -> Rep F sa h2 q.2 w) -> aN F' sa h' kvs ws -> gL n ws = true -> aN F sa h2 kvs ws := fun {κ kvs ws} ih r l =>
  pJ r.keys (key (fun q hq w => by
   obtain ⟨kv, hkv, rfl⟩ := List.mem_map.mp hq
   exact ih kv hkv w) r.vals (by rw [<- iN]; exact l))
 induction q using Q.ind generalizing w with
 | h5 qs ih => simp only [Rep] at r ⊢; obtain ⟨ws, rfl, r⟩ := r; simp only [D.lim] at l; exact ⟨ws, rfl, key (fun q hq w r l => ih q hq r l) r l⟩
 | h6 qs ih => simp only [Rep] at r ⊢; obtain ⟨ws, rfl, r⟩ := r; simp only [D.lim] at l; exact ⟨ws, rfl, key (fun q hq w r l => ih q hq r l) r l⟩
 | h14 c ks qs ih => simp only [Rep] at r ⊢; obtain ⟨ws, rfl, r⟩ := r; simp only [D.lim] at l; exact ⟨ws, rfl, key (fun q hq w r l => ih q hq r l) r l⟩
 | h7 qs ih =>
  simp only [Rep] at r ⊢
  obtain ⟨ws, rfl | ⟨a, rfl, f, e⟩, r⟩ := r
  ·simp only [D.lim] at l; exact ⟨ws, .inl rfl, key (fun q hq w r l => ih q hq r l) r l⟩
  ·have fa := hF a (by simpa using l) f
   obtain ⟨s1, x, s2, s3⟩ := hs a fa
   rw [e] at s2; cases s2
   exact ⟨ws, .inr ⟨a, rfl, fa, by rw [s1]; exact e⟩, key (fun q hq w r l => ih q hq r l) r (by simpa [Cl.lim] using s3)⟩
 | h8 kvs ih =>
  rw [mW] at r ⊢
  obtain ⟨a, ws, rfl, f, e, r⟩ := r
  have fa := hF a (by simpa using l) f
  obtain ⟨s1, x, s2, s3⟩ := hs a fa
  rw [e] at s2; cases s2
  exact ⟨a, ws, rfl, fa, by rw [s1]; exact e, keyK (fun q hq w r l => ih q hq r l) r (by simpa [Cl.lim] using s3)⟩
 | h9 kvs ih =>
  rw [mX] at r ⊢
  obtain ⟨a, ws, rfl, f, e, r⟩ := r
  have fa := hF a (by simpa using l) f
  obtain ⟨s1, x, s2, s3⟩ := hs a fa
  rw [e] at s2; cases s2
  exact ⟨a, ws, rfl, fa, by rw [s1]; exact e, keyK (fun q hq w r l => ih q hq r l) r (by simpa [Cl.lim] using s3)⟩
 | h10 m kvs ih =>
  rw [jX] at r ⊢
  obtain ⟨a, ws, rfl, f, e, r⟩ := r
  have fa := hF a (by simpa using l) f
  obtain ⟨s1, x, s2, s3⟩ := hs a fa
  rw [e] at s2; cases s2
  exact ⟨a, ws, rfl, fa, by rw [s1]; exact e, keyK (fun q hq w r l => ih q hq r l) r (by simpa [Cl.lim] using s3)⟩
 | _ => simpa only [Rep] using r
theorem Reps.cut (hF : ∀ a, a < n -> F' a -> F a) (hs : ∀ a, F a -> h2[a]? = h'[a]? /\ ∃ x, h'[a]? = some x /\ x.lim n = true) (r : Reps F' sa h' qs ws) (l : D.lims n ws = true) : Reps F sa h2 qs ws := by
 rw [iO] at r ⊢
 refine ⟨r.1, fun i q w e1 e2 => ?_⟩
 have := r.2 i q w e1 e2
 exact ⟨this.1, this.2.cut hF hs (kN.mp l w (List.mem_of_getElem? e2))⟩
theorem aN.cut {κ : Type} {kvs : List (κ × Q)} {ws : List (κ × D)} (hF : ∀ a, a < n -> F' a -> F a) (hs : ∀ a, F a -> h2[a]? = h'[a]? /\ ∃ x, h'[a]? = some x /\ x.lim n = true) (r : aN F' sa h' kvs ws) (l : gL n ws = true) : aN F sa h2 kvs ws :=
 pJ r.keys (r.vals.cut hF hs (by rw [<- iN]; exact l))
/-- one more frozen cell -/
def Fx (F : Nat -> Prop) (a : Nat) : Nat -> Prop := fun b => F b \/ b = a
theorem Top.cut {c : Cl} (hF : ∀ a, a < n -> F' a -> F a) (hs : ∀ a, F a -> h2[a]? = h'[a]? /\ ∃ x, h'[a]? = some x /\ x.lim n = true) (t : Top F' sa h' a q) (e : h'[a]? = some c) (l : c.lim n = true) {b : Nat} (e2 : h2[b]? = some c) : Top F sa h2 b q := by
 cases q with
 | lst qs => obtain ⟨ws, e', r⟩ := t; rw [e] at e'; cases e'; exact ⟨ws, e2, r.cut hF hs (by simpa [Cl.lim] using l)⟩
 | dK qs => obtain ⟨ws, e', r⟩ := t; rw [e] at e'; cases e'; exact ⟨ws, e2, r.cut hF hs (by simpa [Cl.lim] using l)⟩
 | dT qs => obtain ⟨ws, e', r⟩ := t; rw [e] at e'; cases e'; exact ⟨ws, e2, r.cut hF hs (by simpa [Cl.lim] using l)⟩
 | ins m qs => obtain ⟨ws, e', r⟩ := t; rw [e] at e'; cases e'; exact ⟨ws, e2, r.cut hF hs (by simpa [Cl.lim] using l)⟩
 | _ => exact t.elim
end
end PV
end
section
namespace PV
open PySem PySem.Spec PyProof.Rows L2
/-- the outcome r of a heap's function beside a plain program's continuation K -/
inductive Out (B : Bs) (F : Nat -> Prop) (h : Hh) {α β : Type} (Rl : (Nat -> Prop) -> Hh -> β -> α -> Prop) (K : Rs β -> Nat -> Prop) : R α -> Prop
 | ok {q : β} {c' : Nat} {w : α} {h' : Hh} {F' : Nat -> Prop} (k : K (.ok q) c') (iv : Iv B F' h' c') (g : Ge B.sa F h F' h') (r : Rl F' h' q w) : Out B F h Rl K (.ok w h')
 | exc {n c' : Nat} {fs : List (Str × Q)} {fs' : List (Str × D)} {h' : Hh} {F' : Nat -> Prop} (k : K (.exc n fs) c') (iv : Iv B F' h' c') (g : Ge B.sa F h F' h') (r : aN F' B.sa h' fs fs') : Out B F h Rl K (.exc n fs' h')
abbrev RlS (B : Bs) : (Nat -> Prop) -> Hh -> Q -> D -> Prop := fun F h q w => Rep F B.sa h q w
abbrev RlF (n : Nat) (B : Bs) : (Nat -> Prop) -> Hh -> Q -> D -> Prop := fun F h q w => pP n F B.sa h q w
abbrev RlA (B : Bs) : (Nat -> Prop) -> Hh -> List Q -> List D -> Prop := fun F h q w => Reps F B.sa h q w
abbrev RlE {α : Type} : (Nat -> Prop) -> Hh -> α -> α -> Prop := fun _ _ q w => w = q
def bK {α β : Type} (g : α -> Pm β) (K : Rs β -> Nat -> Prop) : Rs α -> Nat -> Prop := fun r c' => match r with
 | .ok a => g a K c'
 | .exc n fs => K (.exc n fs) c'
section
variable {F F' F1 F2 : Nat -> Prop} {sa a n c c' : Nat} {h h' h1 h2 : Hh} {w : D} {ws : List D} {q : Q} {qs : List Q} {B : Bs} {α β α' β' : Type} {Rl : (Nat -> Prop) -> Hh -> β -> α -> Prop} {Rl2 : (Nat -> Prop) -> Hh -> β' -> α' -> Prop} {K : Rs β -> Nat -> Prop} {K2 : Rs β' -> Nat -> Prop}
theorem Out.ge {r : R α} (g : Ge B.sa F h F1 h1) (o : Out B F1 h1 Rl K r) : Out B F h Rl K r := by
 cases o with
 | ok k iv g' r => exact .ok k iv (g.trans g') r
 | exc k iv g' r => exact .exc k iv (g.trans g') r
theorem Out.bind {r : R α} {f : α -> Hh -> R α'} {g : β -> Pm β'} (o : Out B F h Rl (bK g K2) r)
  (hf : ∀ {F1 : Nat -> Prop} {h1 : Hh} {q : β} {w : α} {c1 : Nat}, Iv B F1 h1 c1 -> Ge B.sa F h F1 h1 -> Rl F1 h1 q w -> g q K2 c1 -> Out B F1 h1 Rl2 K2 (f w h1)) : Out B F h Rl2 K2 (r.bind f) := by
 cases o with
 | ok k iv g' r => exact (hf iv g' r k).ge g'
 | exc k iv g' r => exact .exc k iv g' r
theorem Out.imp {r : R α} {Rl' : (Nat -> Prop) -> Hh -> β -> α -> Prop} (o : Out B F h Rl K r) (hr : ∀ {F1 : Nat -> Prop} {h1 : Hh} {q : β} {w : α} {c1 : Nat}, Iv B F1 h1 c1 -> Ge B.sa F h F1 h1 -> Rl F1 h1 q w -> Rl' F1 h1 q w) : Out B F h Rl' K r := by
 cases o with
 | ok k iv g' r => exact .ok k iv g' (hr iv g' r)
 | exc k iv g' r => exact .exc k iv g' r
theorem Out.ret {q : β} {w : α} (iv : Iv B F h c) (k : K (.ok q) c) (r : Rl F h q w) : Out B F h Rl K (.ok w h) := .ok k iv .rfl' r
theorem Iv.lt (iv : Iv B F h c) (f : F a) : a < h.length := let ⟨_, e, _⟩ := iv.fl a f; aE e
theorem Iv.sal (iv : Iv B F h c) : B.sa < h.length := Nat.lt_of_lt_of_le iv.sl iv.len
theorem Iv.base (iv : Iv B F h c) : Iv ⟨h, F, B.sa⟩ F h c := ⟨iv.sr, iv.ns, iv.fl, Nat.le_refl _, iv.sal, fun _ z => z, fun _ _ z => z, fun _ _ _ => rfl⟩
theorem Iv.rebase (iv : Iv B F h c) (g : Ge B.sa F h F1 h1) (i2 : Iv ⟨h, F, B.sa⟩ F1 h1 c') : Iv B F1 h1 c' :=
 ⟨i2.sr, i2.ns, i2.fl, Nat.le_trans iv.len g.len, iv.sl, fun a z => g.up a (iv.up0 a z), fun a l z => iv.dn0 a l (g.dn a (Nat.lt_of_lt_of_le l iv.len) z), fun a l z => (g.old a (Nat.lt_of_lt_of_le l iv.len) z).trans (iv.same0 a l z)⟩
theorem Rep.limH (iv : Iv B F h c) (r : Rep F B.sa h q w) : w.lim h.length = true := r.lim (fun _ f => iv.lt f) iv.sal
theorem Reps.limH (iv : Iv B F h c) (r : Reps F B.sa h qs ws) : D.lims h.length ws = true := r.lim (fun _ f => iv.lt f) iv.sal
theorem Top.limH (iv : Iv B F h c) (t : Top F B.sa h a q) : ∃ x, h[a]? = some x /\ x.lim h.length = true := by
 cases q with
 | lst qs => obtain ⟨ws, e, r⟩ := t; exact ⟨_, e, by simp only [Cl.lim]; exact r.limH iv⟩
 | dK qs => obtain ⟨ws, e, r⟩ := t; exact ⟨_, e, by simp only [Cl.lim]; exact r.lim (fun _ f => iv.lt f) iv.sal⟩
 | dT qs => obtain ⟨ws, e, r⟩ := t; exact ⟨_, e, by simp only [Cl.lim]; exact r.lim (fun _ f => iv.lt f) iv.sal⟩
 | ins m qs => obtain ⟨ws, e, r⟩ := t; exact ⟨_, e, by simp only [Cl.lim]; exact r.lim (fun _ f => iv.lt f) iv.sal⟩
 | _ => exact t.elim
/-- freeze a cell of one's own -/
theorem Iv.freeze (iv : Iv B F h c) (ha : B.h0.length <= a) (t : Top F B.sa h a q) : Iv B (Fx F a) h c := by
 have := iv.sl
 refine ⟨iv.sr, fun z => ?_, fun b z => ?_, iv.len, iv.sl, fun b z => .inl (iv.up0 b z), fun b l z => ?_, iv.same0⟩
 ·rcases z with z | z
  ·exact iv.ns z
  ·omega
 ·rcases z with z | rfl
  ·exact iv.fl b z
  ·exact t.limH iv
 ·rcases z with z | rfl
  ·exact iv.dn0 b l z
  ·omega
theorem uT : Gw F h (Fx F a) h := ⟨Nat.le_refl _, fun _ z => .inl z, fun _ _ => rfl⟩
theorem Ge.fx (g : Ge sa F h F1 h1) (ha : h.length <= a) : Ge sa F h (Fx F1 a) h1 := ⟨g.toGw.trans uT, fun b l z => by
 rcases z with z | rfl
 ·exact g.dn b l z
 ·omega, g.old⟩
theorem aBX {n m : Nat} {x : Cl} (hn : n <= m) (l : x.lim n = true) : x.lim m = true := by
 cases x with
 | lst ws => simp only [Cl.lim] at l ⊢; exact lims_mono hn l
 | dK ws => simp only [Cl.lim, iN] at l ⊢; exact lims_mono hn l
 | dT ws => simp only [Cl.lim, iN] at l ⊢; exact lims_mono hn l
 | ins c ws => simp only [Cl.lim, iN] at l ⊢; exact lims_mono hn l
/-- a new cell at the end -/
theorem Iv.app (iv : Iv B F h c) (x : Cl) : Iv B F (h ++ [x]) c := by
 refine ⟨iv.sr.app, iv.ns, fun b z => ?_, by have := iv.len; simp; omega, iv.sl, iv.up0, iv.dn0, fun b l z => ?_⟩
 ·obtain ⟨y, e, l⟩ := iv.fl b z
  refine ⟨y, ?_, aBX (by simp) l⟩
  rw [List.getElem?_append_left (aE e)]; exact e
 ·have := iv.len
  rw [List.getElem?_append_left (by omega)]; exact iv.same0 b l z
theorem geApp {x : Cl} (hF : ∀ a, F a -> a < h.length) : Ge sa F h F (h ++ [x]) := ⟨⟨by simp, fun _ z => z, fun a z => List.getElem?_append_left (hF a z)⟩, fun _ _ z => z, fun a l _ => List.getElem?_append_left l⟩
theorem Iv.geApp (iv : Iv B F h c) {x : Cl} : Ge B.sa F h F (h ++ [x]) := PV.geApp fun _ f => iv.lt f
/-- what is stored -/
theorem sG (iv : Iv B F h c) (r : Rep F B.sa h q w) : ∃ F2, Iv B F2 (aT w h).2 c /\ Ge B.sa F h F2 (aT w h).2 /\ Rep F2 B.sa (aT w h).2 q (aT w h).1 /\ (aT w h).1.isTl = false := by
 by_cases ht : w.isTl = true
 ·cases w with
  | tl ws =>
   have hq : ∃ qs, q = .lst qs /\ Reps F B.sa h qs ws := by
    cases q with
    | lst qs =>
     simp only [Rep] at r
     obtain ⟨ws', e | ⟨a, e, _⟩, r⟩ := r
     ·cases e; exact ⟨qs, rfl, r⟩
     ·cases e
    | tup qs => simp only [Rep] at r; obtain ⟨_, e, _⟩ := r; cases e
    | kt qs => simp only [Rep] at r; obtain ⟨_, e, _⟩ := r; cases e
    | xc _ _ qs => simp only [Rep] at r; obtain ⟨_, e, _⟩ := r; cases e
    | dK qs => rw [mW] at r; obtain ⟨_, _, e, _⟩ := r; cases e
    | dT qs => rw [mX] at r; obtain ⟨_, _, e, _⟩ := r; cases e
    | ins _ qs => rw [jX] at r; obtain ⟨_, _, e, _⟩ := r; cases e
    | _ => simp only [Rep] at r; cases r
   obtain ⟨qs, rfl, rs⟩ := hq
   have g0 : Ge B.sa F h F (h ++ [.lst ws]) := iv.geApp
   have t : Top F B.sa (h ++ [.lst ws]) h.length (.lst qs) := ⟨ws, by simp, rs.mono g0.toGw⟩
   have i2 := (iv.app (.lst ws)).freeze iv.len t
   exact ⟨Fx F h.length, i2, g0.fx (Nat.le_refl _), (t.mono uT rfl).rep (.inr rfl), rfl⟩
  | _ => cases ht
 ·have : aT w h = (w, h) := by
   cases w <;> first | rfl | exact absurd rfl ht
  rw [this]
  exact ⟨F, iv, .rfl', r, by simpa using ht⟩
theorem aJb (iv : Iv B F h c) (hn : n <= h.length) (r : pP n F B.sa h q w) : ∃ a, (aT w h).1 = .ref a /\ n <= a /\ ¬ F a /\ Iv B F (aT w h).2 c /\ Ge B.sa F h F (aT w h).2 /\ Top F B.sa (aT w h).2 a q := by
 rcases r with ⟨qs, ws, rfl, rfl, r⟩ | ⟨a, rfl, ha, hf, t⟩
 ·have g0 : Ge B.sa F h F (h ++ [.lst ws]) := iv.geApp
  exact ⟨h.length, rfl, hn, fun z => Nat.lt_irrefl _ (iv.lt z), iv.app _, g0, ws, by simp [aT], r.mono g0.toGw⟩
 ·exact ⟨a, rfl, ha, hf, iv, .rfl', t⟩
theorem aHQ (g : Ge B.sa F h F' h') (i2 : Iv B F' h' c') : hJ h.length h h' = true := tD g.len fun j x hj e => by
 by_cases hs : j = B.sa
 ·subst hs
  obtain ⟨y, e2, l⟩ := i2.sr.cell h.length
  rw [e2] at e; cases e; exact .inr l
 ·rw [g.old j hj hs] at e; exact .inl e
theorem Iv.cut (iv : Iv B F h c) (g : Ge B.sa F h F' h') (i2 : Iv B F' h' c') : Iv B F (h'.take h.length) c' /\ Ge B.sa F h F (h'.take h.length) /\ (∀ a, F a -> (h'.take h.length)[a]? = h'[a]? /\ ∃ x, h'[a]? = some x /\ x.lim h.length = true) := by
 have hl := g.len
 have lt : (h'.take h.length).length = h.length := by simp; omega
 have tk : ∀ a, a < h.length -> (h'.take h.length)[a]? = h'[a]? := fun a l => by rw [List.getElem?_take]; simp [l]
 have nsa : ∀ a, F a -> a ≠ B.sa := fun a f z => iv.ns (z ▸ f)
 refine ⟨⟨i2.sr.cut iv.sal, iv.ns, fun a f => ?_, by rw [lt]; exact iv.len, iv.sl, iv.up0, iv.dn0, fun a l z => ?_⟩, ⟨⟨by rw [lt]; exact Nat.le_refl _, fun _ z => z, fun a f => ?_⟩, fun _ _ z => z, fun a l z => ?_⟩, fun a f => ?_⟩
 ·obtain ⟨x, e, l⟩ := iv.fl a f
  exact ⟨x, by rw [tk a (aE e), g.old a (aE e) (nsa a f)]; exact e, by rw [lt]; exact l⟩
 ·have := iv.len
  rw [tk a (by omega)]; exact i2.same0 a l z
 ·rw [tk a (iv.lt f)]; exact g.same a f
 ·rw [tk a l]; exact g.old a l z
 ·obtain ⟨x, e, l⟩ := iv.fl a f
  exact ⟨tk a (iv.lt f), x, by rw [g.same a f]; exact e, l⟩
theorem Out.gcS {K : Rs Q -> Nat -> Prop} {r : R D} (iv : Iv B F h c) (o : Out B F h (RlS B) K r) : Out B F h (RlS B) K (gcR h r) := by
 cases o with
 | @ok q c' w h' F' k i2 g r =>
  obtain ⟨ic, gc', hs⟩ := iv.cut g i2
  show Out B F h (RlS B) K (gc h w h')
  unfold gc
  rw [if_pos (aHQ g i2)]
  by_cases hl : w.lim h.length = true
  ·rw [if_pos hl]
   exact .ok k ic gc' (r.cut g.dn hs hl)
  ·rw [if_neg hl]
   split
   ·rename_i i
    split
    ·rename_i ws e
     split
     ·rename_i hz
      have t : ∃ qs, q = .lst qs /\ Reps F' B.sa h' qs ws := by
       rcases r.top with ⟨_, z⟩ | ⟨f, t⟩
       ·exact absurd (by simp [z, iv.sal]) hl
       ·cases q with
        | lst qs => obtain ⟨ws', e', r'⟩ := t; rw [e] at e'; cases e'; exact ⟨qs, rfl, r'⟩
        | dK qs => obtain ⟨ws', e', r'⟩ := t; rw [e] at e'; cases e'
        | dT qs => obtain ⟨ws', e', r'⟩ := t; rw [e] at e'; cases e'
        | ins m qs => obtain ⟨ws', e', r'⟩ := t; rw [e] at e'; cases e'
        | _ => exact t.elim
      obtain ⟨qs, rfl, rs⟩ := t
      refine .ok k ic gc' ?_
      simp only [RlS, Rep]
      exact ⟨ws, .inl rfl, rs.cut g.dn hs hz.1⟩
     ·exact .ok k i2 g r
    ·rename_i x hx e
     split
     ·rename_i hz
      have t : Top F' B.sa h' i q := by
       rcases r.top with ⟨_, z⟩ | ⟨f, t⟩
       ·exact absurd (by simp [z, iv.sal]) hl
       ·exact t
      have ia := ic.app x
      have lt : (h'.take h.length).length = h.length := by have := g.len; simp; omega
      have hs2 : ∀ a, F a -> (h'.take h.length ++ [x])[a]? = h'[a]? /\ ∃ x, h'[a]? = some x /\ x.lim h.length = true := fun a f => by
       obtain ⟨s1, s2⟩ := hs a f
       exact ⟨by rw [List.getElem?_append_left (by rw [lt]; exact iv.lt f)]; exact s1, s2⟩
      have t2 : Top F B.sa (h'.take h.length ++ [x]) h.length q := t.cut g.dn hs2 e hz.1 (by rw [List.getElem?_append_right (by omega)]; simp [lt])
      exact .ok (F' := Fx F h.length) k (ia.freeze iv.len t2) ((gc'.trans (Iv.geApp ic)).fx (Nat.le_refl _)) ((t2.mono uT rfl).rep (.inr rfl))
     ·exact .ok k i2 g r
    ·exact .ok k i2 g r
   ·exact .ok k i2 g r
 | @exc n c' fs fs' h' F' k i2 g r =>
  obtain ⟨ic, gc', hs⟩ := iv.cut g i2
  show Out B F h (RlS B) K (gcX h n fs' h')
  unfold gcX
  split
  ·rename_i hz
   exact .exc k ic gc' (r.cut g.dn hs hz.2)
  ·exact .exc k i2 g r
theorem Out.gcF {K : Rs Q -> Nat -> Prop} {r : R D} (iv : Iv B F h c) (o : Out B F h (RlF h.length B) K r) : Out B F h (RlF h.length B) K (gcR h r) := by
 cases o with
 | @ok q c' w h' F' k i2 g r =>
  obtain ⟨ic, gc', hs⟩ := iv.cut g i2
  show Out B F h (RlF h.length B) K (gc h w h')
  unfold gc
  rw [if_pos (aHQ g i2)]
  rcases r with ⟨qs, ws, rfl, rfl, r⟩ | ⟨a, rfl, ha, hf, t⟩
  ·by_cases hl : (D.tl ws).lim h.length = true
   ·rw [if_pos hl]
    exact .ok k ic gc' (.inl ⟨qs, ws, rfl, rfl, r.cut g.dn hs (by simpa using hl)⟩)
   ·rw [if_neg hl]
    exact .ok k i2 g (.inl ⟨qs, ws, rfl, rfl, r⟩)
  ·have hl : ¬ (D.ref a).lim h.length = true := by simp; omega
   rw [if_neg hl]
   simp only
   split
   ·rename_i ws e
    split
    ·rename_i hz
     have t' : ∃ qs, q = .lst qs /\ Reps F' B.sa h' qs ws := by
      cases q with
      | lst qs => obtain ⟨ws', e', r'⟩ := t; rw [e] at e'; cases e'; exact ⟨qs, rfl, r'⟩
      | dK qs => obtain ⟨ws', e', r'⟩ := t; rw [e] at e'; cases e'
      | dT qs => obtain ⟨ws', e', r'⟩ := t; rw [e] at e'; cases e'
      | ins m qs => obtain ⟨ws', e', r'⟩ := t; rw [e] at e'; cases e'
      | _ => exact t.elim
     obtain ⟨qs, rfl, rs⟩ := t'
     exact .ok k ic gc' (.inl ⟨qs, ws, rfl, rfl, rs.cut g.dn hs hz.1⟩)
    ·exact .ok k i2 g (.inr ⟨a, rfl, ha, hf, t⟩)
   ·rename_i x hx e
    split
    ·rename_i hz
     have ia := ic.app x
     have lt : (h'.take h.length).length = h.length := by have := g.len; simp; omega
     have hs2 : ∀ a, F a -> (h'.take h.length ++ [x])[a]? = h'[a]? /\ ∃ x, h'[a]? = some x /\ x.lim h.length = true := fun a f => by
      obtain ⟨s1, s2⟩ := hs a f
      exact ⟨by rw [List.getElem?_append_left (by rw [lt]; exact iv.lt f)]; exact s1, s2⟩
     have t2 : Top F B.sa (h'.take h.length ++ [x]) h.length q := t.cut g.dn hs2 e hz.1 (by rw [List.getElem?_append_right (by omega)]; simp [lt])
     exact .ok k ia (gc'.trans (Iv.geApp ic)) (.inr ⟨h.length, rfl, Nat.le_refl _, fun z => Nat.lt_irrefl _ (iv.lt z), t2⟩)
    ·exact .ok k i2 g (.inr ⟨a, rfl, ha, hf, t⟩)
   ·exact .ok k i2 g (.inr ⟨a, rfl, ha, hf, t⟩)
 | @exc n c' fs fs' h' F' k i2 g r =>
  obtain ⟨ic, gc', hs⟩ := iv.cut g i2
  show Out B F h (RlF h.length B) K (gcX h n fs' h')
  unfold gcX
  split
  ·rename_i hz
   exact .exc k ic gc' (r.cut g.dn hs hz.2)
  ·exact .exc k i2 g r
/-- fresh is more than whole -/
theorem pP.rep (iv : Iv B F h c) (hn : B.h0.length <= n) (r : pP n F B.sa h q w) : ∃ F2, Iv B F2 h c /\ (∀ F0 h0, Ge B.sa F0 h0 F h -> h0.length <= n -> Ge B.sa F0 h0 F2 h) /\ Rep F2 B.sa h q w := by
 rcases r with ⟨qs, ws, rfl, rfl, r⟩ | ⟨a, rfl, ha, hf, t⟩
 ·refine ⟨F, iv, fun _ _ g _ => g, ?_⟩
  simp only [Rep]; exact ⟨ws, .inl rfl, r⟩
 ·exact ⟨Fx F a, iv.freeze (Nat.le_trans hn ha) t, fun _ _ g l => g.fx (Nat.le_trans l ha), (t.mono uT rfl).rep (.inr rfl)⟩
theorem Out.fs {K : Rs Q -> Nat -> Prop} {r : R D} (iv : Iv B F h c) (o : Out B F h (RlF h.length B) K r) : Out B F h (RlS B) K r := by
 cases o with
 | ok k i2 g r =>
  obtain ⟨F2, i3, g3, r3⟩ := r.rep i2 iv.len
  exact .ok k i3 (g3 _ _ g (Nat.le_refl _)) r3
 | exc k i2 g r => exact .exc k i2 g r
end
inductive Sl where
 | no | fz (q : Q) | ow (q : Q) | eqd (w : D)
structure En (B : Bs) (F : Nat -> Prop) (O : Nat -> Option Nat) (h : Hh) (Γ : List Sl) (σ : Sg) : Prop where
 len : σ.length = Γ.length
 fz : ∀ (i : Nat) (q : Q), Γ[i]? = some (.fz q) -> ∃ w, σ[i]? = some (some w) /\ w.isTl = false /\ Rep F B.sa h q w
 ow : ∀ (i : Nat) (q : Q), Γ[i]? = some (.ow q) -> ∃ a, O i = some a /\ σ[i]? = some (some (.ref a)) /\ Top F B.sa h a q
 oh : ∀ i a, O i = some a -> B.h0.length <= a /\ ¬ F a /\ a < h.length
 inj : ∀ i j a, O i = some a -> O j = some a -> i = j
 eqd : ∀ (i : Nat) (w : D), Γ[i]? = some (.eqd w) -> σ[i]? = some (some w)
/-- whole, or a list or dict of one's own -/
def pQ (B : Bs) (O : Nat -> Option Nat) (F : Nat -> Prop) (h : Hh) (q : Q) (w : D) : Prop := Rep F B.sa h q w \/ ∃ i a, O i = some a /\ w = .ref a /\ Top F B.sa h a q
section
variable {F F' F1 F2 : Nat -> Prop} {sa a n c c' : Nat} {h h' h1 h2 : Hh} {w : D} {ws : List D} {q : Q} {qs : List Q} {B : Bs} {O : Nat -> Option Nat} {Γ : List Sl} {σ : Sg}
theorem En.ge (en : En B F O h Γ σ) (iv : Iv B F h c) (g : Ge B.sa F h F1 h1) : En B F1 O h1 Γ σ := by
 have hs := iv.sl
 refine ⟨en.len, fun i q e => ?_, fun i q e => ?_, fun i a e => ?_, en.inj, en.eqd⟩
 ·obtain ⟨w, e1, e2, r⟩ := en.fz i q e
  exact ⟨w, e1, e2, r.mono g.toGw⟩
 ·obtain ⟨a, e1, e2, t⟩ := en.ow i q e
  obtain ⟨o1, o2, o3⟩ := en.oh i a e1
  exact ⟨a, e1, e2, t.mono g.toGw (g.old a o3 (by omega))⟩
 ·obtain ⟨o1, o2, o3⟩ := en.oh i a e
  exact ⟨o1, fun z => o2 (g.dn a o3 z), Nat.lt_of_lt_of_le o3 g.len⟩
theorem pQ.ge (en : En B F O h Γ σ) (iv : Iv B F h c) (g : Ge B.sa F h F1 h1) (r : pQ B O F h q w) : pQ B O F1 h1 q w := by
 have hs := iv.sl
 rcases r with r | ⟨i, a, e1, e2, t⟩
 ·exact .inl (r.mono g.toGw)
 ·obtain ⟨o1, o2, o3⟩ := en.oh i a e1
  exact .inr ⟨i, a, e1, e2, t.mono g.toGw (g.old a o3 (by omega))⟩
end
end PV
end
section
namespace PV
open PySem PySem.Spec PyProof.Rows L2
/-- as Rep, but the cell at the top need not be frozen -/
def Vw (F : Nat -> Prop) (sa : Nat) (h : Hh) : Q -> D -> Prop
 | .lst qs, w => ∃ ws, (w = .tl ws \/ ∃ a, w = .ref a /\ h[a]? = some (.lst ws)) /\ Reps F sa h qs ws
 | .dK kvs, w => ∃ a ws, w = .ref a /\ h[a]? = some (.dK ws) /\ aN F sa h kvs ws
 | .dT kvs, w => ∃ a ws, w = .ref a /\ h[a]? = some (.dT ws) /\ aN F sa h kvs ws
 | .ins c kvs, w => ∃ a ws, w = .ref a /\ h[a]? = some (.ins c ws) /\ aN F sa h kvs ws
 | q, w => Rep F sa h q w
section
variable {F : Nat -> Prop} {sa : Nat} {h : Hh} {q x y : Q} {w u v : D} {qs : List Q} {ws : List D} {B : Bs} {O : Nat -> Option Nat}
theorem Rep.vw (r : Rep F sa h q w) : Vw F sa h q w := by
 cases q with
 | lst qs =>
  simp only [Rep, Vw] at r ⊢
  obtain ⟨ws, e, r⟩ := r
  refine ⟨ws, ?_, r⟩
  rcases e with e | ⟨a, e, _, e2⟩
  ·exact .inl e
  ·exact .inr ⟨a, e, e2⟩
 | dK qs => rw [mW] at r; obtain ⟨a, ws, e, _, e2, r⟩ := r; exact ⟨a, ws, e, e2, r⟩
 | dT qs => rw [mX] at r; obtain ⟨a, ws, e, _, e2, r⟩ := r; exact ⟨a, ws, e, e2, r⟩
 | ins c qs => rw [jX] at r; obtain ⟨a, ws, e, _, e2, r⟩ := r; exact ⟨a, ws, e, e2, r⟩
 | _ => exact r
theorem Top.vw {a : Nat} (t : Top F sa h a q) : Vw F sa h q (.ref a) := by
 cases q with
 | lst qs => obtain ⟨ws, e, r⟩ := t; exact ⟨ws, .inr ⟨a, rfl, e⟩, r⟩
 | dK qs => obtain ⟨ws, e, r⟩ := t; exact ⟨a, ws, rfl, e, r⟩
 | dT qs => obtain ⟨ws, e, r⟩ := t; exact ⟨a, ws, rfl, e, r⟩
 | ins c qs => obtain ⟨ws, e, r⟩ := t; exact ⟨a, ws, rfl, e, r⟩
 | _ => exact t.elim
theorem pQ.vw (r : pQ B O F h q w) : Vw F B.sa h q w := by
 rcases r with r | ⟨i, a, _, rfl, t⟩
 ·exact r.vw
 ·exact t.vw
theorem pP.vw {n : Nat} (r : pP n F sa h q w) : Vw F sa h q w := by
 rcases r with ⟨qs, ws, rfl, rfl, r⟩ | ⟨a, rfl, _, _, t⟩
 ·exact ⟨ws, .inl rfl, r⟩
 ·exact t.vw
theorem fS (v : Vw F sa h (.lst qs) w) : ∃ ws, asL h w = some ws /\ asM h w = some ws /\ asT w = none /\ tyD h w = some "list" /\ Reps F sa h qs ws := by
 obtain ⟨ws, rfl | ⟨a, rfl, e⟩, r⟩ := v
 ·exact ⟨ws, rfl, rfl, rfl, rfl, r⟩
 ·exact ⟨ws, by simp [asL, e], by simp [asM, e], rfl, by simp [tyD, e], r⟩
theorem cC (v : Vw F sa h (.tup qs) w) : ∃ ws, w = .tup ws /\ Reps F sa h qs ws := by simpa only [Vw, Rep] using v
theorem kL (v : Vw F sa h (.kt qs) w) : ∃ ws, w = .kt ws /\ Reps F sa h qs ws := by simpa only [Vw, Rep] using v
theorem cO {i : Int} (v : Vw F sa h (.int i) w) : w = .int i := by simpa only [Vw, Rep] using v
theorem tY {i : Bool} (v : Vw F sa h (.bl i) w) : w = .bl i := by simpa only [Vw, Rep] using v
theorem cX {i : Str} (v : Vw F sa h (.str i) w) : w = .str i := by simpa only [Vw, Rep] using v
theorem aBv (v : Vw F sa h .non w) : w = .non := by simpa only [Vw, Rep] using v
theorem aGh {n : String} (v : Vw F sa h (.ty n) w) : w = .ty n := by simpa only [Vw, Rep] using v
theorem aJl {n : Nat} (v : Vw F sa h (.cls n) w) : w = .cls n := by simpa only [Vw, Rep] using v
theorem aGi {c : Nat} {ks : List Str} (v : Vw F sa h (.xc c ks qs) w) : ∃ ws, w = .xc c ks ws /\ Reps F sa h qs ws := by simpa only [Vw, Rep] using v
theorem bY {i : Int} : Rep F sa h (.int i) (.int i) := by simp only [Rep]
theorem jM {i : Bool} : Rep F sa h (.bl i) (.bl i) := by simp only [Rep]
theorem gK {i : Str} : Rep F sa h (.str i) (.str i) := by simp only [Rep]
theorem aCp : Rep F sa h .non .non := by simp only [Rep]
theorem cZ (r : Reps F sa h qs ws) : Rep F sa h (.tup qs) (.tup ws) := by simp only [Rep]; exact ⟨ws, rfl, r⟩
theorem aEf (r : Reps F sa h qs ws) : Rep F sa h (.lst qs) (.tl ws) := by simp only [Rep]; exact ⟨ws, .inl rfl, r⟩
def aY : Nat -> Q -> Option PyData
 | 0, _ => none
 | n + 1, q => match q with
  | .non => some .none
  | .bl b => some (.bool b)
  | .int i => some (.int i)
  | .str x => some (.str x)
  | .tup ws => (aJ (aY n) ws).map .tuple
  | .kt ws => (aJ (aY n) ws).map .tuple
  | .lst ws => (aJ (aY n) ws).map .list
  | _ => none
theorem eR {β : Type} {f : Q -> Option β} {g : D -> Option β} (hf : ∀ q w b, Rep F sa h q w -> f q = some b -> g w = some b) : ∀ {qs : List Q} {ws : List D} {bs : List β}, Reps F sa h qs ws -> aJ f qs = some bs -> aJ g ws = some bs
 | [], _, bs, r, e => by simp only [Reps] at r; subst r; simpa [aJ] using e
 | q :: qs, _, bs, r, e => by
  simp only [Reps] at r
  obtain ⟨w, r, rfl, _, h2, z⟩ := r
  simp only [aJ] at e ⊢
  cases e1 : f q with
  | none => rw [e1] at e; cases e
  | some b =>
   cases e2 : aJ f qs with
   | none => rw [e1, e2] at e; cases e
   | some b' =>
    rw [e1, e2] at e
    rw [hf q w b h2 e1, eR hf z e2]
    exact e
theorem gV : ∀ {n : Nat} {q : Q} {w : D} {d : PyData}, Vw F sa h q w -> aY n q = some d -> toP h n w = some d
 | 0, _, _, _, _, e => by simp [aY] at e
 | n + 1, q, w, d, v, e => by
  have ih : ∀ q w b, Rep F sa h q w -> aY n q = some b -> toP h n w = some b := fun q w b r e => gV r.vw e
  cases q with
  | non => cases aBv v; simpa [toP, aY] using e
  | bl b => cases tY v; simpa [toP, aY] using e
  | int i => cases cO v; simpa [toP, aY] using e
  | str x => cases cX v; simpa [toP, aY] using e
  | tup qs =>
   obtain ⟨ws, rfl, r⟩ := cC v
   simp only [aY, Option.map_eq_some_iff] at e
   obtain ⟨ds, e, rfl⟩ := e
   simp only [toP, eR ih r e, Option.map_some]
  | kt qs =>
   obtain ⟨ws, rfl, r⟩ := kL v
   simp only [aY, Option.map_eq_some_iff] at e
   obtain ⟨ds, e, rfl⟩ := e
   simp only [toP, eR ih r e, Option.map_some]
  | lst qs =>
   obtain ⟨ws, hw, r⟩ := v
   simp only [aY, Option.map_eq_some_iff] at e
   obtain ⟨ds, e, rfl⟩ := e
   rcases hw with rfl | ⟨a, rfl, ea⟩
   ·simp only [toP, eR ih r e, Option.map_some]
   ·simp only [toP, ea, eR ih r e, Option.map_some]
  | _ => simp [aY] at e
def mK (f : D -> Hh -> R D) (g : Q -> Option Q) : Prop := ∀ (F : Nat -> Prop) (sa : Nat) (h : Hh) (x : Q) (u : D) (q : Q), Vw F sa h x u -> g x = some q -> ∃ w, f u h = .ok w h /\ Rep F sa h q w
def mL (f : D -> D -> Hh -> R D) (g : Q -> Q -> Option Q) : Prop := ∀ (F : Nat -> Prop) (sa : Nat) (h : Hh) (x y : Q) (u v : D) (q : Q), Vw F sa h x u -> Vw F sa h y v -> g x y = some q -> ∃ w, f u v h = .ok w h /\ Rep F sa h q w
def aJA (f : D -> D -> Hh -> R D) (g : Q -> Q -> Option Q) : Prop := ∀ (F : Nat -> Prop) (sa : Nat) (h : Hh) (x y : Q) (u v : D) (q : Q), Vw F sa h x u -> Vw F sa h y v -> g x y = some q -> ∃ qs ws, q = .lst qs /\ f u v h = .ok (.tl ws) h /\ Reps F sa h qs ws
def cL : Q -> Q -> Option Q
 | .int i, .int j => some (.int (i + j))
 | .str i, .str j => if i.length + j.length <= sizeLine then some (.str (i ++ j)) else none
 | .tup i, .tup j => if i.length + j.length <= sizeLine then some (.tup (i ++ j)) else none
 | .lst i, .lst j => if i.length + j.length <= sizeLine then some (.lst (i ++ j)) else none
 | _, _ => none
def aF9 : Q -> Q -> Option Q
 | .lst i, .lst j => if i.length + j.length <= sizeLine then some (.lst (i ++ j)) else none
 | _, _ => none
theorem aIt : aJA bM aF9 := by
 intro F sa h x y u v q rx ry e
 unfold aF9 at e
 split at e
 ·split at e
  ·rename_i i j hl
   cases e
   obtain ⟨ws, a1, a2, a3, a4, r1⟩ := fS rx
   obtain ⟨us, b1, b2, b3, b4, r2⟩ := fS ry
   refine ⟨_, ws ++ us, rfl, ?_, r1.app r2⟩
   have hl' : ws.length + us.length <= sizeLine := by rw [r1.len, r2.len]; exact hl
   obtain ⟨_, rfl | ⟨a, rfl, ea⟩, _⟩ := rx <;> simp only [bM, asT, a2, b2, hl', if_true]
  ·cases e
 ·cases e
theorem iJ : mL bM cL := by
 intro F sa h x y u v q rx ry e
 unfold cL at e
 split at e
 ·cases e; cases cO rx; cases cO ry; exact ⟨_, rfl, bY⟩
 ·split at e
  ·rename_i hl
   cases e; cases cX rx; cases cX ry; exact ⟨_, by simp only [bM, hl, if_true], gK⟩
  ·cases e
 ·split at e
  ·rename_i hl
   cases e
   obtain ⟨ws, rfl, r1⟩ := cC rx
   obtain ⟨us, rfl, r2⟩ := cC ry
   rw [<- r1.len, <- r2.len] at hl
   exact ⟨_, aEI (by exact hl), cZ (r1.app r2)⟩
  ·cases e
 ·rename_i i j
  obtain ⟨qs, ws, rfl, e2, r⟩ := aIt F sa h _ _ u v q rx ry e
  exact ⟨_, e2, aEf r⟩
 ·cases e
def aC5 : Q -> Q -> Option Q
 | .int i, .int j => some (.int (i - j))
 | _, _ => none
theorem aKc : mL kB aC5 := by
 intro F sa h x y u v q rx ry e
 unfold aC5 at e
 split at e
 ·cases e; cases cO rx; cases cO ry; exact ⟨_, rfl, bY⟩
 ·cases e
theorem aFy {n : Nat} (r : Reps F sa h qs ws) : Reps F sa h (List.replicate n qs).flatten (List.replicate n ws).flatten := by
 induction n with
 | zero => simp [Reps]
 | succ n ih => simp only [List.replicate_succ, List.flatten_cons]; exact r.app ih
def qP (x y : Q) : Option Bool := match x, y with
 | .str a, .str b => some (decide (a = b))
 | x, y => match aY bJ x, aY bJ y with
  | some d, some e => if SeqAt.shaped d && SeqAt.shaped e then some (PyData.eqv d e) else none
  | _, _ => none
def qEq (x y : Q) : Option Q := (qP x y).map .bl
def qNe (x y : Q) : Option Q := (qP x y).map fun b => .bl (!b)
theorem aB1 {b : Bool} (rx : Vw F sa h x u) (ry : Vw F sa h y v) (e : qP x y = some b) : eqW u v h = .ok (.bl b) h /\ neW u v h = .ok (.bl (!b)) h := by
 unfold qP at e
 split at e
 ·cases e; cases cX rx; cases cX ry; exact ⟨rfl, rfl⟩
 ·rename_i hn
  split at e
  ·rename_i d d' e1 e2
   split at e
   ·rename_i hz
    cases e
    have p1 := gV rx e1
    have p2 := gV ry e2
    have hne : ¬ ∃ a b, u = .str a /\ v = .str b := by
     rintro ⟨a, b, rfl, rfl⟩
     have t1 : toP h bJ (.str a) = some (.str a) := rfl
     have t2 : toP h bJ (.str b) = some (.str b) := rfl
     rw [t1] at p1; rw [t2] at p2
     cases p1; cases p2
     have k1 : ∀ {x : Q} {a : Str}, aY bJ x = some (.str a) -> x = .str a := fun {x a} e => by
      cases x with
      | str z => simp only [aY, bJ] at e; cases e; rfl
      | tup z => simp only [aY, bJ, Option.map_eq_some_iff] at e; obtain ⟨_, _, e⟩ := e; cases e
      | kt z => simp only [aY, bJ, Option.map_eq_some_iff] at e; obtain ⟨_, _, e⟩ := e; cases e
      | lst z => simp only [aY, bJ, Option.map_eq_some_iff] at e; obtain ⟨_, _, e⟩ := e; cases e
      | _ => simp only [aY, bJ] at e; cases e
     exact hn a b (k1 e1) (k1 e2)
    have ed : eqD h u v = some (PyData.eqv d d') := by simp only [eqD, p1, p2, hz, if_true]
    constructor
    ·unfold eqW; split
     ·exact absurd ⟨_, _, rfl, rfl⟩ hne
     ·rw [ed]
    ·unfold neW; split
     ·exact absurd ⟨_, _, rfl, rfl⟩ hne
     ·rw [ed]
   ·cases e
  ·cases e
theorem aIu : mL eqW qEq := by
 intro F sa h x y u v q rx ry e
 unfold qEq at e
 obtain ⟨b, e', rfl⟩ := Option.map_eq_some_iff.mp e
 exact ⟨_, (aB1 rx ry e').1, jM⟩
theorem aLV : mL neW qNe := by
 intro F sa h x y u v q rx ry e
 unfold qNe at e
 obtain ⟨b, e', rfl⟩ := Option.map_eq_some_iff.mp e
 exact ⟨_, (aB1 rx ry e').2, jM⟩
end
end PV
end
section
namespace PV
open PySem PySem.Spec PyProof.Rows L2
section
variable {F : Nat -> Prop} {sa : Nat} {h : Hh} {q x y : Q} {w u v : D} {qs : List Q} {ws : List D}
def vS : Q -> Option Key
 | .int i => some (.inl i)
 | .str x => some (.inr x)
 | _ => none
theorem yK {q : Q} {w : D} {k : Key} (r : Vw F sa h q w) (e : vS q = some k) : toK w = some k := by
 cases q with
 | int i => cases cO r; exact e
 | str i => cases cX r; exact e
 | _ => simp [vS] at e
def bX {κ : Type} [DecidableEq κ] (kvs : List (κ × Q)) (k : κ) : Option Q := (kvs.find? fun kv => decide (kv.1 = k)).map (·.2)
theorem uS {κ : Type} [DecidableEq κ] {k : κ} : ∀ {kvs : List (κ × Q)} {ws : List (κ × D)}, aN F sa h kvs ws -> (bX kvs k = none /\ fN ws k = none) \/ ∃ q w, bX kvs k = some q /\ fN ws k = some w /\ w.isTl = false /\ Rep F sa h q w
 | [], _, r => by simp only [aN] at r; subst r; exact .inl ⟨rfl, rfl⟩
 | (k', q) :: kvs, _, r => by
  simp only [aN] at r
  obtain ⟨w, r, rfl, h1, h2, z⟩ := r
  by_cases hk : k' = k
  ·subst hk
   exact .inr ⟨q, w, by simp [bX], by simp [fN], h1, h2⟩
  ·have ih := uS (k := k) z
   have e1 : bX ((k', q) :: kvs) k = bX kvs k := by simp [bX, List.find?_cons, hk]
   have e2 : fN ((k', w) :: r) k = fN r k := by simp [fN, List.find?_cons, hk]
   rw [e1, e2]; exact ih
/-- a key's place in a dict -/
def jG (d k : Q) : Option (Option Q) := match d with
 | .dK kvs => (vS k).map (bX kvs)
 | .dT kvs => match k with
  | .tup ks => (aJ vS ks).map (bX kvs)
  | _ => none
 | _ => none
theorem pW {o : Option Q} (rx : Vw F sa h x u) (ry : Vw F sa h y v) (e : jG x y = some o) : (∃ a, u = .ref a /\ eC h u = none) /\ ((o = none /\ jF h u v = some none) \/ ∃ q w, o = some q /\ jF h u v = some (some w) /\ w.isTl = false /\ Rep F sa h q w) := by
 cases x with
 | dK kvs =>
  obtain ⟨a, ws, rfl, ea, r⟩ := rx
  simp only [jG, Option.map_eq_some_iff] at e
  obtain ⟨k, e1, rfl⟩ := e
  have e2 := yK ry e1
  refine ⟨⟨a, rfl, by simp [eC, ea]⟩, ?_⟩
  have : jF h (.ref a) v = some (fN ws k) := by simp only [jF, ea, e2]
  rw [this]
  rcases uS (k := k) r with ⟨h1, h2⟩ | ⟨q, w, h1, h2, h3, h4⟩
  ·exact .inl ⟨h1, by rw [h2]⟩
  ·exact .inr ⟨q, w, h1, by rw [h2], h3, h4⟩
 | dT kvs =>
  obtain ⟨a, ws, rfl, ea, r⟩ := rx
  cases y with
  | tup ks =>
   obtain ⟨us, rfl, r2⟩ := cC ry
   simp only [jG, Option.map_eq_some_iff] at e
   obtain ⟨k, e1, rfl⟩ := e
   have e2 : aJ toK us = some k := eR (fun q w b r e => yK r.vw e) r2 e1
   refine ⟨⟨a, rfl, by simp [eC, ea]⟩, ?_⟩
   have : jF h (.ref a) (.tup us) = some (fN ws k) := by simp only [jF, ea, e2]
   rw [this]
   rcases uS (k := k) r with ⟨h1, h2⟩ | ⟨q, w, h1, h2, h3, h4⟩
   ·exact .inl ⟨h1, by rw [h2]⟩
   ·exact .inr ⟨q, w, h1, by rw [h2], h3, h4⟩
  | _ => simp [jG] at e
 | _ => simp [jG] at e
theorem xC {n : Nat} {x : Q} {ds : List PyData} (e : aY n x = some (.tuple ds)) : (∃ qs, x = .tup qs) \/ ∃ qs, x = .kt qs := by
 cases n with
 | zero => cases e
 | succ n =>
  cases x with
  | tup qs => exact .inl ⟨qs, rfl⟩
  | kt qs => exact .inr ⟨qs, rfl⟩
  | lst qs => simp only [aY, Option.map_eq_some_iff] at e; obtain ⟨_, _, e⟩ := e; cases e
  | _ => simp only [aY] at e; cases e
theorem sM {n : Nat} {x : Q} {ds : List PyData} (e : aY n x = some (.list ds)) : ∃ qs, x = .lst qs := by
 cases n with
 | zero => cases e
 | succ n =>
  cases x with
  | lst qs => exact ⟨qs, rfl⟩
  | tup qs => simp only [aY, Option.map_eq_some_iff] at e; obtain ⟨_, _, e⟩ := e; cases e
  | kt qs => simp only [aY, Option.map_eq_some_iff] at e; obtain ⟨_, _, e⟩ := e; cases e
  | _ => simp only [aY] at e; cases e
def aDk (y z : Str) : Bool := match y.cps.toList with
 | [c] => decide (c ∈ z.cps.toList)
 | _ => !(Builtin.Str.occurrences z y 0 z.length 1).isEmpty
theorem aGz {y z : Str} : inO (.str y) (.str z) h = some (aDk y z) := by
 simp only [inO, aDk]
 generalize y.cps.toList = l
 match l with
 | [] => rfl
 | [_] => rfl
 | _ :: _ :: _ => rfl
def gT (x y : Q) : Option Bool := match y with
 | .str z => match x with
  | .str y => some (aDk y z)
  | _ => none
 | .dK kvs => (jG (.dK kvs) x).map Option.isSome
 | .dT kvs => (jG (.dT kvs) x).map Option.isSome
 | y => match aY bJ x, aY bJ y with
  | some d, some (.tuple ds) => if SeqAt.shaped d && SeqAt.shaped (.tuple ds) then some (ds.any fun z => PyData.eqv z d) else none
  | some d, some (.list ds) => if SeqAt.shaped d && SeqAt.shaped (.list ds) then some (ds.any fun z => PyData.eqv z d) else none
  | _, _ => none
theorem aB9 {b : Bool} (rx : Vw F sa h x u) (ry : Vw F sa h y v) (e : gT x y = some b) : inO u v h = some b := by
 cases y with
 | str z =>
  cases cX ry
  cases x with
  | str y => cases cX rx; rw [aGz]; exact e
  | _ => simp [gT] at e
 | dK kvs =>
  simp only [gT, Option.map_eq_some_iff] at e
  obtain ⟨o, e, rfl⟩ := e
  obtain ⟨⟨a, rfl, _⟩, hd⟩ := pW ry rx e
  simp only [inO]
  rcases hd with ⟨rfl, hd⟩ | ⟨q, w, rfl, hd, _⟩ <;> rw [hd] <;> rfl
 | dT kvs =>
  simp only [gT, Option.map_eq_some_iff] at e
  obtain ⟨o, e, rfl⟩ := e
  obtain ⟨⟨a, rfl, _⟩, hd⟩ := pW ry rx e
  simp only [inO]
  rcases hd with ⟨rfl, hd⟩ | ⟨q, w, rfl, hd, _⟩ <;> rw [hd] <;> rfl
 | tup qs =>
  obtain ⟨ws, rfl, r⟩ := cC ry
  simp only [gT] at e
  split at e
  ·rename_i d ds e1 e2
   have p1 := gV rx e1
   have p2 := gV ry e2
   simp only [inO, p1, p2]; exact e
  ·rename_i d ds e1 e2
   obtain ⟨_, e2⟩ := sM e2; cases e2
  ·cases e
 | kt qs =>
  obtain ⟨ws, rfl, r⟩ := kL ry
  simp only [gT] at e
  split at e
  ·rename_i d ds e1 e2
   have p1 := gV rx e1
   have p2 := gV ry e2
   simp only [inO, p1, p2]; exact e
  ·rename_i d ds e1 e2
   obtain ⟨_, e2⟩ := sM e2; cases e2
  ·cases e
 | lst qs =>
  simp only [gT] at e
  split at e
  ·rename_i d ds e1 e2
   rcases xC e2 with ⟨_, e2⟩ | ⟨_, e2⟩ <;> cases e2
  ·rename_i d ds e1 e2
   have p1 := gV rx e1
   have p2 := gV ry e2
   obtain ⟨ws, rfl | ⟨a, rfl, ea⟩, r⟩ := ry
   ·simp only [inO, jF, p1, p2]; exact e
   ·simp only [inO, jF, ea, p1, p2]; exact e
  ·cases e
 | _ =>
  simp only [gT] at e
  split at e
  ·rename_i d ds e1 e2
   rcases xC e2 with ⟨_, e2⟩ | ⟨_, e2⟩ <;> cases e2
  ·rename_i d ds e1 e2
   obtain ⟨_, e2⟩ := sM e2; cases e2
  ·cases e
def qIn (x y : Q) : Option Q := (gT x y).map .bl
def qNi (x y : Q) : Option Q := (gT x y).map fun b => .bl (!b)
theorem aDa : mL inW qIn := by
 intro F sa h x y u v q rx ry e
 obtain ⟨b, e', rfl⟩ := Option.map_eq_some_iff.mp e
 exact ⟨_, by simp only [inW, aB9 rx ry e'], jM⟩
theorem aIx : mL niW qNi := by
 intro F sa h x y u v q rx ry e
 obtain ⟨b, e', rfl⟩ := Option.map_eq_some_iff.mp e
 exact ⟨_, by simp only [niW, aB9 rx ry e'], jM⟩
def kD : Q -> Option Int
 | .int i => some i
 | _ => none
theorem aHq {q : Q} {w : D} {k : Int} (r : Rep F sa h q w) (e : kD q = some k) : toI w = some k := by
 cases q with
 | int i => cases cO r.vw; exact e
 | _ => simp [kD] at e
def qLt : Q -> Q -> Option Q
 | .int i, .int j => some (.bl (decide (i < j)))
 | .str i, .str j => some (.bl (decide (i.cps.toList < j.cps.toList)))
 | .tup i, .tup j => match aJ kD i, aJ kD j with
  | some i, some j => some (.bl (HT.lexLt i j))
  | _, _ => none
 | _, _ => none
def qLe : Q -> Q -> Option Q
 | .int i, .int j => some (.bl (decide (i <= j)))
 | .str i, .str j => some (.bl (!decide (j.cps.toList < i.cps.toList)))
 | _, _ => none
def qGt : Q -> Q -> Option Q
 | .int i, .int j => some (.bl (decide (j < i)))
 | .str i, .str j => some (.bl (decide (j.cps.toList < i.cps.toList)))
 | _, _ => none
def qGe : Q -> Q -> Option Q
 | .int i, .int j => some (.bl (decide (j <= i)))
 | .str i, .str j => some (.bl (!decide (i.cps.toList < j.cps.toList)))
 | _, _ => none
def Q.isNon : Q -> Bool
 | .non => true
 | _ => false
def qIs : Q -> Q -> Option Q
 | .bl a, .bl b => some (.bl (decide (a = b)))
 | x, .non => some (.bl x.isNon)
 | _, _ => none
def aIj : Q -> Q -> Option Q
 | .bl a, .bl b => some (.bl (!decide (a = b)))
 | x, .non => some (.bl (!x.isNon))
 | _, _ => none
def qIx (x y : Q) : Option Q := match x, y with
 | .lst qs, .int i => atI qs i
 | .tup qs, .int i => atI qs i
 | .kt qs, .int i => atI qs i
 | .str z, .int i => if z.length <= sizeLine then (atI z.cps.toList i).map fun c => .str ⟨#[c]⟩ else none
 | .dK kvs, y => (jG (.dK kvs) y).join
 | .dT kvs, y => (jG (.dT kvs) y).join
 | _, _ => none
theorem uM {i : Int} (r : Reps F sa h qs ws) (e : atI qs i = some q) : ∃ w, atI ws i = some w /\ Rep F sa h q w := by
 unfold atI at e ⊢
 rw [r.len]
 cases hi : ixN qs.length i with
 | none => rw [hi] at e; cases e
 | some j =>
  rw [hi] at e
  obtain ⟨w, e1, _, e2⟩ := r.get e
  exact ⟨w, e1, e2⟩
theorem vJ : mL ixW qIx := by
 intro F sa h x y u v q rx ry e
 unfold qIx at e
 split at e
 ·cases cO ry
  obtain ⟨ws, a1, a2, a3, a4, r1⟩ := fS rx
  obtain ⟨w, e1, e2⟩ := uM r1 e
  exact ⟨w, by simp only [ixW, a1, e1], e2⟩
 ·cases cO ry
  obtain ⟨ws, rfl, r1⟩ := cC rx
  obtain ⟨w, e1, e2⟩ := uM r1 e
  exact ⟨w, by simp only [ixW, asL, asT, e1], e2⟩
 ·cases cO ry
  obtain ⟨ws, rfl, r1⟩ := kL rx
  obtain ⟨w, e1, e2⟩ := uM r1 e
  exact ⟨w, by simp only [ixW, asL, asT, e1], e2⟩
 ·cases cO ry
  cases cX rx
  split at e
  ·rename_i hl
   obtain ⟨c, e1, rfl⟩ := Option.map_eq_some_iff.mp e
   exact ⟨_, by simp only [ixW, asL, asT, hl, if_true, e1], gK⟩
  ·cases e
 ·obtain ⟨o, e1, e2⟩ := Option.join_eq_some_iff.mp e |> fun z => (⟨some q, z, rfl⟩ : ∃ o, _ = some o /\ o = some q)
  subst e2
  obtain ⟨⟨a, rfl, hl⟩, hd⟩ := pW rx ry e1
  rcases hd with ⟨hd, _⟩ | ⟨q', w, hq, hd, _, hr⟩
  ·cases hd
  ·cases hq
   refine ⟨w, ?_, hr⟩
   have h1 : asL h (.ref a) = none := by
    unfold eC at hl
    simp only [asL]
    cases hh : h[a]? with
    | none => rfl
    | some c => cases c <;> simp_all
   cases v <;> simp only [ixW, h1, asT, hd]
 ·obtain ⟨o, e1, e2⟩ := Option.join_eq_some_iff.mp e |> fun z => (⟨some q, z, rfl⟩ : ∃ o, _ = some o /\ o = some q)
  subst e2
  obtain ⟨⟨a, rfl, hl⟩, hd⟩ := pW rx ry e1
  rcases hd with ⟨hd, _⟩ | ⟨q', w, hq, hd, _, hr⟩
  ·cases hd
  ·cases hq
   refine ⟨w, ?_, hr⟩
   have h1 : asL h (.ref a) = none := by
    unfold eC at hl
    simp only [asL]
    cases hh : h[a]? with
    | none => rfl
    | some c => cases c <;> simp_all
   cases v <;> simp only [ixW, h1, asT, hd]
 ·cases e
def xI (xs : List Q) (lo hi : Option Int) : List Q := (xs.drop (HT.sIx xs.length 0 lo)).take (HT.sIx xs.length xs.length hi - HT.sIx xs.length 0 lo)
def qSl (x : Q) (lo hi : Option Int) : Option Q := match x with
 | .lst qs => some (.lst (xI qs lo hi))
 | .tup qs => some (.tup (xI qs lo hi))
 | .str z => if z.length <= sizeLine then some (.str (cutS z lo hi)) else none
 | _ => none
theorem aAn {lo hi : Option Int} (r : Reps F sa h qs ws) : Reps F sa h (xI qs lo hi) (oG ws lo hi) := by
 unfold xI oG
 rw [r.len]
 exact (r.drop _).take _
theorem aGr {lo hi : Option Int} (hz : HT.sIx ws.length 0 lo = 0 /\ HT.sIx ws.length ws.length hi = ws.length) : oG ws lo hi = ws := by
 unfold oG
 rw [hz.1, hz.2]; simp
theorem aLW {lo hi : Option Int} (rx : Vw F sa h x u) (e : qSl x lo hi = some q) : ∃ w, slW u lo hi h = .ok w h /\ Rep F sa h q w := by
 unfold qSl at e
 split at e
 ·cases e
  obtain ⟨ws, a1, a2, a3, a4, r1⟩ := fS rx
  exact ⟨_, by simp only [slW, a1], aEf (aAn r1)⟩
 ·cases e
  obtain ⟨ws, rfl, r1⟩ := cC rx
  refine ⟨.tup (oG ws lo hi), ?_, cZ (aAn r1)⟩
  simp only [slW, asL, asT]
  split
  ·rename_i hz; rw [aGr hz]
  ·rfl
 ·split at e
  ·rename_i hl
   cases e; cases cX rx
   exact ⟨_, by simp only [slW, asL, asT, hl, if_true], gK⟩
  ·cases e
 ·cases e
end
end PV
end
section
namespace PV
open PySem PySem.Spec PyProof.Rows L2
section
variable {F : Nat -> Prop} {sa : Nat} {h : Hh} {q x y : Q} {w u v : D} {qs : List Q} {ws : List D}
def vF : Q -> Option Q
 | .lst qs => some (.int qs.length)
 | .tup qs => some (.int qs.length)
 | .kt qs => some (.int qs.length)
 | .str z => if z.length <= sizeLine then some (.int z.length) else none
 | .dK kvs => some (.int kvs.length)
 | .dT kvs => some (.int kvs.length)
 | _ => none
theorem aN.len {κ : Type} {kvs : List (κ × Q)} {ws : List (κ × D)} (r : aN F sa h kvs ws) : ws.length = kvs.length := by
 have := congrArg List.length r.keys
 simpa using this
theorem aGb : mK cR vF := by
 intro F sa h x u q rx e
 unfold vF at e
 split at e
 ·cases e
  obtain ⟨ws, a1, a2, a3, a4, r1⟩ := fS rx
  exact ⟨.int ws.length, by simp only [cR, a1], by rw [r1.len]; exact bY⟩
 ·cases e
  obtain ⟨ws, rfl, r1⟩ := cC rx
  exact ⟨.int ws.length, by simp only [cR, asL, asT], by rw [r1.len]; exact bY⟩
 ·cases e
  obtain ⟨ws, rfl, r1⟩ := kL rx
  exact ⟨.int ws.length, by simp only [cR, asL, asT], by rw [r1.len]; exact bY⟩
 ·split at e
  ·rename_i hl
   cases e; cases cX rx
   exact ⟨_, by simp only [cR, asL, asT, hl, if_true], bY⟩
  ·cases e
 ·cases e
  obtain ⟨a, ws, rfl, ea, r⟩ := rx
  exact ⟨.int ws.length, by simp only [cR, asL, asT, ea], by rw [r.len]; exact bY⟩
 ·cases e
  obtain ⟨a, ws, rfl, ea, r⟩ := rx
  exact ⟨.int ws.length, by simp only [cR, asL, asT, ea], by rw [r.len]; exact bY⟩
 ·cases e
def aA0 : Q -> Option Q
 | .int i => some (.int (-i))
 | _ => none
theorem aGc : mK vB aA0 := by
 intro F sa h x u q rx e
 unfold aA0 at e
 split at e
 ·cases e; cases cO rx; exact ⟨_, rfl, bY⟩
 ·cases e
def aAZ : Q -> Option Q
 | .int i => some (.int i)
 | .bl k => some (.int (if k then 1 else 0))
 | .str a => match PySem.intText? a with
  | some n => if a.length <= 640 then some (.int n) else none
  | none => none
 | _ => none
theorem aKa : mK qB aAZ := by
 intro F sa h x u q rx e
 unfold aAZ at e
 split at e
 ·cases e; cases cO rx; exact ⟨_, rfl, bY⟩
 ·cases e; cases tY rx; exact ⟨_, rfl, bY⟩
 ·cases cX rx
  split at e
  ·rename_i e1
   split at e
   ·rename_i hl
    cases e
    exact ⟨_, by simp only [qB, e1, hl, if_true], bY⟩
   ·cases e
  ·cases e
 ·cases e
def hZ : Q -> Option Q
 | .lst qs => some (.tup qs)
 | .tup qs => some (.tup qs)
 | _ => none
theorem pL : mK cK hZ := by
 intro F sa h x u q rx e
 unfold hZ at e
 split at e
 ·cases e
  obtain ⟨ws, a1, a2, a3, a4, r1⟩ := fS rx
  exact ⟨_, by simp only [cK, a1], cZ r1⟩
 ·cases e
  obtain ⟨ws, rfl, r1⟩ := cC rx
  exact ⟨_, by simp only [cK, asL, asT], cZ r1⟩
 ·cases e
def aGa : Q -> Option Q
 | .lst qs => some (.lst qs)
 | .tup qs => some (.lst qs)
 | .kt qs => some (.lst qs)
 | .str z => if z.cps.size <= sizeLine then some (.lst (z.cps.toList.map fun c => .str ⟨#[c]⟩)) else none
 | _ => none
theorem qS {α : Type} {f : α -> Q} {g : α -> D} {l : List α} (hf : ∀ a ∈ l, (g a).isTl = false /\ Rep F sa h (f a) (g a)) : Reps F sa h (l.map f) (l.map g) := by
 induction l with
 | nil => simp [Reps]
 | cons a l ih =>
  simp only [List.map_cons, Reps]
  exact ⟨_, _, rfl, (hf a (by simp)).1, (hf a (by simp)).2, ih fun b hb => hf b (by simp [hb])⟩
def dI : Q -> Option Bool
 | .bl b => some b
 | _ => none
theorem aHp {q : Q} {w : D} {k : Bool} (r : Rep F sa h q w) (e : dI q = some k) : toB w = some k := by
 cases q with
 | bl i => cases tY r.vw; exact e
 | _ => simp [dI] at e
def yA : Q -> Option Q
 | .lst qs => (aJ dI qs).map fun bs => .bl (bs.all id)
 | _ => none
def aIi : Q -> Option Q
 | .lst qs => (aJ dI qs).map fun bs => .bl (bs.any id)
 | _ => none
def aFu : Q -> Option Q
 | .lst qs => (aJ kD qs).map fun bs => .int bs.sum
 | _ => none
theorem aJ8 : mK uL yA := by
 intro F sa h x u q rx e
 unfold yA at e
 split at e
 ·obtain ⟨ws, a1, a2, a3, a4, r1⟩ := fS rx
  obtain ⟨bs, e1, rfl⟩ := Option.map_eq_some_iff.mp e
  exact ⟨_, by simp only [uL, a1, eR (fun q w b r e => aHp r e) r1 e1], jM⟩
 ·cases e
theorem aKd : mK sK aFu := by
 intro F sa h x u q rx e
 unfold aFu at e
 split at e
 ·obtain ⟨ws, a1, a2, a3, a4, r1⟩ := fS rx
  obtain ⟨bs, e1, rfl⟩ := Option.map_eq_some_iff.mp e
  exact ⟨_, by simp only [sK, a1, eR (fun q w b r e => aHq r e) r1 e1], bY⟩
 ·cases e
def gC (x : Q) : Option Q := match aY bJ x with
 | some d => if d.showable && decide (d.shown.length <= sizeLine) && SeqAt.shaped d then some (.str d.shown) else none
 | none => none
theorem aIy : mK wU gC := by
 intro F sa h x u q rx e
 unfold gC at e
 split at e
 ·rename_i d e1
  split at e
  ·rename_i hz
   cases e
   exact ⟨_, by simp only [wU, gV rx e1, hz, if_true], gK⟩
  ·cases e
 ·cases e
theorem mD : mK iI gC := by
 intro F sa h x u q rx e
 obtain ⟨w, e2, r⟩ := aIy F sa h x u q rx e
 refine ⟨w, ?_, r⟩
 unfold gC at e
 split at e
 ·rename_i d e1
  simp only [iI, gV rx e1]; exact e2
 ·cases e
def aLJ : Q -> Q -> Option Q
 | .int i, .int j => some (.int (if j > i then j else i))
 | _, _ => none
def aLK : Q -> Q -> Option Q
 | .int i, .int j => some (.int (if j < i then j else i))
 | _, _ => none
def tyQ : Q -> Option String
 | .non => some "NoneType"
 | .bl _ => some "bool"
 | .int _ => some "int"
 | .str _ => some "str"
 | .tup _ => some "tuple"
 | .kt _ => some "tuple"
 | .lst _ => some "list"
 | .dK _ => some "dict"
 | .dT _ => some "dict"
 | _ => none
theorem aJk {t : String} (r : Vw F sa h q w) (e : tyQ q = some t) : tyD h w = some t := by
 cases q with
 | non => cases aBv r; exact e
 | bl b => cases tY r; exact e
 | int b => cases cO r; exact e
 | str b => cases cX r; exact e
 | tup b => obtain ⟨_, rfl, _⟩ := cC r; exact e
 | kt b => obtain ⟨_, rfl, _⟩ := kL r; exact e
 | lst b => obtain ⟨_, _, _, _, a4, _⟩ := fS r; rw [a4]; exact e
 | dK b => obtain ⟨_, _, rfl, ea, _⟩ := r; simp only [tyD, ea]; exact e
 | dT b => obtain ⟨_, _, rfl, ea, _⟩ := r; simp only [tyD, ea]; exact e
 | _ => simp [tyQ] at e
def cS : Q -> Q -> Option Q
 | x, .ty n => match tyQ x with
  | some t => (kitB t n).map .bl
  | none => none
 | _, _ => none
theorem aAe : mL qC cS := by
 intro F sa h x y u v q rx ry e
 unfold cS at e
 split at e
 ·cases aGh ry
  split at e
  ·rename_i t e1
   obtain ⟨b, e2, rfl⟩ := Option.map_eq_some_iff.mp e
   exact ⟨_, by simp only [qC, aCS, aJk rx e1, e2], jM⟩
  ·cases e
 ·cases e
def tnQ (x : Q) : Option Tn := match x with
 | .xc c _ _ => if 100 <= c then some (.own c) else none
 | .ins c _ => if c < 100 then some (.own c) else none
 | x => (tyQ x).map .bt
theorem aJi {t : Tn} (r : Vw F sa h q w) (e : tnQ q = some t) : sL h w = some t := by
 cases q with
 | xc c k b => obtain ⟨_, rfl, _⟩ := aGi r; exact e
 | ins c b => obtain ⟨_, _, rfl, ea, _⟩ := r; simp only [sL, ea]; exact e
 | non => cases aBv r; exact e
 | bl b => cases tY r; exact e
 | int b => cases cO r; exact e
 | str b => cases cX r; exact e
 | tup b => obtain ⟨_, rfl, _⟩ := cC r; exact e
 | kt b => obtain ⟨_, rfl, _⟩ := kL r; exact e
 | lst b =>
  obtain ⟨_, _, _, _, a4, _⟩ := fS r
  obtain ⟨_, rfl | ⟨_, rfl, ea⟩, _⟩ := r
  ·exact e
  ·simp only [sL, ea, a4]; exact e
 | dK b => obtain ⟨_, _, rfl, ea, _⟩ := r; simp only [sL, ea, tyD]; exact e
 | dT b => obtain ⟨_, _, rfl, ea, _⟩ := r; simp only [sL, ea, tyD]; exact e
 | _ => simp [tnQ, tyQ] at e
def wD (t : Tn) (y : Q) : Option Bool := match t, y with
 | .own c, .cls d => some (c == d || (d == 100 && decide (100 <= c)))
 | .own c, .ty n => if n = "ValueError" then some (decide (100 <= c)) else none
 | .bt _, .cls _ => some false
 | .bt t, .ty n => if n = "ValueError" then some false else kitB t n
 | _, _ => none
def rQ (t : Tn) : List Q -> Option Bool
 | [] => some false
 | y :: ys => match wD t y, rQ t ys with
  | some b, some c => some (b || c)
  | _, _ => none
theorem aAF {t : Tn} {b : Bool} (r : Vw F sa h q w) (e : wD t q = some b) : xS t w = some b := by
 cases q with
 | cls n => cases aJl r; cases t <;> exact e
 | ty n => cases aGh r; cases t <;> exact e
 | _ => cases t <;> simp [wD] at e
theorem yT {t : Tn} : ∀ {qs : List Q} {ws : List D} {b : Bool}, Reps F sa h qs ws -> rQ t qs = some b -> tF t ws = some b
 | [], _, b, r, e => by simp only [Reps] at r; subst r; exact e
 | q :: qs, _, b, r, e => by
  simp only [Reps] at r
  obtain ⟨w, r, rfl, _, h2, z⟩ := r
  simp only [rQ, tF] at e ⊢
  cases e1 : wD t q with
  | none => rw [e1] at e; cases e
  | some b1 =>
   cases e2 : rQ t qs with
   | none => rw [e1, e2] at e; cases e
   | some b2 =>
    rw [e1, e2] at e
    rw [aAF h2.vw e1, yT z e2]; exact e
def tR (x y : Q) : Option Q := match tnQ x with
 | some t => match y with
  | .tup ys => (rQ t ys).map .bl
  | y => (wD t y).map .bl
 | none => none
theorem aEj : mL rR tR := by
 intro F sa h x y u v q rx ry e
 unfold tR at e
 split at e
 ·rename_i t e1
  have e2 := aJi rx e1
  split at e
  ·obtain ⟨ws, rfl, r⟩ := cC ry
   obtain ⟨b, e3, rfl⟩ := Option.map_eq_some_iff.mp e
   exact ⟨_, by simp only [rR, e2, yT r e3], jM⟩
  ·obtain ⟨b, e3, rfl⟩ := Option.map_eq_some_iff.mp e
   have e4 := aAF ry e3
   refine ⟨.bl b, ?_, jM⟩
   simp only [rR, e2]
   cases v with
   | tup ys => cases t <;> simp [xS] at e4
   | _ => simp only [e4]
 ·cases e
def yB (f : Str) : Q -> Option Q
 | .xc c ks qs => if 100 <= c then (ks.zip qs).lookup f else none
 | .ins c fs => if c < 100 then fs.lookup f else none
 | _ => none
theorem qH {f : Str} : ∀ {kvs : List (Str × Q)} {ws : List (Str × D)} {q : Q}, aN F sa h kvs ws -> kvs.lookup f = some q -> ∃ w, ws.lookup f = some w /\ w.isTl = false /\ Rep F sa h q w
 | [], _, q, r, e => by simp at e
 | (k, q') :: kvs, _, q, r, e => by
  simp only [aN] at r
  obtain ⟨w, r, rfl, h1, h2, z⟩ := r
  simp only [List.lookup_cons] at e ⊢
  cases hk : f == k with
  | true => rw [hk] at e; cases e; exact ⟨w, rfl, h1, h2⟩
  | false => rw [hk] at e; exact qH z e
theorem yM : ∀ {ks : List Str} {qs : List Q} {ws : List D}, Reps F sa h qs ws -> aN F sa h (ks.zip qs) (ks.zip ws)
 | [], qs, ws, r => by simp [aN]
 | k :: ks, [], ws, r => by simp only [Reps] at r; subst r; simp [aN]
 | k :: ks, q :: qs, _, r => by
  simp only [Reps] at r
  obtain ⟨w, r, rfl, h1, h2, z⟩ := r
  simp only [List.zip_cons_cons, aN]
  exact ⟨w, _, rfl, h1, h2, yM z⟩
theorem aJ9 {f : Str} : mK (rN f) (yB f) := by
 intro F sa h x u q rx e
 unfold yB at e
 split at e
 ·obtain ⟨ws, rfl, r⟩ := aGi rx
  split at e
  ·rename_i hc
   obtain ⟨w, e1, _, e2⟩ := qH (yM r) e
   exact ⟨w, by simp only [rN, hc, if_true, e1], e2⟩
  ·cases e
 ·obtain ⟨a, ws, rfl, ea, r⟩ := rx
  split at e
  ·rename_i hc
   obtain ⟨w, e1, _, e2⟩ := qH r e
   exact ⟨w, by simp only [rN, aET, ea, hc, if_true, e1], e2⟩
  ·cases e
 ·cases e
end
end PV
end
section
namespace PV
open PySem PySem.Spec PyProof.Rows L2
/-- whole -/
structure SEs (Γ : List Sl) (m : M D) (p : Pm Q) : Prop where
 run : ∀ {B : Bs} {F : Nat -> Prop} {O : Nat -> Option Nat} {σ : Sg} {h : Hh} {c : Nat} {K : Rs Q -> Nat -> Prop}, Iv B F h c -> En B F O h Γ σ -> p K c -> Out B F h (RlS B) K (m σ h)
/-- whole, or one's own -/
structure SEw (Γ : List Sl) (m : M D) (p : Pm Q) : Prop where
 run : ∀ {B : Bs} {F : Nat -> Prop} {O : Nat -> Option Nat} {σ : Sg} {h : Hh} {c : Nat} {K : Rs Q -> Nat -> Prop}, Iv B F h c -> En B F O h Γ σ -> p K c -> Out B F h (fun F' h' q w => pQ B O F' h' q w) K (m σ h)
/-- fresh -/
structure SEf (Γ : List Sl) (m : M D) (p : Pm Q) : Prop where
 run : ∀ {B : Bs} {F : Nat -> Prop} {O : Nat -> Option Nat} {σ : Sg} {h : Hh} {c : Nat} {K : Rs Q -> Nat -> Prop}, Iv B F h c -> En B F O h Γ σ -> p K c -> Out B F h (RlF h.length B) K (m σ h)
structure STb (Γ : List Sl) (m : M Bool) (p : Pm Bool) : Prop where
 run : ∀ {B : Bs} {F : Nat -> Prop} {O : Nat -> Option Nat} {σ : Sg} {h : Hh} {c : Nat} {K : Rs Bool -> Nat -> Prop}, Iv B F h c -> En B F O h Γ σ -> p K c -> Out B F h RlE K (m σ h)
structure SAs (n : Nat) (Γ : List Sl) (m : M (List D)) (p : Pm (List Q)) : Prop where
 run : ∀ {B : Bs} {F : Nat -> Prop} {O : Nat -> Option Nat} {σ : Sg} {h : Hh} {c : Nat} {K : Rs (List Q) -> Nat -> Prop}, Iv B F h c -> En B F O h Γ σ -> p K c -> Out B F h (fun F' h' q w => Reps F' B.sa h' q w /\ q.length = n) K (m σ h)
structure SPo (Γ : List Sl) (m : Option (M D)) (p : Pm (Option Int)) : Prop where
 run : ∀ {B : Bs} {F : Nat -> Prop} {O : Nat -> Option Nat} {σ : Sg} {h : Hh} {c : Nat} {K : Rs (Option Int) -> Nat -> Prop}, Iv B F h c -> En B F O h Γ σ -> p K c -> Out B F h RlE K (nO m σ h)
/-- a def: fr tells whether its result is fresh -/
structure FnS (fr : Bool) (cl : List D -> Hh -> R D) (p : List Q -> Pm Q) : Prop where
 run : ∀ {F : Nat -> Prop} {sa : Nat} {h : Hh} {c : Nat} {K : Rs Q -> Nat -> Prop} {qs : List Q} {ws : List D}, Iv ⟨h, F, sa⟩ F h c -> Reps F sa h qs ws -> p qs K c ->
  Out ⟨h, F, sa⟩ F h (fun F' h' q w => if fr = true then pP h.length F' sa h' q w else Rep F' sa h' q w) K (cl ws h)
section
variable {Γ : List Sl} {m a b d : M D} {p pa pb pd : Pm Q} {q : Q} {w : D} {f : D -> D -> Hh -> R D} {g : Q -> Q -> Option Q} {f1 : D -> Hh -> R D} {g1 : Q -> Option Q}
theorem SEs.toW (s : SEs Γ m p) : SEw Γ m p := ⟨fun iv en k => (s.run iv en k).imp fun _ _ r => .inl r⟩
theorem SEf.toS (s : SEf Γ m p) : SEs Γ m p := ⟨fun iv en k => (s.run iv en k).fs iv⟩
theorem SEf.toW (s : SEf Γ m p) : SEw Γ m p := s.toS.toW
theorem pG {α β : Type} {o : Option α} {g : α -> Pm β} {K : Rs β -> Nat -> Prop} {c : Nat} (k : (Pm.of o).bind g K c) : ∃ a, o = some a /\ g a K c := by
 cases o with
 | none => exact k.elim
 | some a => exact ⟨a, rfl, k⟩
theorem gA {α : Type} {o : Option α} {K : Rs α -> Nat -> Prop} {c : Nat} (k : (Pm.of o) K c) : ∃ a, o = some a /\ K (.ok a) c := by
 cases o with
 | none => exact k.elim
 | some a => exact ⟨a, rfl, k⟩
theorem sY (r : ∀ F sa h, Rep F sa h q w) : SEs Γ (mC w) (.ret q) := ⟨fun iv en k => .ret iv k (r _ _ _)⟩
theorem aJF : SEs Γ (mC .non) (.ret .non) := sY fun _ _ _ => aCp
theorem cD {i : Int} : SEs Γ (mC (.int i)) (.ret (.int i)) := sY fun _ _ _ => bY
theorem xK {i : Bool} : SEs Γ (mC (.bl i)) (.ret (.bl i)) := sY fun _ _ _ => jM
theorem sZ {i : Str} : SEs Γ (mC (.str i)) (.ret (.str i)) := sY fun _ _ _ => gK
theorem aCK {n : String} : SEs Γ (mC (.ty n)) (.ret (.ty n)) := sY fun _ _ _ => by simp only [Rep]
theorem zZ {n : Nat} : SEs Γ (mC (.cls n)) (.ret (.cls n)) := sY fun _ _ _ => by simp only [Rep]
theorem aF (i : Nat) (e : Γ[i]? = some (.fz q)) : SEs Γ (mV i) (.ret q) := ⟨fun iv en k => by
 obtain ⟨w, e1, _, r⟩ := en.fz i q e
 rw [tJ, e1]
 exact .ret iv k r⟩
theorem bQ (s : mL f g) (x : SEw Γ a pa) (y : SEw Γ b pb) : SEs Γ (mOp f a b) (pa.bind fun x => pb.bind fun y => .of (g x y)) := ⟨fun iv en k =>
 (x.run iv en k).bind fun i1 g1 r1 k1 => (y.run i1 (en.ge iv g1) k1).bind fun i2 g2 r2 k2 => by
  obtain ⟨q, e, k3⟩ := gA k2
  obtain ⟨w, e2, r3⟩ := s _ _ _ _ _ _ _ _ (pQ.ge (en.ge iv g1) i1 g2 r1).vw r2.vw e
  rw [e2]
  exact .ret i2 k3 r3⟩
theorem fM (s : mK f1 g1) (x : SEw Γ a pa) : SEs Γ (mF1 f1 a) (pa.bind fun x => .of (g1 x)) := ⟨fun iv en k =>
 (x.run iv en k).bind fun i1 g1 r1 k1 => by
  obtain ⟨q, e, k3⟩ := gA k1
  obtain ⟨w, e2, r3⟩ := s _ _ _ _ _ _ r1.vw e
  rw [e2]
  exact .ret i1 k3 r3⟩
theorem aJE {f : Str} (x : SEw Γ a pa) : SEs Γ (tH f a) (pa.bind fun x => .of (yB f x)) := fM (f1 := rN f) aJ9 x
def aLL : Q -> Option Q
 | .bl b => some (.bl (!b))
 | _ => none
def aIc (x : Q) (p : Pm Q) : Pm Q := match x with
 | .bl true => p
 | .bl false => .ret (.bl false)
 | _ => .bad
def pOr (x : Q) (p : Pm Q) : Pm Q := match x with
 | .bl true => .ret (.bl true)
 | .bl false => p
 | _ => .bad
@[simp] theorem aNa {p : Pm Q} : aIc (.bl true) p = p := id rfl
@[simp] theorem aM9 {p : Pm Q} : aIc (.bl false) p = .ret (.bl false) := id rfl
@[simp] theorem aNG {p : Pm Q} : pOr (.bl true) p = .ret (.bl true) := id rfl
@[simp] theorem aNF {p : Pm Q} : pOr (.bl false) p = p := id rfl
theorem aHH {t : M Bool} {pt : Pm Bool} (x : STb Γ t pt) (y : SEs Γ a pa) (z : SEs Γ b pb) : SEs Γ (mIf t a b) (pt.bind fun x => if x = true then pa else pb) := ⟨fun iv en k =>
 (x.run iv en k).bind fun i1 g1 r1 k1 => by
  subst r1
  split
  ·rename_i hx; rw [if_pos hx] at k1; exact y.run i1 (en.ge iv g1) k1
  ·rename_i hx; rw [if_neg hx] at k1; exact z.run i1 (en.ge iv g1) k1⟩
theorem t_b (x : SEw Γ a pa) : STb Γ (mB a) (pa.bind fun x => .of (dI x)) := ⟨fun iv en k =>
 (x.run iv en k).bind fun i1 g1 r1 k1 => by
  obtain ⟨q, e, k3⟩ := gA k1
  unfold dI at e
  split at e
  ·cases e; cases tY r1.vw; exact .ret i1 k3 rfl
  ·cases e⟩
theorem xA {t : M Bool} {pt : Pm Bool} (x : STb Γ t pt) : STb Γ (kH t) (pt.bind fun x => .ret (!x)) := ⟨fun iv en k =>
 (x.run iv en k).bind fun i1 g1 r1 k1 => by subst r1; exact .ret i1 k1 rfl⟩
theorem aJg {t s : M Bool} {pt ps : Pm Bool} (x : STb Γ t pt) (y : STb Γ s ps) : STb Γ (lA t s) (pt.bind fun x => if x = true then .ret true else ps) := ⟨fun iv en k =>
 (x.run iv en k).bind fun i1 g1 r1 k1 => by
  subst r1
  split
  ·rename_i hx; rw [if_pos hx] at k1; exact .ret i1 k1 rfl
  ·rename_i hx; rw [if_neg hx] at k1; exact y.run i1 (en.ge iv g1) k1⟩
theorem qX : STb Γ (fun _ h => .ok true h) (.ret true) := ⟨fun iv en k => .ret iv k rfl⟩
theorem aU : SAs 0 Γ (aA []) (.ret []) := ⟨fun iv en k => .ret iv k ⟨by simp [Reps], rfl⟩⟩
theorem aB {n : Nat} {ms : List (M D)} {ps : Pm (List Q)} (x : SEs Γ a pa) (y : SAs n Γ (aA ms) ps) : SAs (n + 1) Γ (aA (a :: ms)) (pa.bind fun x => ps.bind fun xs => .ret (x :: xs)) := ⟨fun iv en k =>
 (x.run iv en k).bind fun i1 g1 r1 k1 => by
  obtain ⟨F2, i2, g2, r2, ht⟩ := sG i1 r1
  refine Out.ge g2 ((y.run i2 ((en.ge iv g1).ge i1 g2) k1).bind fun i3 g3 r3 k3 => .ret i3 k3 ⟨?_, by simp [r3.2]⟩)
  simp only [Reps]
  exact ⟨_, _, rfl, ht, r2.mono g3.toGw, r3.1⟩⟩
theorem bW {n : Nat} {ma : M (List D)} {ps : Pm (List Q)} (hn : n <= 1000) (x : SAs n Γ ma ps) : SEs Γ (bE ma) (ps.bind fun xs => .ret (.tup xs)) := ⟨fun iv en k =>
 (x.run iv en k).bind fun i1 g1 r1 k1 => by
  rw [if_pos (by rw [r1.1.len, r1.2]; exact sz (by omega))]
  exact .ret i1 k1 (cZ r1.1)⟩
theorem vY {n : Nat} {ma : M (List D)} {ps : Pm (List Q)} (hn : n <= 1000) (x : SAs n Γ ma ps) : SEf Γ (dW ma) (ps.bind fun xs => .ret (.lst xs)) := ⟨fun iv en k =>
 (x.run iv en k).bind fun i1 g1 r1 k1 => by
  rw [if_pos (by rw [r1.1.len, r1.2]; exact sz (by omega))]
  exact .ret i1 k1 (.inl ⟨_, _, rfl, rfl, r1.1⟩)⟩
theorem rX : SPo Γ none (.ret none) := ⟨fun iv en k => .ret iv k rfl⟩
theorem rY (x : SEw Γ a pa) : SPo Γ (some a) (pa.bind fun x => (Pm.of (kD x)).bind fun i => .ret (some i)) := ⟨fun iv en k =>
 (x.run iv en k).bind fun i1 g1 r1 k1 => by
  obtain ⟨i, e, k3⟩ := pG k1
  unfold kD at e
  split at e
  ·cases e; cases cO r1.vw; exact .ret i1 k3 rfl
  ·cases e⟩
theorem aAp {lo hi : Option (M D)} {pl ph : Pm (Option Int)} (x : SEw Γ a pa) (y : SPo Γ lo pl) (z : SPo Γ hi ph) : SEs Γ (mSl a lo hi) (pa.bind fun x => pl.bind fun l => ph.bind fun u => .of (qSl x l u)) := ⟨fun iv en k =>
 (x.run iv en k).bind fun i1 g1 r1 k1 => (y.run i1 (en.ge iv g1) k1).bind fun i2 g2 r2 k2 => (z.run i2 ((en.ge iv g1).ge i1 g2) k2).bind fun i3 g3 r3 k3 => by
  subst r2; subst r3
  obtain ⟨q, e, k4⟩ := gA k3
  obtain ⟨w, e2, r4⟩ := aLW (pQ.ge ((en.ge iv g1).ge i1 g2) i2 g3 (pQ.ge (en.ge iv g1) i1 g2 r1)).vw e
  rw [e2]
  exact .ret i3 k4 r4⟩
theorem aAv {fr : Bool} {cl : List D -> Hh -> R D} {pc : List Q -> Pm Q} {B : Bs} {F : Nat -> Prop} {h : Hh} {c : Nat} {K : Rs Q -> Nat -> Prop} {qs : List Q} {ws : List D} (s : FnS fr cl pc) (iv : Iv B F h c) (r : Reps F B.sa h qs ws) (k : pc qs K c) :
  Out B F h (fun F' h' q w => if fr = true then pP h.length F' B.sa h' q w else Rep F' B.sa h' q w) K (cl ws h) := by
 have o := s.run iv.base r k
 revert o
 generalize cl ws h = r0
 intro o
 cases o with
 | ok k i2 g r => exact .ok k (iv.rebase g i2) g r
 | exc k i2 g r => exact .exc k (iv.rebase g i2) g r
theorem cM {n : Nat} {cl : Cll} {f : Nat} {ma : M (List D)} {ps : Pm (List Q)} {pc : List Q -> Pm Q} (s : FnS false (cl f) pc) (x : SAs n Γ ma ps) : SEs Γ (aK cl f ma) (ps.bind pc) := ⟨fun iv en k =>
 Out.gcS iv ((x.run iv en k).bind fun i1 g1 r1 k1 => (aAv s i1 r1.1 k1).imp fun _ _ r => by simpa using r)⟩
theorem sX {n : Nat} {cl : Cll} {f : Nat} {ma : M (List D)} {ps : Pm (List Q)} {pc : List Q -> Pm Q} (s : FnS true (cl f) pc) (x : SAs n Γ ma ps) : SEf Γ (aK cl f ma) (ps.bind pc) := ⟨fun iv en k =>
 Out.gcF iv ((x.run iv en k).bind fun i1 g1 r1 k1 => (aAv s i1 r1.1 k1).imp fun _ _ r => by
  simp only [if_true] at r
  rcases r with r | ⟨a, e, l, r⟩
  ·exact .inl r
  ·exact .inr ⟨a, e, Nat.le_trans g1.len l, r⟩)⟩
theorem FnS.weak {cl : List D -> Hh -> R D} {pc : List Q -> Pm Q} (s : FnS true cl pc) : FnS false cl pc := ⟨fun iv r k => (Out.fs (B := ⟨_, _, _⟩) iv ((s.run iv r k).imp fun _ _ r => by simpa using r)).imp fun _ _ r => by simpa using r⟩
theorem yY {F : Nat -> Prop} {sa : Nat} {h : Hh} {qs : List Q} {ws : List D} (r : Reps F sa h qs ws) : ∀ {perm : List Nat} {ys : List Q}, cY perm qs = some ys -> ∃ us, cY perm ws = some us /\ Reps F sa h ys us
 | [], ys, e => by simp [cY, aJ] at e; subst e; exact ⟨[], rfl, by simp [Reps]⟩
 | i :: perm, ys, e => by
  simp only [cY, aJ] at e ⊢
  cases e1 : qs[i]? with
  | none => rw [e1] at e; cases e
  | some q =>
   cases e2 : aJ (fun i => qs[i]?) perm with
   | none => rw [e1, e2] at e; cases e
   | some ys' =>
    rw [e1, e2] at e; cases e
    obtain ⟨w, e3, ht, r3⟩ := r.get e1
    obtain ⟨us, e4, r4⟩ := yY r (perm := perm) e2
    refine ⟨w :: us, ?_, by simp only [Reps]; exact ⟨w, us, rfl, ht, r3, r4⟩⟩
    unfold cY at e4
    rw [e3, e4]
theorem aGt {n : Nat} {cl : Cll} {f : Nat} {ma : M (List D)} {ps : Pm (List Q)} {perm : List Nat} {pc : List Q -> Pm Q} (s : FnS false (cl f) pc) (x : SAs n Γ ma ps) : SEs Γ (mR cl f ma perm) (ps.bind fun xs => (Pm.of (cY perm xs)).bind pc) := ⟨fun iv en k =>
 Out.gcS iv ((x.run iv en k).bind fun i1 g1 r1 k1 => by
  obtain ⟨ys, e, k2⟩ := pG k1
  obtain ⟨us, e2, r2⟩ := yY r1.1 e
  simp only [e2]
  exact (aAv s i1 r2 k2).imp fun _ _ r => by simpa using r)⟩
def nA : Q -> Option String
 | .str _ => some "str"
 | .lst _ => some "list"
 | .dK _ => some "dict"
 | .dT _ => some "dict"
 | _ => none
theorem aHv {F : Nat -> Prop} {sa : Nat} {h : Hh} {t : String} (r : Vw F sa h q w) (e : nA q = some t) : tyM h w = some t := by
 cases q with
 | str b => cases cX r; exact e
 | lst b =>
  obtain ⟨_, rfl | ⟨_, rfl, ea⟩, _⟩ := r
  ·exact e
  ·simp only [tyM, ea]; exact e
 | dK b => obtain ⟨_, _, rfl, ea, _⟩ := r; simp only [tyM, ea]; exact e
 | dT b => obtain ⟨_, _, rfl, ea, _⟩ := r; simp only [tyM, ea]; exact e
 | _ => simp [nA] at e
def pTy (T : String) (x : Q) (p : Pm Q) : Pm Q := if nA x = some T then p else .bad
@[simp] theorem aMz {p : Pm Q} {x : Str} : pTy "str" (.str x) p = p := by simp [pTy, nA]
@[simp] theorem aMy {p : Pm Q} {x : List Q} : pTy "list" (.lst x) p = p := by simp [pTy, nA]
@[simp] theorem aNb {p : Pm Q} {x : List (Key × Q)} : pTy "dict" (.dK x) p = p := by simp [pTy, nA]
@[simp] theorem aNc {p : Pm Q} {x : List (List Key × Q)} : pTy "dict" (.dT x) p = p := by simp [pTy, nA]
end
end PV
end
section
namespace PV
open PySem PySem.Spec PyProof.Rows L2
def aK7 (B : Bs) (F : Nat -> Prop) (h : Hh) (qs : List Q) (src : Src) : Prop := ∃ ws, Reps F B.sa h qs ws /\ ∀ h' : Hh, (∀ a, F a -> h'[a]? = h[a]?) -> ∀ i, src i h' = some ws[i]?
def aK8 (B : Bs) (F : Nat -> Prop) (h : Hh) (qs : List Q) (src : Src) : Prop := ∃ ws, Reps F B.sa h qs ws /\ ∀ h' : Hh, (∀ a, a < h.length -> a ≠ B.sa -> h'[a]? = h[a]?) -> ∀ i, src i h' = some ws[i]?
structure SIs (Γ : List Sl) (m : M Src) (p : Pm (List Q)) : Prop where
 run : ∀ {B : Bs} {F : Nat -> Prop} {O : Nat -> Option Nat} {σ : Sg} {h : Hh} {c : Nat} {K : Rs (List Q) -> Nat -> Prop}, Iv B F h c -> En B F O h Γ σ -> p K c -> Out B F h (fun F' h' q w => aK7 B F' h' q w) K (m σ h)
structure SIw (Γ : List Sl) (m : M Src) (p : Pm (List Q)) : Prop where
 run : ∀ {B : Bs} {F : Nat -> Prop} {O : Nat -> Option Nat} {σ : Sg} {h : Hh} {c : Nat} {K : Rs (List Q) -> Nat -> Prop}, Iv B F h c -> En B F O h Γ σ -> p K c -> Out B F h (fun F' h' q w => aK8 B F' h' q w) K (m σ h)
def lE : Q -> Option (List Q)
 | .lst qs => some qs
 | .tup qs => some qs
 | .kt qs => some qs
 | .str z => some (z.cps.toList.map fun c => .str ⟨#[c]⟩)
 | _ => none
def nU : Q -> Option (List Q)
 | .int j => if -(2 ^ 62) <= j /\ j < 2 ^ 62 then some ((List.range j.toNat).map fun i => .int (i : Nat)) else none
 | _ => none
def fW (qs : List Q) : List Q := qs.mapIdx fun i q => .tup [.int (i : Nat), q]
def iH : Q -> Option (List Q)
 | .lst qs => some (fW qs)
 | .tup qs => some (fW qs)
 | .kt qs => some (fW qs)
 | _ => none
def aDt (xs ys : List Q) : List Q := (xs.zip ys).map fun q => .tup [q.1, q.2]
def aIo : Q -> Q -> Option (List Q)
 | .tup xs, .tup ys => some (aDt xs ys)
 | .lst xs, .lst ys => some (aDt xs ys)
 | _, _ => none
section
variable {Γ : List Sl} {a b : M D} {p pa pb : Pm Q} {q : Q} {w : D} {F : Nat -> Prop} {sa : Nat} {h : Hh} {qs : List Q} {ws : List D} {B : Bs} {c : Nat} {O : Nat -> Option Nat} {σ : Sg}
theorem SIs.toW {m : M Src} {p : Pm (List Q)} (s : SIs Γ m p) : SIw Γ m p := ⟨fun iv en k => (s.run iv en k).imp fun i1 _ r => by
 obtain ⟨ws, r, hs⟩ := r
 exact ⟨ws, r, fun h' e => hs h' fun a f => e a (i1.lt f) fun z => i1.ns (z ▸ f)⟩⟩
theorem aFH {z : Str} {i : Nat} {h' : Hh} : aBo z i h' = some (z.cps.toList.map fun c => D.str ⟨#[c]⟩)[i]? := by simp only [aBo, List.getElem?_map]
theorem i_e (x : SEs Γ a pa) : SIs Γ (miE a) (pa.bind fun x => .of (lE x)) := ⟨fun iv en k =>
 (x.run iv en k).bind fun i1 g1 r1 k1 => by
  obtain ⟨l, e, k3⟩ := gA k1
  unfold lE at e
  split at e
  ·cases e
   simp only [RlS, Rep] at r1
   obtain ⟨ws, rfl | ⟨a, rfl, fa, ea⟩, r⟩ := r1
   ·simp only [nZ, asT, asL]
    exact .ret i1 k3 ⟨ws, r, fun h' e i => by simp only [oR, asL]⟩
   ·simp only [nZ, asT, asL, ea]
    exact .ret i1 k3 ⟨ws, r, fun h' e i => by simp only [oR, asL, e a fa, ea]⟩
  ·cases e
   obtain ⟨ws, rfl, r⟩ := cC r1.vw
   simp only [nZ, asT]
   exact .ret i1 k3 ⟨ws, r, fun h' e i => rfl⟩
  ·cases e
   obtain ⟨ws, rfl, r⟩ := kL r1.vw
   simp only [nZ, asT]
   exact .ret i1 k3 ⟨ws, r, fun h' e i => rfl⟩
  ·cases e
   cases cX r1.vw
   simp only [nZ, asT, asL]
   exact .ret i1 k3 ⟨_, qS fun c _ => ⟨rfl, gK⟩, fun h' e i => aFH⟩
  ·cases e⟩
theorem aHT (x : SEw Γ a pa) : SIs Γ (gM a) (pa.bind fun x => .of (nU x)) := ⟨fun iv en k =>
 (x.run iv en k).bind fun i1 g1 r1 k1 => by
  obtain ⟨l, e, k3⟩ := gA k1
  unfold nU at e
  split at e
  ·cases cO r1.vw
   split at e
   ·rename_i hl
    cases e
    simp only
    rw [if_pos hl]
    refine .ret i1 k3 ⟨_, qS fun c _ => ⟨rfl, bY⟩, fun h' e i => ?_⟩
    rw [tS]; simp
   ·cases e
  ·cases e⟩
theorem nI (r : Reps F sa h qs ws) : Reps F sa h (fW qs) (vZ ws) := by
 rw [iO]
 unfold fW vZ
 refine ⟨by simp [r.len], fun i q w e1 e2 => ?_⟩
 rw [List.getElem?_mapIdx] at e1 e2
 obtain ⟨q', e3, rfl⟩ := Option.map_eq_some_iff.mp e1
 obtain ⟨w', e4, rfl⟩ := Option.map_eq_some_iff.mp e2
 obtain ⟨w2, e5, ht, r2⟩ := r.get e3
 rw [e4] at e5; cases e5
 exact ⟨rfl, cZ (by simp only [Reps]; exact ⟨_, _, rfl, rfl, bY, _, _, rfl, ht, r2, rfl⟩)⟩
theorem pY {s : Src} {h' : Hh} (hs : ∀ i, s i h' = some ws[i]?) (i : Nat) : qU s i h' = some (vZ ws)[i]? := aHh hs i
theorem aCR (x : SEs Γ a pa) : SIs Γ (qJ a) (pa.bind fun x => .of (iH x)) := ⟨fun iv en k =>
 (x.run iv en k).bind fun i1 g1 r1 k1 => by
  obtain ⟨l, e, k3⟩ := gA k1
  unfold iH at e
  split at e
  ·cases e
   simp only [RlS, Rep] at r1
   obtain ⟨ws, rfl | ⟨a, rfl, fa, ea⟩, r⟩ := r1
   ·simp only [asT, asL]
    exact .ret i1 k3 ⟨_, nI r, fun h' e i => pY (fun j => by simp only [oR, asL]) i⟩
   ·simp only [asT, asL, ea]
    exact .ret i1 k3 ⟨_, nI r, fun h' e i => pY (fun j => by simp only [oR, asL, e a fa, ea]) i⟩
  ·cases e
   obtain ⟨ws, rfl, r⟩ := cC r1.vw
   simp only [asT]
   exact .ret i1 k3 ⟨_, nI r, fun h' e i => pY (fun j => rfl) i⟩
  ·cases e
   obtain ⟨ws, rfl, r⟩ := kL r1.vw
   simp only [asT]
   exact .ret i1 k3 ⟨_, nI r, fun h' e i => pY (fun j => rfl) i⟩
  ·cases e⟩
structure TgS (t : Tg) {α : Type} (un : Q -> Option α) (ΓT : List Sl -> α -> List Sl) : Prop where
 run : ∀ {B : Bs} {F : Nat -> Prop} {O : Nat -> Option Nat} {h : Hh} {Γ : List Sl} {σ : Sg} {q : Q} {w : D} {a : α}, En B F O h Γ σ -> Rep F B.sa h q w -> w.isTl = false -> un q = some a -> ∃ σ', t.set w σ h = some σ' /\ En B F O h (ΓT Γ a) σ'
theorem En.set {i : Nat} (en : En B F O h Γ σ) (r : Rep F B.sa h q w) (ht : w.isTl = false) : En B F O h (Γ.set i (.fz q)) (σ.set i (some w)) := by
 refine ⟨by simp [en.len], fun j q' e => ?_, fun j q' e => ?_, en.oh, en.inj, fun j w' e => by
  by_cases hj : i = j
  ·subst hj
   have hl : i < Γ.length := by simpa using aE e
   rw [List.getElem?_set_self hl] at e; cases e
  ·rw [List.getElem?_set_ne hj] at e ⊢
   exact en.eqd j w' e⟩
 ·by_cases hj : i = j
  ·subst hj
   have hl : i < Γ.length := by simpa using aE e
   rw [List.getElem?_set_self hl] at e; cases e
   exact ⟨w, List.getElem?_set_self (by rw [en.len]; exact hl), ht, r⟩
  ·rw [List.getElem?_set_ne hj] at e ⊢
   exact en.fz j q' e
 ·by_cases hj : i = j
  ·subst hj
   have hl : i < Γ.length := by simpa using aE e
   rw [List.getElem?_set_self hl] at e; cases e
  ·rw [List.getElem?_set_ne hj] at e ⊢
   exact en.ow j q' e
theorem En.no {i : Nat} {o : Option D} (en : En B F O h Γ σ) : En B F O h (Γ.set i .no) (σ.set i o) := by
 refine ⟨by simp [en.len], fun j q' e => ?_, fun j q' e => ?_, en.oh, en.inj, fun j w' e => by
  by_cases hj : i = j
  ·subst hj
   have hl : i < Γ.length := by simpa using aE e
   rw [List.getElem?_set_self hl] at e; cases e
  ·rw [List.getElem?_set_ne hj] at e ⊢
   exact en.eqd j w' e⟩
 ·by_cases hj : i = j
  ·subst hj
   have hl : i < Γ.length := by simpa using aE e
   rw [List.getElem?_set_self hl] at e; cases e
  ·rw [List.getElem?_set_ne hj] at e ⊢
   exact en.fz j q' e
 ·by_cases hj : i = j
  ·subst hj
   have hl : i < Γ.length := by simpa using aE e
   rw [List.getElem?_set_self hl] at e; cases e
  ·rw [List.getElem?_set_ne hj] at e ⊢
   exact en.ow j q' e
theorem tg1 (i : Nat) : TgS (.nm i) some (fun Γ q => Γ.set i (.fz q)) := ⟨fun en r ht e => by
 cases e; exact ⟨_, by simp only [Tg.set], en.set r ht⟩⟩
/-- the parts of a tuple or list -/
def sC : Q -> Option (List Q)
 | .tup qs => some qs
 | .kt qs => some qs
 | .lst qs => some qs
 | _ => none
theorem aD4 (r : Rep F sa h q w) (e : sC q = some qs) : ∃ ws, (∀ ts σ, Tg.set (.tu ts) w σ h = Tg.sets ts ws σ h) /\ Reps F sa h qs ws := by
 cases q with
 | tup qs => cases e; obtain ⟨ws, rfl, r'⟩ := cC r.vw; exact ⟨ws, fun ts σ => by simp only [Tg.set, asT], r'⟩
 | kt qs => cases e; obtain ⟨ws, rfl, r'⟩ := kL r.vw; exact ⟨ws, fun ts σ => by simp only [Tg.set, asT], r'⟩
 | lst qs => cases e; obtain ⟨ws, a1, a2, a3, a4, r'⟩ := fS r.vw; exact ⟨ws, fun ts σ => by simp only [Tg.set, a3, a1], r'⟩
 | _ => simp [sC] at e
def un2 (q : Q) : Option (Q × Q) := match sC q with
 | some [a, b] => some (a, b)
 | _ => none
def un3 (q : Q) : Option (Q × Q × Q) := match sC q with
 | some [a, b, c] => some (a, b, c)
 | _ => none
def un4 (q : Q) : Option (Q × Q × Q × Q) := match sC q with
 | some [a, b, c, d] => some (a, b, c, d)
 | _ => none
@[simp] theorem mF {a b : Q} : un2 (.tup [a, b]) = some (a, b) := id rfl
@[simp] theorem aMM {a b c : Q} : un3 (.tup [a, b, c]) = some (a, b, c) := id rfl
@[simp] theorem aMN {a b c d : Q} : un4 (.tup [a, b, c, d]) = some (a, b, c, d) := id rfl
@[simp] theorem aML {a b : Q} : un2 (.lst [a, b]) = some (a, b) := id rfl
theorem tg2 (i j : Nat) : TgS (.tu [.nm i, .nm j]) un2 (fun Γ q => (Γ.set i (.fz q.1)).set j (.fz q.2)) := ⟨fun en r ht e => by
 unfold un2 at e
 split at e
 ·rename_i a b ep
  cases e
  obtain ⟨ws, e1, rs⟩ := aD4 r ep
  simp only [Reps] at rs
  obtain ⟨w1, _, rfl, t1, r1, w2, _, rfl, t2, r2, rfl⟩ := rs
  exact ⟨_, by rw [e1]; simp only [Tg.sets, Tg.set], (en.set r1 t1).set r2 t2⟩
 ·cases e⟩
def noK {α : Type} (K : Rs α -> Nat -> Prop) : Rs α -> Nat -> Prop := fun r c' => match r with
 | .ok a => K (.ok a) c'
 | .exc _ _ => False
def Pm.noX {α : Type} (p : Pm α) : Pm α := fun K c => p (noK K) c
@[simp] theorem pE {α : Type} {a : α} : (Pm.ret a).noX = .ret a := id rfl
@[simp] theorem aMu {α : Type} : (Pm.bad : Pm α).noX = .bad := id rfl
theorem Out.noX {α β : Type} {Rl : (Nat -> Prop) -> Hh -> β -> α -> Prop} {K : Rs β -> Nat -> Prop} {r : R α} (o : Out B F h Rl (noK K) r) : Out B F h Rl K (noX r) := by
 cases o with
 | ok k iv g r => exact .ok k iv g r
 | exc k iv g r => exact k.elim
theorem pF {α β β' : Type} {Rl : (Nat -> Prop) -> Hh -> β -> α -> Prop} {p : Pm β} {g : β -> Pm β'} {K2 : Rs β' -> Nat -> Prop} {r : R α} (run : ∀ {K : Rs β -> Nat -> Prop}, p K c -> Out B F h Rl K r) (k : (p.noX.bind g) K2 c) : Out B F h Rl (bK g K2) (PV.noX r) := Out.noX (run k)
def jT {α A : Type} (un : Q -> Option α) (pb : α -> A -> Pm A) : List Q -> A -> Pm A
 | [], acc => .ret acc
 | q :: qs, acc => (Pm.of (un q)).bind fun a => (pb a acc).bind fun acc' => jT un pb qs acc'
def kM (Γ : List Sl) : List Nat -> List Sl
 | [] => Γ
 | v :: vs => (kM Γ vs).set v .no
theorem En.wipe : ∀ {vs : List Nat}, En B F O h Γ σ -> En B F O h (kM Γ vs) (eF σ vs)
 | [], en => en
 | v :: vs, en => (en.wipe (vs := vs)).no
theorem aAK {α A A' : Type} {un : Q -> Option α} {pb : α -> A -> Pm A} {t : Tg} {ΓT : List Sl -> α -> List Sl} {body : A' -> Sg -> Hh -> R A'} {src : Src} {σ0 : Sg} {RA : (Nat -> Prop) -> Hh -> A -> A' -> Prop} {K : Rs A -> Nat -> Prop}
  (tg : TgS t un ΓT) (mono : ∀ {F h F' h' a a'}, Ge B.sa F h F' h' -> RA F h a a' -> RA F' h' a a')
  (hb : ∀ {F1 : Nat -> Prop} {h1 : Hh} {c1 : Nat} {x : α} {acc : A} {acc' : A'} {σ1 : Sg} {K : Rs A -> Nat -> Prop}, Iv B F1 h1 c1 -> En B F1 O h1 (ΓT Γ x) σ1 -> RA F1 h1 acc acc' -> pb x acc K c1 -> Out B F1 h1 RA K (body acc' σ1 h1)) :
  ∀ (n i : Nat) {qs : List Q} {ws : List D} {acc : A} {acc' : A'} {F : Nat -> Prop} {h : Hh} {c : Nat}, Iv B F h c -> En B F O h Γ σ0 -> (∀ {F' h'}, Ge B.sa F h F' h' -> ∀ j, src (i + j) h' = some ws[j]?) -> Reps F B.sa h qs ws -> ws.length < n -> RA F h acc acc' -> jT un pb qs acc K c ->
   Out B F h RA K (lcL src t body σ0 n i acc' h)
 | 0, i, qs, ws, acc, acc', F, h, c, iv, en, hs, r, hl, ra, k => by omega
 | n + 1, i, qs, ws, acc, acc', F, h, c, iv, en, hs, r, hl, ra, k => by
  have s0 := hs .rfl' 0
  simp only [Nat.add_zero] at s0
  cases qs with
  | nil =>
   simp only [Reps] at r; subst r
   simp only [lcL, s0]
   exact .ret iv k ra
  | cons q qs =>
   simp only [Reps] at r
   obtain ⟨w, ws, rfl, ht, r1, rs⟩ := r
   simp only [jT] at k
   obtain ⟨a, e, k1⟩ := pG k
   obtain ⟨σ', e2, en2⟩ := tg.run en r1 ht e
   simp only [lcL, s0, List.getElem?_cons_zero, e2]
   refine (hb iv en2 ra k1).bind fun i3 g3 r3 k3 => ?_
   refine aAK (pb := pb) (body := body) (RA := RA) (K := K) tg (fun g r => mono g r) (fun x1 x2 x3 x4 => hb x1 x2 x3 x4) n (i + 1) i3 (en.ge iv g3) (fun {F' h'} g j => ?_) (rs.mono g3.toGw) (by simp at hl; omega) r3 k3
   have := hs (g3.trans g) (j + 1)
   rw [Nat.add_assoc, Nat.add_comm 1 j]
   simpa using this
def lcB {α : Type} (pt : α -> Pm Bool) (pe : α -> Pm Q) (a : α) (acc : List Q) : Pm (List Q) := (pt a).noX.bind fun b => if b = true then (pe a).noX.bind fun y => if acc.length < sizeLine then .ret (acc ++ [y]) else .bad else .ret acc
/-- [e for t in l if c] -/
def lcP {α : Type} (un : Q -> Option α) (pt : α -> Pm Bool) (pe : α -> Pm Q) (l : List Q) : Pm Q := if l.length <= sizeLine then (jT un (lcB pt pe) l []).bind fun xs => .ret (.lst xs) else .bad
theorem aGD {α : Type} {mt : M Bool} {me : M D} {Γ' : α -> List Sl} {pt : α -> Pm Bool} {pe : α -> Pm Q} (ht : ∀ a, STb (Γ' a) mt (pt a)) (he : ∀ a, SEs (Γ' a) me (pe a)) {F1 : Nat -> Prop} {h1 : Hh} {c1 : Nat} {x : α} {acc : List Q} {acc' : List D} {σ1 : Sg} {K : Rs (List Q) -> Nat -> Prop}
  (iv : Iv B F1 h1 c1) (en : En B F1 O h1 (Γ' x) σ1) (ra : RlA B F1 h1 acc acc') (k : lcB pt pe x acc K c1) : Out B F1 h1 (RlA B) K (jC mt me acc' σ1 h1) := by
 unfold jC
 unfold lcB at k
 refine (pF (fun k => (ht x).run iv en k) k).bind fun i2 g2 r2 k2 => ?_
 subst r2
 split
 ·rename_i hx
  rw [if_pos hx] at k2
  refine (pF (fun k => (he x).run i2 (en.ge iv g2) k) k2).bind fun i3 g3 r3 k3 => ?_
  split at k3
  ·rename_i hl
   rw [if_pos (by rw [ra.len]; exact hl)]
   obtain ⟨F4, i4, g4, r4, t4⟩ := sG i3 r3
   exact .ok k3 i4 g4 ((((ra.mono g2.toGw).mono g3.toGw).mono g4.toGw).app (.one r4 t4))
  ·exact k3.elim
 ·rename_i hx
  rw [if_neg hx] at k2
  exact .ret i2 k2 (ra.mono g2.toGw)
theorem xL {α : Type} {mi : M Src} {t : Tg} {mt : M Bool} {me : M D} {vs : List Nat} {pi : Pm (List Q)} {un : Q -> Option α} {ΓT : List Sl -> α -> List Sl} {pt : α -> Pm Bool} {pe : α -> Pm Q} (hi : SIw Γ mi pi) (tg : TgS t un ΓT) (ht : ∀ a, STb (ΓT (kM Γ vs) a) mt (pt a)) (he : ∀ a, SEs (ΓT (kM Γ vs) a) me (pe a)) :
  SEf Γ (mLc mi t mt me vs) (pi.bind fun l => lcP un pt pe l) := ⟨fun {B F O σ h c K} iv en k => by
 refine (hi.run iv en k).bind fun {F1 h1 l src c1} i1 g1 r1 k1 => ?_
 unfold lcP at k1
 split at k1
 ·rename_i hl
  obtain ⟨ws, rs, hs⟩ := r1
  refine Out.bind (Rl := RlA B) (g := fun xs => Pm.ret (Q.lst xs)) ?_ fun i2 g2 r2 k2 => .ret i2 k2 (.inl ⟨_, _, rfl, rfl, r2⟩)
  exact aAK tg (fun g r => r.mono g.toGw) (fun iv en ra k => aGD ht he iv en ra k) fX 0 i1 ((en.ge iv g1).wipe) (fun g j => by rw [Nat.zero_add]; exact hs _ g.old j) rs (by rw [rs.len]; exact Nat.lt_of_le_of_lt hl (by decide)) (by simp [RlA, Reps]) k1
 ·exact k1.elim⟩
end
end PV
end
section
namespace PV
open PySem PySem.Spec PyProof.Rows L2
def lD {κ : Type} [DecidableEq κ] (kvs : List (κ × Q)) (k : κ) (w : Q) : List (κ × Q) :=
 if kvs.any (fun kv => decide (kv.1 = k)) then kvs.map (fun kv => if kv.1 = k then (kv.1, w) else kv) else kvs ++ [(k, w)]
section
variable {Γ : List Sl} {a b : M D} {p pa pb : Pm Q} {q : Q} {w : D} {F : Nat -> Prop} {sa : Nat} {h : Hh} {qs : List Q} {ws : List D} {B : Bs} {c : Nat} {O : Nat -> Option Nat} {σ : Sg} {κ : Type} [DecidableEq κ]
theorem aA8 {k : κ} : ∀ {kvs : List (κ × Q)} {ws : List (κ × D)}, aN F sa h kvs ws -> ws.any (fun kv => decide (kv.1 = k)) = kvs.any (fun kv => decide (kv.1 = k))
 | [], _, r => by simp only [aN] at r; subst r; rfl
 | (k', q) :: kvs, _, r => by
  simp only [aN] at r
  obtain ⟨w, r, rfl, _, _, z⟩ := r
  simp only [List.any_cons, aA8 z]
theorem aFw {k : κ} {kvs : List (κ × Q)} {ws : List (κ × D)} (r : aN F sa h kvs ws) (rq : Rep F sa h q w) (ht : w.isTl = false) : aN F sa h (lD kvs k q) (vE ws k w) := by
 unfold lD vE
 rw [aA8 r]
 split
 ·rename_i hk
  clear hk
  induction kvs generalizing ws with
  | nil => simp only [aN] at r; subst r; simp [aN]
  | cons p kvs ih =>
   obtain ⟨k', q'⟩ := p
   simp only [aN] at r
   obtain ⟨w', r, rfl, h1, h2, z⟩ := r
   simp only [List.map_cons]
   by_cases hk : k' = k
   ·simp only [hk, if_true, aN]; exact ⟨w, _, rfl, ht, rq, ih z⟩
   ·simp only [hk, if_false, aN]; exact ⟨w', _, rfl, h1, h2, ih z⟩
 ·rename_i hk
  clear hk
  induction kvs generalizing ws with
  | nil => simp only [aN] at r; subst r; simp only [List.nil_append, aN]; exact ⟨w, [], rfl, ht, rq, rfl⟩
  | cons p kvs ih =>
   obtain ⟨k', q'⟩ := p
   simp only [aN] at r
   obtain ⟨w', r, rfl, h1, h2, z⟩ := r
   simp only [List.cons_append, aN]
   exact ⟨w', _, rfl, h1, h2, ih z⟩
theorem aFp {kvs : List (κ × Q)} {k : κ} {q : Q} : (lD kvs k q).length <= kvs.length + 1 := by
 unfold lD; split <;> simp
def dcB {α : Type} (kq : Q -> Option κ) (pt : α -> Pm Bool) (pk pv : α -> Pm Q) (a : α) (acc : List (κ × Q)) : Pm (List (κ × Q)) := (pt a).noX.bind fun b => if b = true then (pk a).noX.bind fun y => (pv a).noX.bind fun z => (Pm.of (kq y)).bind fun k => if acc.length < sizeLine then .ret (lD acc k z) else .bad else .ret acc
theorem aGs {α : Type} {K0 : KKind κ} {kq : Q -> Option κ} (hk : ∀ {F : Nat -> Prop} {sa : Nat} {h : Hh} {q : Q} {w : D} {k : κ}, Vw F sa h q w -> kq q = some k -> K0.key w = some k) {mt : M Bool} {mk mv : M D} {Γ' : α -> List Sl} {pt : α -> Pm Bool} {pk pv : α -> Pm Q} (ht : ∀ a, STb (Γ' a) mt (pt a)) (hmk : ∀ a, SEs (Γ' a) mk (pk a)) (hmv : ∀ a, SEs (Γ' a) mv (pv a)) {F1 : Nat -> Prop} {h1 : Hh} {c1 : Nat} {x : α} {acc : List (κ × Q)} {acc' : List (κ × D)} {σ1 : Sg} {K : Rs (List (κ × Q)) -> Nat -> Prop}
  (iv : Iv B F1 h1 c1) (en : En B F1 O h1 (Γ' x) σ1) (ra : aN F1 B.sa h1 acc acc') (k : dcB kq pt pk pv x acc K c1) : Out B F1 h1 (fun F h q w => aN F B.sa h q w) K (sV K0 mt mk mv acc' σ1 h1) := by
 unfold sV
 unfold dcB at k
 refine (pF (fun k => (ht x).run iv en k) k).bind fun i2 g2 r2 k2 => ?_
 subst r2
 split
 ·rename_i hx
  rw [if_pos hx] at k2
  have e2 := en.ge iv g2
  refine (pF (fun k => (hmk x).run i2 e2 k) k2).bind fun i3 g3 r3 k3 => ?_
  have e3 := e2.ge i2 g3
  refine (pF (fun k => (hmv x).run i3 e3 k) k3).bind fun i4 g4 r4 k4 => ?_
  obtain ⟨kk, ek, k5⟩ := pG k4
  split at k5
  ·rename_i hl
   simp only [hk (r3.mono g4.toGw).vw ek]
   rw [if_pos (by rw [ra.len]; exact hl)]
   obtain ⟨F5, i5, g5, r5, t5⟩ := sG i4 r4
   exact .ok k5 i5 g5 (aFw ((((ra.mono g2.toGw).mono g3.toGw).mono g4.toGw).mono g5.toGw) r5 t5)
  ·exact k5.elim
 ·rename_i hx
  rw [if_neg hx] at k2
  exact .ret i2 k2 (ra.mono g2.toGw)
def dcP {α : Type} (kq : Q -> Option κ) (mk : List (κ × Q) -> Q) (un : Q -> Option α) (pt : α -> Pm Bool) (pk pv : α -> Pm Q) (l : List Q) : Pm Q := if l.length <= sizeLine then (jT un (dcB kq pt pk pv) l []).bind fun xs => .ret (mk xs) else .bad
theorem aJD {α : Type} {K0 : KKind κ} {kq : Q -> Option κ} {mkq : List (κ × Q) -> Q} (hk : ∀ {F : Nat -> Prop} {sa : Nat} {h : Hh} {q : Q} {w : D} {k : κ}, Vw F sa h q w -> kq q = some k -> K0.key w = some k)
  (hc : ∀ {F : Nat -> Prop} {sa : Nat} {h : Hh} {acc : List (κ × Q)} {acc' : List (κ × D)} {a : Nat}, aN F sa h acc acc' -> h[a]? = some (K0.cell acc') -> Top F sa h a (mkq acc))
  {mi : M Src} {t : Tg} {mt : M Bool} {mk mv : M D} {vs : List Nat} {pi : Pm (List Q)} {un : Q -> Option α} {ΓT : List Sl -> α -> List Sl} {pt : α -> Pm Bool} {pk pv : α -> Pm Q} (hi : SIw Γ mi pi) (tg : TgS t un ΓT) (ht : ∀ a, STb (ΓT (kM Γ vs) a) mt (pt a)) (hmk : ∀ a, SEs (ΓT (kM Γ vs) a) mk (pk a)) (hmv : ∀ a, SEs (ΓT (kM Γ vs) a) mv (pv a)) :
  SEf Γ (mDc K0 mi t mt mk mv vs) (pi.bind fun l => dcP kq mkq un pt pk pv l) := ⟨fun {B F O σ h c K} iv en k => by
 refine (hi.run iv en k).bind fun {F1 h1 l src c1} i1 g1 r1 k1 => ?_
 unfold dcP at k1
 split at k1
 ·rename_i hl
  obtain ⟨ws, rs, hs⟩ := r1
  refine Out.bind (Rl := fun F h q w => aN F B.sa h q w) (g := fun xs => Pm.ret (mkq xs)) ?_ fun i2 g2 r2 k2 => .ok k2 (i2.app _) i2.geApp (.inr ⟨_, rfl, Nat.le_trans g1.len g2.len, fun z => Nat.lt_irrefl _ (i2.lt z), hc (r2.mono (i2.geApp).toGw) (by simp)⟩)
  exact aAK tg (fun g r => r.mono g.toGw) (fun iv en ra k => aGs hk ht hmk hmv iv en ra k) fX 0 i1 ((en.ge iv g1).wipe) (fun g j => by rw [Nat.zero_add]; exact hs _ g.old j) rs (by rw [rs.len]; exact Nat.lt_of_le_of_lt hl (by decide)) (by simp [aN]) k1
 ·exact k1.elim⟩
def kTQ : Q -> Option (List Key)
 | .tup ks => aJ vS ks
 | _ => none
theorem aH0 {F : Nat -> Prop} {sa : Nat} {h : Hh} {q : Q} {w : D} {k : List Key} (v : Vw F sa h q w) (e : kTQ q = some k) : kT.key w = some k := by
 cases q with
 | tup ks =>
  obtain ⟨us, rfl, r2⟩ := cC v
  exact eR (fun q w b r e => yK r.vw e) r2 e
 | _ => simp [kTQ] at e
theorem aFW {α : Type} {mi : M Src} {t : Tg} {mt : M Bool} {mk mv : M D} {vs : List Nat} {pi : Pm (List Q)} {un : Q -> Option α} {ΓT : List Sl -> α -> List Sl} {pt : α -> Pm Bool} {pk pv : α -> Pm Q} (hi : SIw Γ mi pi) (tg : TgS t un ΓT) (ht : ∀ a, STb (ΓT (kM Γ vs) a) mt (pt a)) (hmk : ∀ a, SEs (ΓT (kM Γ vs) a) mk (pk a)) (hmv : ∀ a, SEs (ΓT (kM Γ vs) a) mv (pv a)) :
  SEf Γ (mDc kT mi t mt mk mv vs) (pi.bind fun l => dcP kTQ Q.dT un pt pk pv l) := aJD (K0 := kT) (mkq := Q.dT) (fun v e => aH0 v e) (fun r e => ⟨_, e, r⟩) hi tg ht hmk hmv
end
end PV
end
section
namespace PV
open PySem PySem.Spec PyProof.Rows L2
inductive Fl (L β : Type) where
 | nx (b : β) | brk (l : L) | cont (l : L) | ret (q : Q)
/-- the second environment tells no more than the first -/
inductive LeL : List Sl -> List Sl -> Prop
 | nil : LeL [] []
 | no {s : Sl} {Γ Γ' : List Sl} (r : LeL Γ Γ') : LeL (s :: Γ) (.no :: Γ')
 | eq {s : Sl} {Γ Γ' : List Sl} (r : LeL Γ Γ') : LeL (s :: Γ) (s :: Γ')
theorem LeL.refl : ∀ {Γ : List Sl}, LeL Γ Γ
 | [] => .nil
 | _ :: _ => .eq LeL.refl
def LeX (Γ : List Sl) : Option (List Sl) -> Prop
 | none => True
 | some Γ' => LeL Γ Γ'
theorem LeL.len : ∀ {Γ Γ' : List Sl}, LeL Γ Γ' -> Γ'.length = Γ.length
 | _, _, .nil => rfl
 | _, _, .no r => by simp [r.len]
 | _, _, .eq r => by simp [r.len]
theorem LeL.get : ∀ {Γ Γ' : List Sl} {i : Nat} {s : Sl}, LeL Γ Γ' -> Γ'[i]? = some s -> s ≠ .no -> Γ[i]? = some s
 | _, _, i, s, .nil, e, _ => by simp at e
 | _, _, 0, s, .no r, e, hn => by simp at e; exact absurd e.symm hn
 | _, _, 0, s, .eq r, e, hn => by simpa using e
 | _, _, i + 1, s, .no r, e, hn => by simpa using r.get (by simpa using e) hn
 | _, _, i + 1, s, .eq r, e, hn => by simpa using r.get (by simpa using e) hn
section
variable {Γ Γ' : List Sl} {a b : M D} {p pa pb : Pm Q} {q : Q} {w : D} {F F' : Nat -> Prop} {sa : Nat} {h h' : Hh} {qs : List Q} {ws : List D} {B : Bs} {c : Nat} {O : Nat -> Option Nat} {σ : Sg}
theorem En.le (en : En B F O h Γ σ) (l : LeL Γ Γ') : En B F O h Γ' σ :=
 ⟨en.len.trans l.len.symm, fun i q e => en.fz i q (l.get e (by simp)), fun i q e => en.ow i q (l.get e (by simp)), en.oh, en.inj, fun i w e => en.eqd i w (l.get e (by simp))⟩
def EnX (B : Bs) (F : Nat -> Prop) (h : Hh) (ΓX : Option (List Sl)) (σ : Sg) : Prop := match ΓX with
 | none => True
 | some Γ => ∃ O, En B F O h Γ σ
theorem En.lex {ΓX : Option (List Sl)} (en : En B F O h Γ σ) (l : LeX Γ ΓX) : EnX B F h ΓX σ := by
 cases ΓX with
 | none => trivial
 | some Γ' => exact ⟨O, en.le l⟩
end
/-- a simple statement's outcome -/
inductive Out1 (B : Bs) (F : Nat -> Prop) (h : Hh) {β : Type} (Γ' : β -> List Sl) (ΓX : Option (List Sl)) (K : Rs β -> Nat -> Prop) : RT -> Prop
 | nx {b : β} {c' : Nat} {σ' : Sg} {h' : Hh} {F' : Nat -> Prop} {O' : Nat -> Option Nat} (k : K (.ok b) c') (iv : Iv B F' h' c') (g : Gw F h F' h') (en : En B F' O' h' (Γ' b) σ') : Out1 B F h Γ' ΓX K (.nx σ' h')
 | exc {n c' : Nat} {fs : List (Str × Q)} {fs' : List (Str × D)} {σ' : Sg} {h' : Hh} {F' : Nat -> Prop} (k : K (.exc n fs) c') (iv : Iv B F' h' c') (g : Gw F h F' h') (r : aN F' B.sa h' fs fs') (ex : EnX B F' h' ΓX σ') : Out1 B F h Γ' ΓX K (.exc n fs' σ' h')
inductive OutS (B : Bs) (F : Nat -> Prop) (h : Hh) (fr : Bool) {L β : Type} (ΓL : L -> List Sl) (ΓN : β -> List Sl) (ΓX : Option (List Sl)) (K : Rs (Fl L β) -> Nat -> Prop) : RT -> Prop
 | nx {b : β} {c' : Nat} {σ' : Sg} {h' : Hh} {F' : Nat -> Prop} {O' : Nat -> Option Nat} (k : K (.ok (.nx b)) c') (iv : Iv B F' h' c') (g : Gw F h F' h') (en : En B F' O' h' (ΓN b) σ') : OutS B F h fr ΓL ΓN ΓX K (.nx σ' h')
 | brk {b : L} {c' : Nat} {σ' : Sg} {h' : Hh} {F' : Nat -> Prop} {O' : Nat -> Option Nat} (k : K (.ok (.brk b)) c') (iv : Iv B F' h' c') (g : Gw F h F' h') (en : En B F' O' h' (ΓL b) σ') : OutS B F h fr ΓL ΓN ΓX K (.brk σ' h')
 | cont {b : L} {c' : Nat} {σ' : Sg} {h' : Hh} {F' : Nat -> Prop} {O' : Nat -> Option Nat} (k : K (.ok (.cont b)) c') (iv : Iv B F' h' c') (g : Gw F h F' h') (en : En B F' O' h' (ΓL b) σ') : OutS B F h fr ΓL ΓN ΓX K (.cont σ' h')
 | ret {q : Q} {c' : Nat} {w : D} {h' : Hh} {F' : Nat -> Prop} (k : K (.ok (.ret q)) c') (iv : Iv B F' h' c') (g : Gw F h F' h') (r : if fr = true then pP B.h0.length F' B.sa h' q w else Rep F' B.sa h' q w) : OutS B F h fr ΓL ΓN ΓX K (.ret w h')
 | exc {n c' : Nat} {fs : List (Str × Q)} {fs' : List (Str × D)} {σ' : Sg} {h' : Hh} {F' : Nat -> Prop} (k : K (.exc n fs) c') (iv : Iv B F' h' c') (g : Gw F h F' h') (r : aN F' B.sa h' fs fs') (ex : EnX B F' h' ΓX σ') : OutS B F h fr ΓL ΓN ΓX K (.exc n fs' σ' h')
structure S1 {β : Type} (ΓX : Option (List Sl)) (Γ : List Sl) (m : MS) (p : Pm β) (Γ' : β -> List Sl) : Prop where
 run : ∀ {B : Bs} {F : Nat -> Prop} {O : Nat -> Option Nat} {σ : Sg} {h : Hh} {c : Nat} {K : Rs β -> Nat -> Prop}, Iv B F h c -> En B F O h Γ σ -> p K c -> Out1 B F h Γ' ΓX K (m σ h)
structure SS' {L β : Type} (fr : Bool) (ΓL : L -> List Sl) (ΓX : Option (List Sl)) (Γ : List Sl) (m : MS) (p : Pm (Fl L β)) (ΓN : β -> List Sl) : Prop where
 run : ∀ {B : Bs} {F : Nat -> Prop} {O : Nat -> Option Nat} {σ : Sg} {h : Hh} {c : Nat} {K : Rs (Fl L β) -> Nat -> Prop}, Iv B F h c -> En B F O h Γ σ -> p K c -> OutS B F h fr ΓL ΓN ΓX K (m σ h)
section
variable {L β γ : Type} {fr : Bool} {ΓL : L -> List Sl} {ΓX : Option (List Sl)} {Γ Γ' : List Sl} {ΓN : β -> List Sl} {ΓM : γ -> List Sl} {m a b : M D} {p pa pb : Pm Q} {q : Q} {w : D} {F F' : Nat -> Prop} {sa : Nat} {h h' : Hh} {qs : List Q} {ws : List D} {B : Bs} {c : Nat} {O : Nat -> Option Nat} {σ : Sg}
theorem OutS.gw {r : RT} {K : Rs (Fl L β) -> Nat -> Prop} (g : Gw F h F' h') (o : OutS B F' h' fr ΓL ΓN ΓX K r) : OutS B F h fr ΓL ΓN ΓX K r := by
 cases o with
 | nx k iv g' en => exact .nx k iv (g.trans g') en
 | brk k iv g' en => exact .brk k iv (g.trans g') en
 | cont k iv g' en => exact .cont k iv (g.trans g') en
 | ret k iv g' r => exact .ret k iv (g.trans g') r
 | exc k iv g' r ex => exact .exc k iv (g.trans g') r ex
theorem Out1.gw {r : RT} {K : Rs β -> Nat -> Prop} (g : Gw F h F' h') (o : Out1 B F' h' ΓN ΓX K r) : Out1 B F h ΓN ΓX K r := by
 cases o with
 | nx k iv g' en => exact .nx k iv (g.trans g') en
 | exc k iv g' r ex => exact .exc k iv (g.trans g') r ex
theorem Out.then1 {α β' : Type} {Rl : (Nat -> Prop) -> Hh -> β' -> α -> Prop} {r : R α} {f : α -> Hh -> RT} {g : β' -> Pm β} {K : Rs β -> Nat -> Prop} (iv : Iv B F h c) (en : En B F O h Γ σ) (lx : LeX Γ ΓX) (o : Out B F h Rl (bK g K) r)
  (hf : ∀ {F1 : Nat -> Prop} {h1 : Hh} {q : β'} {w : α} {c1 : Nat}, Iv B F1 h1 c1 -> Ge B.sa F h F1 h1 -> En B F1 O h1 Γ σ -> Rl F1 h1 q w -> g q K c1 -> Out1 B F1 h1 ΓN ΓX K (f w h1)) : Out1 B F h ΓN ΓX K (r.then σ f) := by
 cases o with
 | ok k i1 g1 r1 => exact (hf i1 g1 (en.ge iv g1) r1 k).gw g1.toGw
 | exc k i1 g1 r1 => exact .exc k i1 g1.toGw r1 ((en.ge iv g1).lex lx)
theorem Out.thenS {α β' : Type} {Rl : (Nat -> Prop) -> Hh -> β' -> α -> Prop} {r : R α} {f : α -> Hh -> RT} {g : β' -> Pm (Fl L β)} {K : Rs (Fl L β) -> Nat -> Prop} (iv : Iv B F h c) (en : En B F O h Γ σ) (lx : LeX Γ ΓX) (o : Out B F h Rl (bK g K) r)
  (hf : ∀ {F1 : Nat -> Prop} {h1 : Hh} {q : β'} {w : α} {c1 : Nat}, Iv B F1 h1 c1 -> Ge B.sa F h F1 h1 -> En B F1 O h1 Γ σ -> Rl F1 h1 q w -> g q K c1 -> OutS B F1 h1 fr ΓL ΓN ΓX K (f w h1)) : OutS B F h fr ΓL ΓN ΓX K (r.then σ f) := by
 cases o with
 | ok k i1 g1 r1 => exact (hf i1 g1 (en.ge iv g1) r1 k).gw g1.toGw
 | exc k i1 g1 r1 => exact .exc k i1 g1.toGw r1 ((en.ge iv g1).lex lx)
theorem aDw {α : Type} {K : Rs α -> Nat -> Prop} : bK (fun q => Pm.ret q) K = K := by
 funext r c; cases r <;> rfl
theorem iK (i : Nat) (lx : LeX Γ ΓX) (x : SEs Γ a pa) : S1 ΓX Γ (aS (.nm i) a) pa (fun q => Γ.set i (.fz q)) := ⟨fun iv en k =>
 Out.then1 (g := fun q => .ret q) iv en lx (x.run iv en (by rw [aDw]; exact k)) fun i1 g1 e1 r1 k1 => by
  obtain ⟨F2, i2, g2, r2, t2⟩ := sG i1 r1
  simp only [Tg.set]
  exact .nx k1 i2 g2.toGw ((e1.ge i1 g2).set r2 t2)⟩
theorem En.setOw {i a : Nat} (en : En B F O h Γ σ) (hb : B.h0.length <= a) (hf : ¬ F a) (ho : ∀ j, O j ≠ some a) (t : Top F B.sa h a q) : En B F (fun j => if j = i then some a else O j) h (Γ.set i (.ow q)) (σ.set i (some (.ref a))) := by
 refine ⟨by simp [en.len], fun j q' e => ?_, fun j q' e => ?_, fun j b e => ?_, fun j j' b e1 e2 => ?_, fun j w' e => by
  by_cases hj : i = j
  ·subst hj
   have hl : i < Γ.length := by simpa using aE e
   rw [List.getElem?_set_self hl] at e; cases e
  ·rw [List.getElem?_set_ne hj] at e ⊢
   exact en.eqd j w' e⟩
 ·by_cases hj : i = j
  ·subst hj
   have hl : i < Γ.length := by simpa using aE e
   rw [List.getElem?_set_self hl] at e; cases e
  ·rw [List.getElem?_set_ne hj] at e ⊢
   exact en.fz j q' e
 ·by_cases hj : i = j
  ·subst hj
   have hl : i < Γ.length := by simpa using aE e
   rw [List.getElem?_set_self hl] at e; cases e
   exact ⟨a, by simp, List.getElem?_set_self (by rw [en.len]; exact hl), t⟩
  ·rw [List.getElem?_set_ne hj] at e ⊢
   have : j ≠ i := fun z => hj z.symm
   simp only [this, if_false]
   exact en.ow j q' e
 ·split at e
  ·cases e; exact ⟨hb, hf, t.lt⟩
  ·exact en.oh j b e
 ·split at e1
  ·rename_i h1
   cases e1
   split at e2
   ·rename_i h2; rw [h1, h2]
   ·exact absurd e2 (ho j')
  ·split at e2
   ·cases e2; exact absurd e1 (ho j)
   ·exact en.inj j j' b e1 e2
theorem aEh (i : Nat) (lx : LeX Γ ΓX) (x : SEf Γ a pa) : S1 ΓX Γ (aS (.nm i) a) pa (fun q => Γ.set i (.ow q)) := ⟨fun {B F O σ h c K} iv en k =>
 Out.then1 (g := fun q => .ret q) iv en lx (x.run iv en (by rw [aDw]; exact k)) fun {F1 h1 q w c1} i1 g1 e1 r1 k1 => by
  obtain ⟨a, ea, ha, hf, i2, g2, t⟩ := aJb i1 g1.len r1
  simp only [Tg.set, ea]
  have e2 := e1.ge i1 g2
  refine .nx k1 i2 g2.toGw (e2.setOw (Nat.le_trans iv.len ha) hf (fun j z => ?_) t)
  have := (en.oh j a z).2.2
  omega⟩
theorem aEi {α : Type} {t : Tg} {un : Q -> Option α} {ΓT : List Sl -> α -> List Sl} (tg : TgS t un ΓT) (lx : LeX Γ ΓX) (x : SEs Γ a pa) : S1 ΓX Γ (aS t a) (pa.bind fun q => .of (un q)) (fun y => ΓT Γ y) := ⟨fun iv en k =>
 Out.then1 iv en lx (x.run iv en k) fun i1 g1 e1 r1 k1 => by
  obtain ⟨y, e, k2⟩ := gA k1
  obtain ⟨F2, i2, g2, r2, t2⟩ := sG i1 r1
  obtain ⟨σ', e3, en3⟩ := tg.run (e1.ge i1 g2) r2 t2 e
  simp only [e3]
  exact .nx k2 i2 g2.toGw en3⟩
theorem aIv (lx : LeX Γ ΓX) (x : SEw Γ a pa) : S1 ΓX Γ (fR a) (pa.bind fun _ => .ret ()) (fun _ => Γ) := ⟨fun iv en k =>
 Out.then1 iv en lx (x.run iv en k) fun i1 g1 e1 r1 k1 => .nx k1 i1 .rfl' e1⟩
theorem Iv.setO {x : Cl} {a : Nat} (iv : Iv B F h c) (ha : B.h0.length <= a) (hf : ¬ F a) : Iv B F (h.set a x) c := by
 have hs := iv.sl
 refine ⟨iv.sr.up (Up.set (is := [a]) (by simp)) (by simp; omega), iv.ns, fun b f => ?_, by simp; exact iv.len, iv.sl, iv.up0, iv.dn0, fun b l z => ?_⟩
 ·obtain ⟨y, e, l⟩ := iv.fl b f
  have : a ≠ b := fun z => hf (z ▸ f)
  exact ⟨y, by rw [List.getElem?_set_ne this]; exact e, by simpa using l⟩
 ·rw [List.getElem?_set_ne (by omega)]; exact iv.same0 b l z
theorem aCQ {x : Cl} {a : Nat} (hf : ¬ F a) : Gw F h F (h.set a x) := ⟨by simp, fun _ z => z, fun b f => List.getElem?_set_ne fun z : a = b => hf (by rw [z]; exact f)⟩
theorem En.chg {i a : Nat} {x : Cl} {q' : Q} (en : En B F O h Γ σ) (e : Γ[i]? = some (.ow q)) (ho : O i = some a) (t : Top F B.sa (h.set a x) a q') : En B F O (h.set a x) (Γ.set i (.ow q')) σ := by
 have hf := (en.oh i a ho).2.1
 have g : Gw F h F (h.set a x) := aCQ hf
 have hl : i < Γ.length := aE e
 refine ⟨by simp [en.len], fun j q0 ej => ?_, fun j q0 ej => ?_, fun j b eb => ?_, en.inj, fun j w' ej => by
  by_cases hj : i = j
  ·subst hj; rw [List.getElem?_set_self hl] at ej; cases ej
  ·rw [List.getElem?_set_ne hj] at ej; exact en.eqd j w' ej⟩
 ·by_cases hj : i = j
  ·subst hj; rw [List.getElem?_set_self hl] at ej; cases ej
  ·rw [List.getElem?_set_ne hj] at ej
   obtain ⟨w, e1, e2, r⟩ := en.fz j q0 ej
   exact ⟨w, e1, e2, r.mono g⟩
 ·by_cases hj : i = j
  ·subst hj
   rw [List.getElem?_set_self hl] at ej; cases ej
   obtain ⟨a', e1, e2, _⟩ := en.ow i q e
   rw [ho] at e1; cases e1
   exact ⟨a, ho, e2, t⟩
  ·rw [List.getElem?_set_ne hj] at ej
   obtain ⟨b, e1, e2, r⟩ := en.ow j q0 ej
   have : a ≠ b := fun z => hj (en.inj i j a ho (z ▸ e1))
   exact ⟨b, e1, e2, r.mono g (List.getElem?_set_ne this)⟩
 ·obtain ⟨o1, o2, o3⟩ := en.oh j b eb
  exact ⟨o1, o2, by simpa using o3⟩
def mT {β : Type} (T : String) (x : Q) (p : Pm β) : Pm β := if nA x = some T then p else .bad
@[simp] theorem aAR {p : Pm β} {x : List Q} : mT "list" (.lst x) p = p := by simp [mT, nA]
@[simp] theorem aMw {p : Pm β} {x : List (Key × Q)} : mT "dict" (.dK x) p = p := by simp [mT, nA]
@[simp] theorem aMx {p : Pm β} {x : List (List Key × Q)} : mT "dict" (.dT x) p = p := by simp [mT, nA]
/-- a method of one argument that changes a list or dict of one's own and returns None -/
theorem aLU {T : String} {op : Op1} {g : Q -> Q -> Option Q} (i : Nat) (e : Γ[i]? = some (.ow q)) (lx : LeX Γ ΓX) (x : SEs Γ a pa)
  (hop : ∀ {F : Nat -> Prop} {sa : Nat} {h : Hh} {a : Nat} {y : Q} {w : D} {q' : Q}, ¬ F a -> Top F sa h a q -> Rep F sa h y w -> g q y = some q' -> ∃ x, op (.ref a) w h = .ok .non (h.set a x) /\ Top F sa (h.set a x) a q') :
  S1 ΓX Γ (fR (mM1 (on1 T op) (mV i) a)) (mT T q (pa.bind fun y => .of (g q y))) (fun q' => Γ.set i (.ow q')) := ⟨fun {B F O σ h c K} iv en k => by
 obtain ⟨ad, o1, o2, t⟩ := en.ow i q e
 unfold mT at k
 split at k
 ·rename_i ht
  have hm : (mM1 (on1 T op) (mV i) a) σ h = (a σ h).bind fun y h2 => op (.ref ad) y h2 := by
   simp only [mM1, tJ, o2, R.bind_ok, aHv t.vw ht, aFf]
  show Out1 B F h _ ΓX K (((mM1 (on1 T op) (mV i) a) σ h).then σ fun _ h1 => .nx σ h1)
  rw [hm]
  have o := x.run iv en k
  revert o
  generalize a σ h = r0
  intro o
  cases o with
  | @ok y c' w h' F' k1 i1 g1 r1 =>
   obtain ⟨q', e1, k2⟩ := gA k1
   have e2 := en.ge iv g1
   obtain ⟨oh1, oh2, oh3⟩ := e2.oh i ad o1
   have t2 : Top F' B.sa h' ad q := by
    obtain ⟨ad', z1, z2, z3⟩ := e2.ow i q e
    rw [o1] at z1; cases z1; exact z3
   obtain ⟨xc, e3, t3⟩ := hop oh2 t2 r1 e1
   simp only [R.bind_ok, e3, R.then]
   exact .nx k2 (i1.setO oh1 oh2) (g1.toGw.trans (aCQ oh2)) (e2.chg e o1 t3)
  | exc k1 i1 g1 r1 => exact .exc k1 i1 g1.toGw r1 ((en.ge iv g1).lex lx)
 ·exact k.elim⟩
def lW (q x : Q) : Option Q := match q, x with
 | .lst qs, .lst rs => if qs.length + rs.length <= sizeLine then some (.lst (qs ++ rs)) else none
 | _, _ => none
theorem aBc (i : Nat) (e : Γ[i]? = some (.ow q)) (lx : LeX Γ ΓX) (x : SEs Γ a pa) : S1 ΓX Γ (fR (mM1 (on1 "list" jQ) (mV i) a)) (mT "list" q (pa.bind fun y => .of (lW q y))) (fun q' => Γ.set i (.ow q')) :=
 aLU i e lx x fun {F sa h a y w q'} hf t r e => by
  unfold lW at e
  split at e
  ·split at e
   ·rename_i hl
    cases e
    obtain ⟨ws, ea, rs⟩ := t
    obtain ⟨us, a1, a2, a3, a4, rs2⟩ := fS r.vw
    refine ⟨.lst (ws ++ us), ?_, _, List.getElem?_set_self (aE ea), ((rs.app rs2).mono (aCQ hf))⟩
    have : ws.length + us.length <= sizeLine := by rw [rs.len, rs2.len]; exact hl
    simp only [jQ, eC, ea, a2, this, if_true]
   ·cases e
  ·cases e
end
end PV
end
section
namespace PV
open PySem PySem.Spec PyProof.Rows L2
section
variable {L β γ : Type} {fr : Bool} {ΓL : L -> List Sl} {ΓX : Option (List Sl)} {Γ Γ' : List Sl} {ΓN : β -> List Sl} {ΓM : γ -> List Sl} {m a b d : M D} {p pa pb pd : Pm Q} {q : Q} {w : D} {F F' : Nat -> Prop} {sa : Nat} {h h' : Hh} {qs : List Q} {ws : List D} {B : Bs} {c : Nat} {O : Nat -> Option Nat} {σ : Sg}
def PVs (B : Bs) (F : Nat -> Prop) (h : Hh) : Nat -> List Bool -> List Q -> List D -> Prop
 | _, [], [], [] => True
 | n, md :: mds, q :: qs, w :: ws => if md = true then ∃ a, w = .ref a /\ n <= a /\ ¬ F a /\ Top F B.sa h a q /\ PVs B F h (a + 1) mds qs ws else w.isTl = false /\ Rep F B.sa h q w /\ PVs B F h n mds qs ws
 | _, _, _, _ => False
theorem PVs.len : ∀ {n : Nat} {mds : List Bool} {qs : List Q} {ws : List D}, PVs B F h n mds qs ws -> ws.length = mds.length
 | n, [], [], [], _ => rfl
 | n, md :: mds, q :: qs, w :: ws, r => by
  simp only [PVs] at r
  split at r
  ·obtain ⟨a, _, _, _, _, r⟩ := r; simp [r.len]
  ·simp [r.2.2.len]
 | n, [], q :: qs, ws, r => r.elim
 | n, [], [], w :: ws, r => r.elim
 | n, md :: mds, [], ws, r => r.elim
 | n, md :: mds, q :: qs, [], r => r.elim
def l2 : List Q -> Option (Q × Q)
 | [a, b] => some (a, b)
 | _ => none
def l3 : List Q -> Option (Q × Q × Q)
 | [a, b, c] => some (a, b, c)
 | _ => none
def l4 : List Q -> Option (Q × Q × Q × Q)
 | [a, b, c, d] => some (a, b, c, d)
 | _ => none
@[simp] theorem aNx {a b : Q} : l2 [a, b] = some (a, b) := id rfl
@[simp] theorem aNy {a b c : Q} : l3 [a, b, c] = some (a, b, c) := id rfl
@[simp] theorem aNz {a b c d : Q} : l4 [a, b, c, d] = some (a, b, c, d) := id rfl
end
end PV
end
section
namespace PV
open PySem PySem.Spec PyProof.Rows L2
def aBi {L β γ : Type} (f : γ -> Pm (Fl L β)) : Fl L γ -> Pm (Fl L β) := fun r => match r with
 | .nx b => f b
 | .brk l => .ret (.brk l)
 | .cont l => .ret (.cont l)
 | .ret q => .ret (.ret q)
def Pm.seq {L β γ : Type} (p : Pm (Fl L γ)) (f : γ -> Pm (Fl L β)) : Pm (Fl L β) := p.bind (aBi f)
@[simp] theorem aMF {L β γ : Type} {f : γ -> Pm (Fl L β)} {b : γ} : aBi f (.nx b) = f b := id rfl
@[simp] theorem aLX {L β γ : Type} {f : γ -> Pm (Fl L β)} {b : L} : aBi f (.brk b) = .ret (.brk b) := id rfl
@[simp] theorem aKU {L β γ : Type} {f : γ -> Pm (Fl L β)} {b : L} : aBi f (.cont b) = .ret (.cont b) := id rfl
@[simp] theorem aLY {L β γ : Type} {f : γ -> Pm (Fl L β)} {q : Q} : aBi f (.ret q) = .ret (.ret q) := id rfl
section
variable {L β γ : Type} {fr : Bool} {ΓL : L -> List Sl} {ΓX : Option (List Sl)} {Γ Γ' : List Sl} {ΓN : β -> List Sl} {ΓM : γ -> List Sl} {m a b d : M D} {p pa pb pd : Pm Q} {q : Q} {w : D} {F F' : Nat -> Prop} {sa : Nat} {h h' : Hh} {qs : List Q} {ws : List D} {B : Bs} {c : Nat} {O : Nat -> Option Nat} {σ : Sg} {s t : MS}
@[simp] theorem seq_nx {x : γ} {f : γ -> Pm (Fl L β)} : Pm.seq (.ret (.nx x)) f = f x := id rfl
@[simp] theorem seq_ret {f : γ -> Pm (Fl L β)} : Pm.seq (.ret (.ret q)) f = .ret (.ret q) := id rfl
@[simp] theorem seq_brk {l : L} {f : γ -> Pm (Fl L β)} : Pm.seq (.ret (.brk l)) f = .ret (.brk l) := id rfl
@[simp] theorem seq_cont {l : L} {f : γ -> Pm (Fl L β)} : Pm.seq (.ret (.cont l)) f = .ret (.cont l) := id rfl
@[simp] theorem seq_bad {f : γ -> Pm (Fl L β)} : Pm.seq .bad f = .bad := id rfl
@[simp] theorem seq_exc {n : Nat} {fs : List (Str × Q)} {f : γ -> Pm (Fl L β)} : Pm.seq (.exc n fs) f = .exc n fs := id rfl
@[simp] theorem aLZ {α : Type} {p : Pm α} {g : α -> Pm (Fl L γ)} {f : γ -> Pm (Fl L β)} : Pm.seq (p.bind g) f = p.bind fun x => (g x).seq f := by simp only [Pm.seq, aI]
theorem fL {p : Pm γ} {pr : γ -> Pm (Fl L β)} (x : S1 ΓX Γ s p ΓM) (y : ∀ z, SS' fr ΓL ΓX (ΓM z) t (pr z) ΓN) : SS' fr ΓL ΓX Γ (aM s t) (p.bind pr) ΓN := ⟨fun iv en k => by
 have o := x.run iv en k
 revert o
 simp only [aM]
 generalize s _ _ = r0
 intro o
 cases o with
 | nx k i1 g1 e1 => exact ((y _).run i1 e1 k).gw g1
 | exc k i1 g1 r1 ex => exact .exc k i1 g1 r1 ex⟩
theorem sW {p : Pm γ} {f : γ -> β} (x : S1 ΓX Γ s p ΓM) (y : ∀ z, LeL (ΓM z) (ΓN (f z))) : SS' fr ΓL ΓX Γ s (p.bind fun z => .ret (.nx (f z))) ΓN := ⟨fun iv en k => by
 have o := x.run iv en k
 revert o
 generalize s _ _ = r0
 intro o
 cases o with
 | nx k i1 g1 e1 => exact .nx k i1 g1 (e1.le (y _))
 | exc k i1 g1 r1 ex => exact .exc k i1 g1 r1 ex⟩
theorem lL {p : Pm (Fl L γ)} {pr : γ -> Pm (Fl L β)} (x : SS' fr ΓL ΓX Γ s p ΓM) (y : ∀ z, SS' fr ΓL ΓX (ΓM z) t (pr z) ΓN) : SS' fr ΓL ΓX Γ (aM s t) (p.seq pr) ΓN := ⟨fun iv en k => by
 have o := x.run iv en k
 revert o
 simp only [aM]
 generalize s _ _ = r0
 intro o
 cases o with
 | nx k i1 g1 e1 => exact ((y _).run i1 e1 k).gw g1
 | brk k i1 g1 e1 => exact .brk k i1 g1 e1
 | cont k i1 g1 e1 => exact .cont k i1 g1 e1
 | ret k i1 g1 r1 => exact .ret k i1 g1 r1
 | exc k i1 g1 r1 ex => exact .exc k i1 g1 r1 ex⟩
theorem lK {z : β} (l : LeL Γ (ΓN z)) : SS' fr ΓL ΓX Γ dF (.ret (.nx z)) ΓN := ⟨fun iv en k => .nx k iv .rfl' (en.le l)⟩
theorem gN (lx : LeX Γ ΓX) (x : SEs Γ a pa) : SS' false ΓL ΓX Γ (bF a) (pa.bind fun q => .ret (.ret q)) ΓN := ⟨fun iv en k =>
 Out.thenS iv en lx (x.run iv en k) fun i1 g1 e1 r1 k1 => .ret k1 i1 .rfl' (by simpa using r1)⟩
theorem aDA (i : Nat) (e : Γ[i]? = some (.ow q)) : SS' true ΓL ΓX Γ (bF (mV i)) (.ret (.ret q)) ΓN := ⟨fun iv en k => by
 obtain ⟨a, o1, o2, t⟩ := en.ow i q e
 obtain ⟨oh1, oh2, oh3⟩ := en.oh i a o1
 simp only [bF, tJ, o2, R.then]
 exact .ret k iv .rfl' (by simp only [if_true]; exact .inr ⟨a, rfl, oh1, oh2, t⟩)⟩
theorem aFv {κ : Type} {kvs kvs' : List (κ × Q)} {us us' : List (κ × D)} (r : aN F sa h kvs us) (r' : aN F sa h kvs' us') : aN F sa h (kvs ++ kvs') (us ++ us') :=
 pJ (by simp [r.keys, r'.keys]) (by simp only [List.map_append]; exact r.vals.app r'.vals)
theorem aA9 {κ : Type} : ∀ {kvs : List (κ × Q)} {us : List (κ × D)}, aN F sa h kvs us -> aN F sa h kvs.reverse us.reverse
 | [], _, r => by simp only [aN] at r; subst r; simp [aN]
 | (k, q) :: kvs, _, r => by
  simp only [aN] at r
  obtain ⟨w, r, rfl, h1, h2, z⟩ := r
  simp only [List.reverse_cons]
  refine aFv (aA9 z) ?_
  simp only [aN]; exact ⟨w, [], rfl, h1, h2, rfl⟩
theorem aGo {n cn : Nat} {ks : List Str} {ma : M (List D)} {ps : Pm (List Q)} (hn : n = ks.length) (lx : LeX Γ ΓX) (x : SAs n Γ ma ps) : SS' fr ΓL ΓX Γ (pC cn ks ma) (ps.bind fun xs => .exc cn ((ks.zip xs).reverse)) ΓN := ⟨fun iv en k =>
 Out.thenS iv en lx (x.run iv en k) fun i1 g1 e1 r1 k1 => by
  rw [if_pos (by rw [r1.1.len, r1.2, hn])]
  exact .exc k1 i1 .rfl' (aA9 (yM r1.1)) (e1.lex lx)⟩
theorem pS {tm : M Bool} {pt : Pm Bool} {p1 p2 : Pm (Fl L β)} (lx : LeX Γ ΓX) (x : STb Γ tm pt) (y : SS' fr ΓL ΓX Γ s p1 ΓN) (z : SS' fr ΓL ΓX Γ t p2 ΓN) : SS' fr ΓL ΓX Γ (fE tm s t) (pt.bind fun x => if x = true then p1 else p2) ΓN := ⟨fun iv en k =>
 Out.thenS iv en lx (x.run iv en k) fun i1 g1 e1 r1 k1 => by
  subst r1
  split
  ·rename_i hx; rw [if_pos hx] at k1; exact y.run i1 e1 k1
  ·rename_i hx; rw [if_neg hx] at k1; exact z.run i1 e1 k1⟩
def sH {S β : Type} (r : Fl S S) (k : S -> Pm (Fl L S)) : Pm (Fl L S) := match r with
 | .nx s => k s
 | .cont s => k s
 | .brk s => .ret (.nx s)
 | .ret q => .ret (.ret q)
def dZ {α S : Type} (un : Q -> Option α) (pb : α -> S -> Pm (Fl S S)) : List Q -> S -> Pm (Fl L S)
 | [], s => .ret (.nx s)
 | q :: qs, s => (Pm.of (un q)).bind fun a => (pb a s).bind fun r => sH (β := β) r fun s' => dZ un pb qs s'
def oM {α S : Type} (un : Q -> Option α) (pb : α -> S -> Pm (Fl S S)) (l : List Q) (s : S) : Pm (Fl L S) := if l.length <= sizeLine then dZ (β := Unit) un pb l s else .bad
theorem aB4 {α S : Type} {un : Q -> Option α} {pb : α -> S -> Pm (Fl S S)} {t : Tg} {ΓT : List Sl -> α -> List Sl} {b : MS} {src : Src} {Γ0 : S -> List Sl} {K : Rs (Fl L S) -> Nat -> Prop} (tg : TgS t un ΓT) (hb : ∀ a z, SS' fr Γ0 ΓX (ΓT (Γ0 z) a) b (pb a z) Γ0) :
  ∀ (n i : Nat) {qs : List Q} {ws : List D} {z : S} {F : Nat -> Prop} {h : Hh} {c : Nat} {O : Nat -> Option Nat} {σ : Sg}, Iv B F h c -> En B F O h (Γ0 z) σ -> (∀ {F' h'}, Gw F h F' h' -> ∀ j, src (i + j) h' = some ws[j]?) -> Reps F B.sa h qs ws -> ws.length < n -> dZ (β := Unit) un pb qs z K c ->
   OutS B F h fr ΓL Γ0 ΓX K (hA src t b n i σ h)
 | 0, i, qs, ws, z, F, h, c, O, σ, iv, en, hs, r, hl, k => by omega
 | n + 1, i, qs, ws, z, F, h, c, O, σ, iv, en, hs, r, hl, k => by
  have s0 := hs .rfl' 0
  simp only [Nat.add_zero] at s0
  cases qs with
  | nil =>
   simp only [Reps] at r; subst r
   simp only [hA, s0]
   exact .nx k iv .rfl' en
  | cons q qs =>
   simp only [Reps] at r
   obtain ⟨w, ws, rfl, ht, r1, rs⟩ := r
   simp only [dZ] at k
   obtain ⟨a, e, k1⟩ := pG k
   obtain ⟨σ', e2, en2⟩ := tg.run en r1 ht e
   simp only [hA, s0, List.getElem?_cons_zero, e2]
   have o := (hb a z).run iv en2 k1
   revert o
   generalize b σ' h = r0
   intro o
   have nxt : ∀ {z' : S} {c' : Nat} {σ2 : Sg} {h2 : Hh} {F2 : Nat -> Prop} {O2 : Nat -> Option Nat}, dZ (β := Unit) un pb qs z' K c' -> Iv B F2 h2 c' -> Gw F h F2 h2 -> En B F2 O2 h2 (Γ0 z') σ2 -> OutS B F h fr ΓL Γ0 ΓX K (hA src t b n (i + 1) σ2 h2) := fun k i2 g2 e3 => by
    refine (aB4 tg hb n (i + 1) i2 e3 (fun {F' h'} g j => ?_) (rs.mono g2) (by simp at hl; omega) k).gw g2
    have := hs (g2.trans g) (j + 1)
    rw [Nat.add_assoc, Nat.add_comm 1 j]
    simpa using this
   cases o with
   | nx k i2 g2 e3 => exact nxt k i2 g2 e3
   | cont k i2 g2 e3 => exact nxt k i2 g2 e3
   | brk k i2 g2 e3 => exact .nx k i2 g2 e3
   | ret k i2 g2 r2 => exact .ret k i2 g2 r2
   | exc k i2 g2 r2 ex => exact .exc k i2 g2 r2 ex
theorem zV {α S : Type} {un : Q -> Option α} {pb : α -> S -> Pm (Fl S S)} {tt : Tg} {ΓT : List Sl -> α -> List Sl} {b : MS} {mi : M Src} {pi : Pm (List Q)} {Γ0 : S -> List Sl} {z : S} (lx : LeX Γ ΓX) (hi : SIs Γ mi pi) (l : LeL Γ (Γ0 z)) (tg : TgS tt un ΓT) (hb : ∀ a z, SS' fr Γ0 ΓX (ΓT (Γ0 z) a) b (pb a z) Γ0) :
  SS' fr ΓL ΓX Γ (fJ mi tt b) (pi.bind fun l => oM un pb l z) Γ0 := ⟨fun iv en k =>
 Out.thenS iv en lx (hi.run iv en k) fun {F1 h1 ll src c1} i1 g1 e1 r1 k1 => by
  unfold oM at k1
  split at k1
  ·rename_i hl
   obtain ⟨ws, rs, hs⟩ := r1
   exact aB4 tg hb fX 0 i1 (e1.le l) (fun {F' h'} g j => by rw [Nat.zero_add]; exact hs _ g.same j) rs (by rw [rs.len]; exact Nat.lt_of_le_of_lt hl (by decide)) k1
  ·exact k1.elim⟩
abbrev HdP (L β : Type) := List Nat × (Q -> Pm (Fl L β))
def rO {L β : Type} : List (HdP L β) -> Nat -> List (Str × Q) -> Pm (Fl L β)
 | [], n, fs => .exc n fs
 | (l, ph) :: r, n, fs => if l.contains n = true then (ph (.xc n (fs.map (·.1)) (fs.map (·.2)))).noX else rO r n fs
def aBu {L β : Type} (p : Pm (Fl L β)) (hs : List (HdP L β)) : Pm (Fl L β) := fun K c => p (fun r c' => match r with
 | .ok f => K (.ok f) c'
 | .exc n fs => 100 <= n /\ rO hs n fs K c') c
@[simp] theorem aMc {f : Fl L β} {hs : List (HdP L β)} : aBu (.ret f) hs = .ret f := id rfl
@[simp] theorem aMb {hs : List (HdP L β)} : aBu .bad hs = (.bad : Pm (Fl L β)) := id rfl
theorem aFS {n : Nat} {fs : List (Str × Q)} {hs : List (HdP L β)} (hn : 100 <= n) : aBu (.exc n fs) hs = rO hs n fs := by
 funext K c; show (100 <= n /\ rO hs n fs K c) = _; simp [hn]
inductive HdS (fr : Bool) (ΓL : L -> List Sl) (ΓX : Option (List Sl)) (Γ : List Sl) (ΓN : β -> List Sl) : List Hdl -> List (HdP L β) -> Prop
 | nil : HdS fr ΓL ΓX Γ ΓN [] []
 | as {l : List Nat} {i : Nat} {ms : MS} {ph : Q -> Pm (Fl L β)} {hs : List Hdl} {ps : List (HdP L β)} (x : ∀ q, SS' fr ΓL none (Γ.set i (.fz q)) ms (ph q) ΓN) (hN : ∀ z, (ΓN z).set i .no = ΓN z) (hL : ∀ z, (ΓL z).set i .no = ΓL z) (r : HdS fr ΓL ΓX Γ ΓN hs ps) : HdS fr ΓL ΓX Γ ΓN ((l, some i, ms) :: hs) ((l, ph) :: ps)
 | no {l : List Nat} {ms : MS} {p : Pm (Fl L β)} {hs : List Hdl} {ps : List (HdP L β)} (x : SS' fr ΓL none Γ ms p ΓN) (r : HdS fr ΓL ΓX Γ ΓN hs ps) : HdS fr ΓL ΓX Γ ΓN ((l, none, ms) :: hs) ((l, fun _ => p) :: ps)
theorem aAC {K : Rs (Fl L β) -> Nat -> Prop} {n : Nat} {fs : List (Str × Q)} {fs' : List (Str × D)} (lx : LeX Γ ΓX) (iv : Iv B F h c) (en : En B F O h Γ σ) (r : aN F B.sa h fs fs') : ∀ {hs : List Hdl} {ps : List (HdP L β)}, HdS fr ΓL ΓX Γ ΓN hs ps -> rO ps n fs K c -> OutS B F h fr ΓL ΓN ΓX K (gS hs n fs' σ h)
 | _, _, .nil, k => .exc k iv .rfl' r (en.lex lx)
 | _, _, .as (l := l) (i := i) (ms := ms) (ph := ph) x hN hL t, k => by
  simp only [rO] at k
  simp only [gS]
  split at k
  ·rename_i hc
   rw [if_pos hc]
   have rx : Rep F B.sa h (.xc n (fs.map (·.1)) (fs.map (·.2))) (sS n fs') := by
    simp only [Rep, sS]
    exact ⟨_, by rw [r.keys], r.vals⟩
   have kk : ph (.xc n (fs.map (·.1)) (fs.map (·.2))) (noK K) c := k
   have o := (x _).run iv (en.set (i := i) rx rfl) kk
   revert o
   generalize ms _ _ = r0
   intro o
   cases o with
   | nx k i1 g1 e1 => exact .nx k i1 g1 (by rw [<- hN]; exact e1.no)
   | brk k i1 g1 e1 => exact .brk k i1 g1 (by rw [<- hL]; exact e1.no)
   | cont k i1 g1 e1 => exact .cont k i1 g1 (by rw [<- hL]; exact e1.no)
   | ret k i1 g1 r1 => exact .ret k i1 g1 r1
   | exc k i1 g1 r1 ex => exact k.elim
  ·rename_i hc
   rw [if_neg hc]
   exact aAC lx iv en r t k
 | _, _, .no (l := l) (ms := ms) (p := p) x t, k => by
  simp only [rO] at k
  simp only [gS]
  split at k
  ·rename_i hc
   rw [if_pos hc]
   have o := x.run (K := noK K) iv en k
   revert o
   generalize ms _ _ = r0
   intro o
   cases o with
   | nx k i1 g1 e1 => exact .nx k i1 g1 e1
   | brk k i1 g1 e1 => exact .brk k i1 g1 e1
   | cont k i1 g1 e1 => exact .cont k i1 g1 e1
   | ret k i1 g1 r1 => exact .ret k i1 g1 r1
   | exc k i1 g1 r1 ex => exact k.elim
  ·rename_i hc
   rw [if_neg hc]
   exact aAC lx iv en r t k
theorem aJC {p : Pm (Fl L β)} {hs : List Hdl} {ps : List (HdP L β)} (Γx : List Sl) (lx : LeX Γx ΓX) (x : SS' fr ΓL (some Γx) Γ s p ΓN) (y : HdS fr ΓL ΓX Γx ΓN hs ps) : SS' fr ΓL ΓX Γ (qL s hs) (aBu p ps) ΓN := ⟨fun {B F O σ h c K} iv en k => by
 have o := x.run iv en k
 revert o
 simp only [qL]
 generalize s σ h = r0
 intro o
 cases o with
 | nx k i1 g1 e1 => exact .nx k i1 g1 e1
 | brk k i1 g1 e1 => exact .brk k i1 g1 e1
 | cont k i1 g1 e1 => exact .cont k i1 g1 e1
 | ret k i1 g1 r1 => exact .ret k i1 g1 r1
 | exc k i1 g1 r1 ex =>
  obtain ⟨hn, k2⟩ := k
  simp only
  rw [if_pos hn]
  obtain ⟨O', e1⟩ := ex
  exact (aAC lx i1 e1 r1 y k2).gw g1⟩
def cF {L β : Type} (r : Fl L β) : Pm Q := match r with
 | .nx _ => .ret .non
 | .ret q => .ret q
 | _ => .bad
@[simp] theorem aMf {z : β} : cF (L := L) (.nx z) = .ret .non := id rfl
@[simp] theorem aAt : cF (L := L) (β := β) (.ret q) = .ret q := id rfl
theorem aAq {n : Nat} (iv : Iv B F h c) (r : Reps F B.sa h qs ws) : En B F (fun _ => none) h (qs.map Sl.fz ++ List.replicate (n - ws.length) Sl.no) (aV n ws) := by
 unfold aV
 refine ⟨by simp [r.len], fun i q e => ?_, fun i q e => ?_, fun i a e => (nomatch e), fun i j a e => (nomatch e), fun i w e => by
  rcases Nat.lt_or_ge i qs.length with hi | hi
  ·rw [List.getElem?_append_left (by simpa using hi), List.getElem?_map] at e
   obtain ⟨q', e1, e2⟩ := Option.map_eq_some_iff.mp e
   cases e2
  ·rw [List.getElem?_append_right (by simpa using hi), List.getElem?_replicate] at e
   split at e <;> cases e⟩
 ·rcases Nat.lt_or_ge i qs.length with hi | hi
  ·rw [List.getElem?_append_left (by simpa using hi), List.getElem?_map] at e
   obtain ⟨q', e1, e2⟩ := Option.map_eq_some_iff.mp e
   cases e2
   obtain ⟨w, e3, nt, rw'⟩ := r.get e1
   refine ⟨w, ?_, nt, rw'⟩
   rw [List.getElem?_append_left (by simpa [r.len] using hi), List.getElem?_map, e3]; rfl
  ·rw [List.getElem?_append_right (by simpa using hi), List.getElem?_replicate] at e
   split at e <;> cases e
 ·rcases Nat.lt_or_ge i qs.length with hi | hi
  ·rw [List.getElem?_append_left (by simpa using hi), List.getElem?_map] at e
   obtain ⟨q', e1, e2⟩ := Option.map_eq_some_iff.mp e
   cases e2
  ·rw [List.getElem?_append_right (by simpa using hi), List.getElem?_replicate] at e
   split at e <;> cases e
/-- a def whose result is whole -/
theorem hM {n np : Nat} {body : MS} {P : List Q -> Pm (Fl L β)} (hb : ∀ qs : List Q, qs.length = np -> SS' false ΓL none (qs.map Sl.fz ++ List.replicate (n - np) Sl.no) body (P qs) ΓN) :
  FnS false (fun ws h => if ws.length = np then fF (body (aV n ws) h) else .bad) (fun qs => if qs.length = np then (P qs).bind cF else .bad) := ⟨fun {F sa h c K qs ws} iv r k => by
 split at k
 ·rename_i hq
  rw [if_pos (by rw [r.len]; exact hq)]
  have e0 := aAq (n := n) iv r
  rw [r.len, hq] at e0
  have o := (hb qs hq).run iv e0 k
  revert o
  generalize body _ _ = r0
  intro o
  have ge : ∀ {F' : Nat -> Prop} {h' : Hh} {c' : Nat}, Iv ⟨h, F, sa⟩ F' h' c' -> Gw F h F' h' -> Ge sa F h F' h' := fun i2 g2 => ⟨g2, fun a l z => i2.dn0 a l z, fun a l z => i2.same0 a l z⟩
  cases o with
  | nx k i1 g1 e1 => exact .ok k i1 (ge i1 g1) (by simpa using aCp)
  | brk k i1 g1 e1 => exact k.elim
  | cont k i1 g1 e1 => exact k.elim
  | ret k i1 g1 r1 => exact .ok k i1 (ge i1 g1) r1
  | exc k i1 g1 r1 ex => exact .exc k i1 (ge i1 g1) r1
 ·exact k.elim⟩
def rM {L β : Type} (r : Fl L β) : Pm Q := match r with
 | .ret q => .ret q
 | _ => .bad
@[simp] theorem aLb : rM (L := L) (β := β) (.ret q) = .ret q := id rfl
/-- a def whose result is fresh -/
theorem aB2 {n np : Nat} {body : MS} {P : List Q -> Pm (Fl L β)} (hb : ∀ qs : List Q, qs.length = np -> SS' true ΓL none (qs.map Sl.fz ++ List.replicate (n - np) Sl.no) body (P qs) ΓN) :
  FnS true (fun ws h => if ws.length = np then fF (body (aV n ws) h) else .bad) (fun qs => if qs.length = np then (P qs).bind rM else .bad) := ⟨fun {F sa h c K qs ws} iv r k => by
 split at k
 ·rename_i hq
  rw [if_pos (by rw [r.len]; exact hq)]
  have e0 := aAq (n := n) iv r
  rw [r.len, hq] at e0
  have o := (hb qs hq).run iv e0 k
  revert o
  generalize body _ _ = r0
  intro o
  have ge : ∀ {F' : Nat -> Prop} {h' : Hh} {c' : Nat}, Iv ⟨h, F, sa⟩ F' h' c' -> Gw F h F' h' -> Ge sa F h F' h' := fun i2 g2 => ⟨g2, fun a l z => i2.dn0 a l z, fun a l z => i2.same0 a l z⟩
  cases o with
  | nx k i1 g1 e1 => exact k.elim
  | brk k i1 g1 e1 => exact k.elim
  | cont k i1 g1 e1 => exact k.elim
  | ret k i1 g1 r1 => exact .ok k i1 (ge i1 g1) r1
  | exc k i1 g1 r1 ex => exact .exc k i1 (ge i1 g1) r1
 ·exact k.elim⟩
end
abbrev xG := Nat -> Option ((Nat -> List Q -> Pm Q) -> Nat -> List Q -> Pm Q)
def aR (PT : xG) : Nat -> Nat -> List Q -> Pm Q
 | 0 => fun _ _ => .bad
 | k + 1 => fun f qs => match PT f with
  | some d => d (aR PT k) k qs
  | none => .bad
theorem aEV {fr : Bool} {PT : xG} {f : Nat} {cl : List D -> Hh -> R D} : FnS fr cl (aR PT 0 f) := ⟨fun _ _ k => k.elim⟩
theorem jR {fr : Bool} {PT : xG} {k f : Nat} {cl : List D -> Hh -> R D} (e : PT f = none) : FnS fr cl (aR PT (k + 1) f) := ⟨fun _ _ k => by simp only [aR, e] at k; exact k.elim⟩
theorem dA {fr : Bool} {T : Tab} {PT : xG} {k f : Nat} {d : Fd} {pd : (Nat -> List Q -> Pm Q) -> Nat -> List Q -> Pm Q} (e : T f = some d) (ep : PT f = some pd) (s : FnS fr (fun ws h => if ws.length = d.np then fF (d.body (aL T k) (aV d.nN ws) h) else .bad) (pd (aR PT k) k)) : FnS fr (aL T (k + 1) f) (aR PT (k + 1) f) := ⟨fun iv r k => by
 simp only [aR, ep] at k
 simp only [aL, e, aBb]
 exact s.run iv r k⟩
end PV
end
section
namespace PV
open PySem PySem.Spec PyProof.Rows L2
section
variable {L β γ : Type} {fr : Bool} {ΓL : L -> List Sl} {ΓX : Option (List Sl)} {Γ Γ' : List Sl} {ΓN : β -> List Sl} {ΓM : γ -> List Sl} {m a b d : M D} {p pa pb pd : Pm Q} {q : Q} {w : D} {F F' : Nat -> Prop} {sa : Nat} {h h' : Hh} {qs : List Q} {ws : List D} {B : Bs} {c : Nat} {O : Nat -> Option Nat} {σ : Sg} {s t : MS}
theorem aFT {p : Pm (Fl L γ)} {f : γ -> β} (x : SS' fr ΓL ΓX Γ s p ΓM) (l : ∀ z, LeL (ΓM z) (ΓN (f z))) : SS' fr ΓL ΓX Γ s (p.seq fun z => .ret (.nx (f z))) ΓN := ⟨fun iv en k => by
 have o := x.run iv en k
 revert o
 generalize s _ _ = r0
 intro o
 cases o with
 | nx k i1 g1 e1 => exact .nx k i1 g1 (e1.le (l _))
 | brk k i1 g1 e1 => exact .brk k i1 g1 e1
 | cont k i1 g1 e1 => exact .cont k i1 g1 e1
 | ret k i1 g1 r1 => exact .ret k i1 g1 r1
 | exc k i1 g1 r1 ex => exact .exc k i1 g1 r1 ex⟩
/-- a def treated by hand -/
theorem uR {fr : Bool} {T : Tab} {PT : xG} {k f : Nat} {g : Nat -> List Q -> Pm Q} (ep : PT f = some (fun _ => g)) (s : FnS fr (aL T (k + 1) f) (g k)) : FnS fr (aL T (k + 1) f) (aR PT (k + 1) f) := ⟨fun iv r k => by
 simp only [aR, ep] at k
 exact s.run iv r k⟩
end
end PV
end
section
namespace PV
open PySem PySem.Spec PyProof.Rows L2
section
variable {i j : Int} {a b : Str} {q x y z : Q} {qs : List Q}
@[simp] theorem aNd : cL (.int i) (.int j) = some (.int (i + j)) := id rfl
@[simp] theorem aNs : aC5 (.int i) (.int j) = some (.int (i - j)) := id rfl
@[simp] theorem aNM : qLt (.int i) (.int j) = some (.bl (decide (i < j))) := id rfl
@[simp] theorem aNL : qLe (.int i) (.int j) = some (.bl (decide (i <= j))) := id rfl
@[simp] theorem aNI : qGt (.int i) (.int j) = some (.bl (decide (j < i))) := id rfl
@[simp] theorem aNH : qGe (.int i) (.int j) = some (.bl (decide (j <= i))) := id rfl
@[simp] theorem aNo : aLJ (.int i) (.int j) = some (.int (if j > i then j else i)) := id rfl
@[simp] theorem aNp : aLK (.int i) (.int j) = some (.int (if j < i then j else i)) := id rfl
@[simp] theorem aIm : aA0 (.int i) = some (.int (-i)) := id rfl
@[simp] theorem aNg {k : Bool} : aAZ (.bl k) = some (.int (if k then 1 else 0)) := id rfl
@[simp] theorem aNh : aAZ (.int i) = some (.int i) := id rfl
@[simp] theorem aFr : vF (.lst qs) = some (.int qs.length) := id rfl
@[simp] theorem aLI : vF (.tup qs) = some (.int qs.length) := id rfl
@[simp] theorem aMB : vF (.kt qs) = some (.int qs.length) := id rfl
@[simp] theorem aC6 : hZ (.lst qs) = some (.tup qs) := id rfl
@[simp] theorem aJ6 : hZ (.tup qs) = some (.tup qs) := id rfl
@[simp] theorem aKT : aGa (.tup qs) = some (.lst qs) := id rfl
@[simp] theorem aKS : aGa (.lst qs) = some (.lst qs) := id rfl
@[simp] theorem dR {k : Bool} : dI (.bl k) = some k := id rfl
@[simp] theorem kS : kD (.int i) = some i := id rfl
@[simp] theorem aMD {k : Bool} : aLL (.bl k) = some (.bl (!k)) := id rfl
@[simp] theorem aFt : lE (.lst qs) = some qs := id rfl
@[simp] theorem vH : lE (.tup qs) = some qs := id rfl
@[simp] theorem aME : lE (.kt qs) = some qs := id rfl
@[simp] theorem aLM {s : Str} : lE (.str s) = some (s.cps.toList.map fun c => .str ⟨#[c]⟩) := id rfl
@[simp] theorem aKR : iH (.lst qs) = some (fW qs) := id rfl
@[simp] theorem nS : iH (.tup qs) = some (fW qs) := id rfl
@[simp] theorem aLN {us : List Q} : aIo (.lst qs) (.lst us) = some (aDt qs us) := id rfl
@[simp] theorem aLO {us : List Q} : aIo (.tup qs) (.tup us) = some (aDt qs us) := id rfl
@[simp] theorem aGS : qEq (.str a) (.str b) = some (.bl (decide (a = b))) := id rfl
@[simp] theorem aGU : qNe (.str a) (.str b) = some (.bl (!decide (a = b))) := id rfl
theorem aAY : qP (.int i) (.int j) = some (decide (i = j)) := by
 have e1 : aY bJ (.int i) = some (.int i) := rfl
 have e2 : aY bJ (.int j) = some (.int j) := rfl
 have e3 : PyData.eqv (.int i) (.int j) = decide (i = j) := by
  rw [Bool.eq_iff_iff]; simp [PyData.eqv]
 simp only [qP, e1, e2, wW, Bool.and_self, if_true, e3]
@[simp] theorem aMA : qEq (.int i) (.int j) = some (.bl (decide (i = j))) := by simp [qEq, aAY]
@[simp] theorem aMC : qNe (.int i) (.int j) = some (.bl (!decide (i = j))) := by simp [qNe, aAY]
@[simp] theorem aNK : qIs .non .non = some (.bl true) := id rfl
@[simp] theorem aNJ {k l : Bool} : qIs (.bl k) (.bl l) = some (.bl (decide (k = l))) := id rfl
@[simp] theorem aNi {k l : Bool} : aIj (.bl k) (.bl l) = some (.bl (!decide (k = l))) := id rfl
@[simp] theorem aNj : aIj .non .non = some (.bl false) := id rfl
@[simp] theorem aLH {c : Nat} {fs : List (Str × Q)} {f : Str} : yB f (.ins c fs) = if c < 100 then fs.lookup f else none := id rfl
@[simp] theorem aNl : qIx (.tup (x :: qs)) (.int 0) = some x := by simp [qIx, atI, ixN]
@[simp] theorem aNm : qIx (.tup (x :: y :: qs)) (.int 1) = some y := by
 have : (1 : Int) < (qs.length : Int) + 1 + 1 := by omega
 simp [qIx, atI, ixN, this]
@[simp] theorem aNn : qIx (.tup (x :: y :: z :: qs)) (.int 2) = some z := by
 have : (2 : Int) < (qs.length : Int) + 1 + 1 + 1 := by omega
 simp [qIx, atI, ixN, this]
@[simp] theorem aNk : qIx (.lst (x :: qs)) (.int 0) = some x := by simp [qIx, atI, ixN]
theorem aIk {n : Nat} (e : qs[n]? = some x) : qIx (.lst qs) (.int (n : Int)) = some x := by simp [qIx, sU, e]
@[simp] theorem aJn : cS (.int i) (.ty "int") = some (.bl true) := id rfl
@[simp] theorem aHV : cS (.int i) (.ty "bool") = some (.bl false) := id rfl
@[simp] theorem aJo : cS (.int i) (.ty "str") = some (.bl false) := id rfl
@[simp] theorem aJp : cS (.int i) (.ty "tuple") = some (.bl false) := id rfl
@[simp] theorem aJt : cS (.str a) (.ty "str") = some (.bl true) := id rfl
@[simp] theorem aJu : cS (.str a) (.ty "tuple") = some (.bl false) := id rfl
@[simp] theorem aJs : cS (.str a) (.ty "int") = some (.bl false) := id rfl
@[simp] theorem aJx : cS (.tup qs) (.ty "tuple") = some (.bl true) := id rfl
@[simp] theorem aJw : cS (.tup qs) (.ty "str") = some (.bl false) := id rfl
@[simp] theorem aJv : cS (.tup qs) (.ty "int") = some (.bl false) := id rfl
@[simp] theorem aJr : cS (.lst qs) (.ty "tuple") = some (.bl false) := id rfl
@[simp] theorem aJq : cS (.lst qs) (.ty "str") = some (.bl false) := id rfl
theorem kQ : qSl (.tup (x :: qs)) (some 1) none = some (.tup qs) := by
 have e1 : HT.sIx (x :: qs).length 0 (some 1) = 1 := by simp [HT.sIx]
 have e2 : HT.sIx (x :: qs).length (x :: qs).length none = (x :: qs).length := rfl
 simp only [qSl, xI, e1, e2]
 simp
theorem aIn {n : Nat} (h : n <= qs.length) : qSl (.tup qs) none (some (n : Int)) = some (.tup (qs.take n)) := by
 have e1 : HT.sIx qs.length 0 none = 0 := rfl
 have e2 : HT.sIx qs.length qs.length (some (n : Int)) = n := by
  have : ¬ ((n : Int) < 0) := by omega
  simp [HT.sIx, this]; omega
 simp only [qSl, xI, e1, e2]
 simp
theorem jK {us : List Q} (h : qs.length + us.length <= 16777216) : cL (.tup qs) (.tup us) = some (.tup (qs ++ us)) := by
 have h' : qs.length + us.length <= sizeLine := h
 simp [cL, h']
theorem zA {us : List Q} (h : qs.length + us.length <= 16777216) : lW (.lst qs) (.lst us) = some (.lst (qs ++ us)) := by
 have h' : qs.length + us.length <= sizeLine := h
 simp [lW, h']
theorem uY {α : Type} {f : α -> Bool} : ∀ {l : List α}, aJ dI (l.map fun x => Q.bl (f x)) = some (l.map f)
 | [] => rfl
 | x :: l => by simp only [List.map_cons, aJ, dI, uY (l := l)]
@[simp] theorem aFq {α : Type} {f : α -> Bool} {l : List α} : yA (.lst (l.map fun x => Q.bl (f x))) = some (.bl (l.all f)) := by
 simp only [yA, uY, Option.map_some, List.all_map]; rfl
@[simp] theorem aLE {α : Type} {f : α -> Bool} {l : List α} : aIi (.lst (l.map fun x => Q.bl (f x))) = some (.bl (l.any f)) := by
 simp only [aIi, uY, Option.map_some, List.any_map]; rfl
end
section
variable {α β : Type} {un : Q -> Option α} {pt : α -> Pm Bool} {pe : α -> Pm Q}
theorem aCW (f : β -> Q) (t : β -> Bool) (g : β -> Q) : ∀ {xs : List β} {acc : List Q}, acc.length + xs.length <= 16777216 -> (∀ x ∈ xs, ∃ a, un (f x) = some a /\ pt a = .ret (t x) /\ (t x = true -> pe a = .ret (g x))) -> jT un (lcB pt pe) (xs.map f) acc = .ret (acc ++ (xs.filter t).map g)
 | [], acc, _, _ => by simp [jT]
 | x :: xs, acc, hl, h => by
  obtain ⟨a, e1, e2, e3⟩ := h x (by simp)
  simp only [List.length_cons] at hl
  have hz : acc.length < sizeLine := szl (by omega)
  simp only [List.map_cons, jT, e1, aP, aH, lcB, e2, pE]
  cases ht : t x with
  | true =>
   simp only [if_true, e3 ht, pE, aH, hz]
   rw [aCW f t g (by simp; omega) fun y hy => h y (by simp [hy])]
   simp [ht]
  | false =>
   simp only [Bool.false_eq_true, if_false, aH]
   rw [aCW f t g (by omega) fun y hy => h y (by simp [hy])]
   simp [ht]
/-- [g x for x in xs if t x] -/
theorem wF {xs : List β} (f : β -> Q) (t : β -> Bool) (g : β -> Q) (hl : xs.length <= 16777216) (h : ∀ x ∈ xs, ∃ a, un (f x) = some a /\ pt a = .ret (t x) /\ (t x = true -> pe a = .ret (g x))) : lcP un pt pe (xs.map f) = .ret (.lst ((xs.filter t).map g)) := by
 have hz : (xs.map f).length <= sizeLine := by rw [List.length_map]; exact sz hl
 simp only [lcP, hz, if_true]
 rw [aCW f t g (by simpa using hl) h]
 simp
theorem aCe {xs : List β} (f : β -> Q) (g : β -> Q) (hl : xs.length <= 16777216) (h : ∀ x ∈ xs, ∃ a, un (f x) = some a /\ pt a = .ret true /\ pe a = .ret (g x)) : lcP un pt pe (xs.map f) = .ret (.lst (xs.map g)) := by
 have := wF (un := un) (pt := pt) (pe := pe) f (fun _ => true) g hl fun x hx => by
  obtain ⟨a, e1, e2, e3⟩ := h x hx
  exact ⟨a, e1, e2, fun _ => e3⟩
 rw [List.filter_eq_self.mpr (by simp)] at this
 exact this
end
section
variable {α β S L : Type} {un : Q -> Option α} {pb : α -> S -> Pm (Fl S S)}
@[simp] theorem tT {β : Type} {s : S} {k : S -> Pm (Fl L S)} : sH (β := β) (.nx s) k = k s := id rfl
@[simp] theorem aK2 {β : Type} {s : S} {k : S -> Pm (Fl L S)} : sH (β := β) (.cont s) k = k s := id rfl
@[simp] theorem aL8 {β : Type} {s : S} {k : S -> Pm (Fl L S)} : sH (β := β) (.brk s) k = .ret (.nx s) := id rfl
@[simp] theorem aL9 {β : Type} {q : Q} {k : S -> Pm (Fl L S)} : sH (β := β) (.ret q) k = .ret (.ret q) := id rfl
theorem lR {l : List Q} {s : S} (h : l.length <= 16777216) : oM (L := L) un pb l s = dZ (β := Unit) un pb l s := by
 have : l.length <= sizeLine := sz h
 simp [oM, this]
theorem yP (f : β -> Q) (t : β -> Bool) (v : Q) {s : S} : ∀ {xs : List β}, (∀ x ∈ xs, ∃ a, un (f x) = some a /\ pb a s = if t x = true then .ret (.nx s) else .ret (.ret v)) -> dZ (L := L) (β := Unit) un pb (xs.map f) s = if xs.all t = true then .ret (.nx s) else .ret (.ret v)
 | [], _ => by simp [dZ]
 | x :: xs, h => by
  obtain ⟨a, e1, e2⟩ := h x (by simp)
  simp only [List.map_cons, dZ, e1, aP, aH, e2]
  cases ht : t x with
  | true => simp only [if_true, aH, tT, List.all_cons, ht, Bool.true_and]; exact yP f t v fun y hy => h y (by simp [hy])
  | false => simp [ht]
/-- for x in xs: if not t x: return v -/
theorem aAw {xs : List β} {s : S} (f : β -> Q) (t : β -> Bool) (v : Q) (hl : xs.length <= 16777216) (h : ∀ x ∈ xs, ∃ a, un (f x) = some a /\ pb a s = if t x = true then .ret (.nx s) else .ret (.ret v)) : oM (L := L) un pb (xs.map f) s = if xs.all t = true then .ret (.nx s) else .ret (.ret v) := by
 rw [lR (by simpa using hl)]
 exact yP f t v h
end
def Opr.q (o : Opr) : Q := .tup [.str o.kind, .tup (o.words.map .str)]
def aAQ (ops : List Opr) : Q := .tup (ops.map Opr.q)
mutual
def Tr.q : Tr -> Q
 | .leaf s => .str s
 | .grp t => .tup [.str "(", t.q]
 | .nd n ts => .tup (.int n :: Tr.qs ts)
def Tr.qs : List Tr -> List Q
 | [] => []
 | t :: ts => t.q :: Tr.qs ts
end
theorem jL : ∀ ts : List Tr, Tr.qs ts = ts.map Tr.q
 | [] => rfl
 | t :: ts => by simp only [Tr.qs, List.map_cons, jL ts]
def Ent.q (x : Ent) : Q := .tup [.int x.s, .int x.o, .str x.e]
section
variable {F : Nat -> Prop} {sa : Nat} {h : Hh}
theorem aFx {l : List Str} : Reps F sa h (l.map Q.str) (l.map D.str) := qS fun _ _ => ⟨rfl, gK⟩
theorem aGX {o : Opr} : Rep F sa h o.q o.enc := cZ (by simp only [Reps]; exact ⟨_, _, rfl, rfl, gK, _, _, rfl, rfl, cZ aFx, rfl⟩)
theorem aGY {ops : List Opr} : Rep F sa h (aAQ ops) (.tup (ops.map Opr.enc)) := cZ (qS fun _ _ => ⟨rfl, aGX⟩)
mutual
theorem aBa : ∀ t : Tr, Rep F sa h t.q t.enc
 | .leaf s => by simp only [Tr.q, Tr.enc]; exact gK
 | .grp t => by
  simp only [Tr.q, Tr.enc]
  exact cZ (by simp only [Reps]; exact ⟨_, _, rfl, rfl, gK, _, _, rfl, pX, aBa t, rfl⟩)
 | .nd n ts => by
  simp only [Tr.q, Tr.enc]
  exact cZ (by simp only [Reps]; exact ⟨_, _, rfl, rfl, bY, rep_trs ts⟩)
theorem rep_trs : ∀ ts : List Tr, Reps F sa h (Tr.qs ts) (Tr.encs ts)
 | [] => by simp only [Tr.qs, Tr.encs, Reps]
 | t :: ts => by simp only [Tr.qs, Tr.encs, Reps]; exact ⟨_, _, rfl, pX, aBa t, rep_trs ts⟩
end
theorem uI {x : Str} {w : D} (r : Rep F sa h (.str x) w) : w = .str x := cX r.vw
theorem vI {α : Type} {f : α -> Q} {g : α -> D} (hf : ∀ a w, Rep F sa h (f a) w -> w = g a) : ∀ {l : List α} {ws : List D}, Reps F sa h (l.map f) ws -> ws = l.map g
 | [], ws, r => by simpa [Reps] using r
 | a :: l, ws, r => by
  simp only [List.map_cons, Reps] at r
  obtain ⟨w, r', rfl, _, h1, h2⟩ := r
  rw [hf a w h1, vI hf h2]; rfl
theorem aBI {o : Opr} {w : D} (r : Rep F sa h o.q w) : w = o.enc := by
 obtain ⟨ws, rfl, r'⟩ := cC r.vw
 simp only [Reps] at r'
 obtain ⟨w1, _, rfl, _, r1, w2, _, rfl, _, r2, rfl⟩ := r'
 obtain ⟨us, rfl, r3⟩ := cC r2.vw
 rw [uI r1, vI (fun _ _ r => uI r) r3]; rfl
theorem aBJ {ops : List Opr} {w : D} (r : Rep F sa h (aAQ ops) w) : w = .tup (ops.map Opr.enc) := by
 obtain ⟨ws, rfl, r'⟩ := cC r.vw
 rw [vI (fun _ _ r => aBI r) r']
theorem Iv.ux {B : Bs} {F : Nat -> Prop} {h h' : Hh} {c c' : Nat} (iv : Iv B F h c) (u : Ux [B.sa] h h') (s : Sr h' B.sa c') : Iv B F h' c' /\ Ge B.sa F h F h' := by
 have hF : ∀ a, F a -> a < h.length /\ a ≠ B.sa := fun a f => ⟨iv.lt f, fun z => iv.ns (z ▸ f)⟩
 have hs : ∀ a, a < h.length -> a ≠ B.sa -> h'[a]? = h[a]? := fun a l z => u.same a l (by simpa using z)
 refine ⟨⟨s, iv.ns, fun a f => ?_, Nat.le_trans iv.len u.len, iv.sl, iv.up0, iv.dn0, fun a l z => ?_⟩, ⟨⟨u.len, fun _ z => z, fun a f => hs a (hF a f).1 (hF a f).2⟩, fun _ _ z => z, hs⟩⟩
 ·obtain ⟨x, e, l⟩ := iv.fl a f
  exact ⟨x, by rw [hs a (hF a f).1 (hF a f).2]; exact e, aBX u.len l⟩
 ·rw [hs a (Nat.lt_of_lt_of_le l iv.len) z]; exact iv.same0 a l z
end
end PV
end
section
namespace PV
open PySem PySem.Spec PyProof.Rows L2
section
variable {cl : Cll} {REST : MS} {ns : List Int} {N isrc : Nat} {L β : Type} {ΓL : L -> List Sl} {ΓN : β -> List Sl}
theorem aE1 {j : Nat} {p : Pm (Fl L β)} (hsrc : ∀ h, ∃ a b : Int, cl isrc [.fl (ns.map .int), .int j] h = .ok (.tl [.int a, .int b, .int 0]) h)
  (hr : SS' false ΓL none ([.eqd (.fl (ns.map .int)), .fz (.int j), .fz .src] ++ List.replicate N .no) REST p ΓN)
  (hp : p (fun r _ => (∃ x, r = .ok (.nx x)) \/ ∃ x, r = .ok (.cont x)) 0)
  (hN : ∀ b, (ΓN b)[0]? = some (.eqd (.fl (ns.map .int))) /\ (ΓN b).length = N + 3) (hL : ∀ b, (ΓL b)[0]? = some (.eqd (.fl (ns.map .int))) /\ (ΓL b).length = N + 3)
  {σ : Sg} {h : Hh} (hl : σ.length = N + 3) (h0 : σ[0]? = some (some (.fl (ns.map .int)))) (h1 : σ[1]? = some (some (.int j))) :
  ∃ σ' h', (aM (aS (.nm 2) (aK cl isrc (aA [mV 0, mV 1]))) REST σ h = .nx σ' h' \/ aM (aS (.nm 2) (aK cl isrc (aA [mV 0, mV 1]))) REST σ h = .cont σ' h') /\ σ'.length = N + 3 /\ σ'[0]? = some (some (.fl (ns.map .int))) := by
 obtain ⟨a, b, es⟩ := hsrc h
 have g : gcR h (.ok (.tl [.int a, .int b, .int 0]) h) = .ok (.tl [.int a, .int b, .int 0]) h := aHN (by simp) rfl
 have m0 : ∀ h, mV 0 σ h = .ok (.fl (ns.map .int)) h := fun h => by rw [tJ, h0]
 have m1 : ∀ h, mV 1 σ h = .ok (.int j) h := fun h => by rw [tJ, h1]
 have s1 : aS (.nm 2) (aK cl isrc (aA [mV 0, mV 1])) σ h = .nx (σ.set 2 (some (.ref h.length))) (h ++ [.lst [.int a, .int b, .int 0]]) := by
  simp [m0, m1, es, g]
 have iv : Iv ⟨h ++ [.lst [.int a, .int b, .int 0]], fun _ => False, h.length⟩ (fun _ => False) (h ++ [.lst [.int a, .int b, .int 0]]) 0 :=
  ⟨⟨a, b, 0, by simp, by omega, by omega⟩, id, fun _ z => z.elim, Nat.le_refl _, by simp, fun _ z => z, fun _ _ z => z, fun _ _ _ => rfl⟩
 have en : En ⟨h ++ [.lst [.int a, .int b, .int 0]], fun _ => False, h.length⟩ (fun _ => False) (fun _ => none) (h ++ [.lst [.int a, .int b, .int 0]]) ([.eqd (.fl (ns.map .int)), .fz (.int j), .fz .src] ++ List.replicate N .no) (σ.set 2 (some (.ref h.length))) := by
  refine ⟨by simp [hl], fun i q e => ?_, fun i q e => ?_, fun i a e => (nomatch e), fun i j a e => (nomatch e), fun i w e => ?_⟩
  ·match i, e with
   | 0, e => simp at e
   | 1, e => simp at e; subst e; exact ⟨.int j, by rw [List.getElem?_set_ne (by decide)]; exact h1, rfl, bY⟩
   | 2, e => simp at e; subst e; exact ⟨.ref h.length, List.getElem?_set_self (by omega), rfl, by simp only [Rep]⟩
   | i + 3, e => simp [List.getElem?_replicate] at e
  ·match i, e with
   | 0, e => simp at e
   | 1, e => simp at e
   | 2, e => simp at e
   | i + 3, e => simp [List.getElem?_replicate] at e
  ·match i, e with
   | 0, e => simp at e; subst e; rw [List.getElem?_set_ne (by decide)]; exact h0
   | 1, e => simp at e
   | 2, e => simp at e
   | i + 3, e => simp [List.getElem?_replicate] at e
 have o := hr.run iv en hp
 simp only [aM, s1, RT.seq]
 revert o
 generalize REST _ _ = r0
 intro o
 cases o with
 | nx k i2 g2 e2 => exact ⟨_, _, .inl rfl, by rw [e2.len]; exact (hN _).2, e2.eqd 0 _ (hN _).1⟩
 | cont k i2 g2 e2 => exact ⟨_, _, .inr rfl, by rw [e2.len]; exact (hL _).2, e2.eqd 0 _ (hL _).1⟩
 | brk k i2 g2 e2 => rcases k with ⟨_, k⟩ | ⟨_, k⟩ <;> cases k
 | ret k i2 g2 e2 => rcases k with ⟨_, k⟩ | ⟨_, k⟩ <;> cases k
 | exc k i2 g2 e2 => rcases k with ⟨_, k⟩ | ⟨_, k⟩ <;> cases k
theorem uW {b : MS} {n : Nat} (hb : ∀ j, j < n -> ∀ {σ : Sg} {h : Hh}, σ.length = N + 3 -> σ[0]? = some (some (.fl (ns.map .int))) -> σ[1]? = some (some (.int j)) -> ∃ σ' h', (b σ h = .nx σ' h' \/ b σ h = .cont σ' h') /\ σ'.length = N + 3 /\ σ'[0]? = some (some (.fl (ns.map .int)))) :
  ∀ (m i : Nat) {σ : Sg} {h : Hh}, i <= n -> n < i + m -> σ.length = N + 3 -> σ[0]? = some (some (.fl (ns.map .int))) -> ∃ σ' h', hA (jZ 0 n) (.nm 1) b m i σ h = .nx σ' h'
 | 0, i, σ, h, hin, hm, hl, h0 => by omega
 | m + 1, i, σ, h, hin, hm, hl, h0 => by
  simp only [hA, jZ]
  by_cases hi : i < n
  ·simp only [hi, if_true, Tg.set]
   obtain ⟨σ', h', e, l', z'⟩ := hb i hi (σ := σ.set 1 (some (.int (0 + (i : Nat))))) (h := h) (by simp [hl]) (by rw [List.getElem?_set_ne (by decide)]; exact h0) (by rw [List.getElem?_set_self (by omega)]; simp)
   rcases e with e | e
   ·simp only [e]; exact uW hb m (i + 1) (by omega) (by omega) l' z'
   ·simp only [e]; exact uW hb m (i + 1) (by omega) (by omega) l' z'
  ·simp only [hi, if_false]; exact ⟨_, _, rfl⟩
theorem aJJ {T : Tab} {il : Nat} {m : Cll -> MS} {mi : M Src} {p : Nat -> Pm (Fl L β)} (eT : T il = some ⟨N + 3, 1, m⟩) (em : m (aL T 199) = aM (fJ mi (.nm 1) (aM (aS (.nm 2) (aK (aL T 199) isrc (aA [mV 0, mV 1]))) REST)) (bF (mC (.bl true))))
  (hmi : ∃ n, n <= 4 /\ ∀ σ : Sg, σ[0]? = some (some (.fl (ns.map .int))) -> mi σ [] = .ok (jZ 0 n) [])
  (hsrc : ∀ j, j <= 3 -> ∀ h, ∃ a b : Int, aL T 199 isrc [.fl (ns.map .int), .int (j : Nat)] h = .ok (.tl [.int a, .int b, .int 0]) h)
  (hr : ∀ j : Nat, SS' false ΓL none ([.eqd (.fl (ns.map .int)), .fz (.int j), .fz .src] ++ List.replicate N .no) REST (p j) ΓN)
  (hp : ∀ j : Nat, j <= 3 -> p j (fun r _ => (∃ x, r = .ok (.nx x)) \/ ∃ x, r = .ok (.cont x)) 0)
  (hN : ∀ b, (ΓN b)[0]? = some (.eqd (.fl (ns.map .int))) /\ (ΓN b).length = N + 3) (hL : ∀ b, (ΓL b)[0]? = some (.eqd (.fl (ns.map .int))) /\ (ΓL b).length = N + 3) : ∃ h, aL T 200 il [.fl (ns.map .int)] [] = .ok (.bl true) h := by
 obtain ⟨n, hn, em2⟩ := hmi
 rw [dQ (d := ⟨N + 3, 1, m⟩) eT]
 have s0 : (aV (N + 3) [D.fl (ns.map .int)])[0]? = some (some (.fl (ns.map .int))) := rfl
 have sl : (aV (N + 3) [D.fl (ns.map .int)]).length = N + 3 := by simp [aV]
 obtain ⟨σ', h', e⟩ := uW (b := aM (aS (.nm 2) (aK (aL T 199) isrc (aA [mV 0, mV 1]))) REST) (n := n) (fun j hj {σ h} hl h0 h1 => aE1 (hsrc j (by omega)) (hr j) (hp j (by omega)) hN hL hl h0 h1) fX 0 (Nat.zero_le _) (h := []) (by unfold fX; omega) sl s0
 have fo : fJ mi (.nm 1) (aM (aS (.nm 2) (aK (aL T 199) isrc (aA [mV 0, mV 1]))) REST) (aV (N + 3) [D.fl (ns.map .int)]) [] = .nx σ' h' := by
  simp only [fJ, em2 _ s0, R.then]; exact e
 simp only [List.length_cons, List.length_nil, if_true, em, aFa, fo, RT.seq_nx]
 exact ⟨h', rfl⟩
theorem aGZ {a : Nat} (ha : a <= 4) : ∃ n, n <= 4 /\ ∀ σ : Sg, σ[0]? = some (some (.fl (ns.map .int))) -> gM (mOp xW (mC (.int 1)) (mOp xX (mC (.int a)) (mF1 cR (mV 0)))) σ [] = .ok (jZ 0 n) [] := by
 refine ⟨(if (if (ns.length : Int) < a then (ns.length : Int) else a) > 1 then (if (ns.length : Int) < a then (ns.length : Int) else a) else 1).toNat, ?_, fun σ h0 => ?_⟩
 ·split <;> (try split) <;> omega
 ·have m0 : mV 0 σ [] = .ok (.fl (ns.map .int)) [] := by rw [tJ, h0]
  refine (qK (n := (if (if (ns.length : Int) < a then (ns.length : Int) else a) > 1 then (if (ns.length : Int) < a then (ns.length : Int) else a) else 1).toNat) ?_ ?_)
  ·simp [m0]
   split <;> (try split) <;> omega
  ·split <;> (try split) <;> omega
end
end PV
end
section
namespace PV
open PySem PySem.Spec PyProof.Rows L2
theorem yO {α : Type} {f : α -> Q} {l : List α} : fW (l.map f) = l.zipIdx.map fun p => Q.tup [.int (p.2 : Nat), f p.1] := by
 unfold fW
 apply List.ext_getElem?
 intro i
 simp only [List.getElem?_mapIdx, List.getElem?_map, List.getElem?_zipIdx, Option.map_map]
 cases l[i]? <;> simp
theorem pB {α : Type} {l : List α} {p : α × Nat} (h : p ∈ l.zipIdx) : l[p.2]? = some p.1 := by
 obtain ⟨a, n⟩ := p
 exact List.mk_mem_zipIdx_iff_getElem?.mp h
@[simp] theorem aJ0 {α : Type} {a : α} {K : Rs α -> Nat -> Prop} {c : Nat} : Pm.ret a K c = K (.ok a) c := id rfl
theorem jO {α β : Type} {p : Pm α} {f : α -> Pm β} {K : Rs β -> Nat -> Prop} {c : Nat} : p.bind f K c = p (bK f K) c := rfl
@[simp] theorem nG {α β : Type} {f : α -> Pm β} {K : Rs β -> Nat -> Prop} {a : α} {c : Nat} : bK f K (.ok a) c = f a K c := id rfl
@[simp] theorem aMP {α β : Type} {f : α -> Pm β} {K : Rs β -> Nat -> Prop} {n : Nat} {fs : List (Str × Q)} {c : Nat} : bK f K (.exc n fs) c = K (.exc n fs) c := id rfl
section
variable {α β : Type} {un : Q -> Option α} {pt : α -> Pm Bool} {pe : α -> Pm Q}
theorem aAJ (f : β -> Q) (I : List Q -> Nat -> Prop) {K : Rs (List Q) -> Nat -> Prop} {N : Nat} (hN : N <= 16777216) : ∀ {xs : List β} {acc : List Q} {c : Nat}, acc.length + xs.length = N -> I acc c -> (∀ x ∈ xs, ∀ acc c, acc.length < N -> I acc c -> ∃ a, un (f x) = some a /\ pt a = .ret true /\ ∀ K' : Rs Q -> Nat -> Prop, (∀ y c', I (acc ++ [y]) c' -> K' (.ok y) c') -> pe a K' c) -> (∀ acc' c', acc'.length = N -> I acc' c' -> K (.ok acc') c') -> jT un (lcB pt pe) (xs.map f) acc K c
 | [], acc, c, hl, p, _, hk => hk acc c (by simpa using hl) p
 | x :: xs, acc, c, hl, p, h, hk => by
  simp only [List.length_cons] at hl
  obtain ⟨a, e1, e2, e3⟩ := h x (by simp) acc c (by omega) p
  have hz : acc.length < sizeLine := szl (by omega)
  simp only [List.map_cons, jT, e1, aP, aH, lcB, e2, pE, if_true, aI]
  show pe a (noK _) c
  refine e3 _ fun y c' p' => ?_
  show ((if acc.length < sizeLine then Pm.ret (acc ++ [y]) else Pm.bad).bind (jT un (lcB pt pe) (xs.map f))) K c'
  rw [if_pos hz]
  exact aAJ (xs := xs) f I hN (by simp; omega) p' (fun z hz => h z (by simp [hz])) hk
theorem aDV {xs : List β} {K : Rs Q -> Nat -> Prop} {c : Nat} (f : β -> Q) (I : List Q -> Nat -> Prop) (hl : xs.length <= 16777216) (p : I [] c) (h : ∀ x ∈ xs, ∀ acc c, acc.length < xs.length -> I acc c -> ∃ a, un (f x) = some a /\ pt a = .ret true /\ ∀ K' : Rs Q -> Nat -> Prop, (∀ y c', I (acc ++ [y]) c' -> K' (.ok y) c') -> pe a K' c) (hk : ∀ acc' c', acc'.length = xs.length -> I acc' c' -> K (.ok (.lst acc')) c') : lcP un pt pe (xs.map f) K c := by
 have hz : (xs.map f).length <= sizeLine := by rw [List.length_map]; exact sz hl
 simp only [lcP, hz, if_true]
 exact aAJ f I hl (by simp) p h fun acc' c' l p' => hk acc' c' l p'
end
@[simp] theorem aJG {t : Tr} : cS t.q (.ty "str") = some (.bl t.isLeaf) := by cases t <;> simp only [Tr.q] <;> rfl
@[simp] theorem aJH {t : Tr} : cS t.q (.ty "tuple") = some (.bl (!t.isLeaf)) := by cases t <;> simp only [Tr.q] <;> rfl
@[simp] theorem Tr.q_isNon {t : Tr} : t.q.isNon = false := by cases t <;> simp only [Tr.q] <;> rfl
end PV
end
section
namespace PV
open PySem PySem.Spec PyProof.Rows L2
theorem tM {n : Nat} {ts : List Tr} : (Tr.nd n ts).q = .tup (.int n :: Tr.qs ts) := by simp only [Tr.q]
theorem eM {t : Tr} : (Tr.grp t).q = .tup [.str "(", t.q] := by simp only [Tr.q]
mutual
theorem tW : ∀ (t : Tr) (n : Nat), t.depth + 1 < n -> aY n t.q = some t.py
 | .leaf s, n + 1, _ => rfl
 | .grp t, n + 1, hn => by
  simp only [Tr.depth] at hn
  obtain ⟨m, rfl⟩ : ∃ m, n = m + 1 := ⟨n - 1, by omega⟩
  simp only [Tr.q, Tr.py]
  show (aJ (aY (m + 1)) [.str "(", t.q]).map PyData.tuple = _
  rw [iW (f := aY (m + 1)) (y := .str "(") rfl (iW (f := aY (m + 1)) (tW t (m + 1) (by omega)) (aE6))]
  rfl
 | .nd k ts, n + 1, hn => by
  simp only [Tr.depth] at hn
  obtain ⟨m, rfl⟩ : ∃ m, n = m + 1 := ⟨n - 1, by omega⟩
  simp only [Tr.q, Tr.py]
  show (aJ (aY (m + 1)) (.int k :: Tr.qs ts)).map PyData.tuple = _
  rw [iW (f := aY (m + 1)) (y := .int k) rfl (toPQ_trs ts (m + 1) (by omega))]
  rfl
theorem toPQ_trs : ∀ (ts : List Tr) (n : Nat), Tr.depths ts + 1 < n -> aJ (aY n) (Tr.qs ts) = some (Tr.pys ts)
 | [], n, _ => rfl
 | t :: ts, n, hn => by
  simp only [Tr.depths] at hn
  simp only [Tr.qs, Tr.pys]
  exact iW (tW t n (by omega)) (toPQ_trs ts n (by omega))
end
theorem vG {x : Q} {d : PyData} {n l : Nat} (e : aY bJ x = some d) (p : PN n l d) (hn : n <= 64) (hl : l <= 16777216) : gC x = some (.str d.shown) := by
 have h1 : d.shown.length <= sizeLine := sz (Nat.le_trans p.ln hl)
 simp [gC, e, p.sh, h1, p.shaped hn]
theorem aFs {ops : List Opr} (O : OpsOk ops) (hol : ops.length <= 1000) {t : Tr} (ok : t.ok ops (fun s => s ∈ hV)) (hd : t.depth <= 60) (sm : t.sm) : gC t.q = some (.str t.py.shown) := by
 refine vG (tW t 66 (by omega)) (aAd O hol t 60 ok hd).pn (by omega) ?_
 unfold Tr.sm at sm
 omega
end PV
end
section
namespace PV
open PySem PySem.Spec PyProof.Rows L2 PySem.Builtin PySem.Builtin.Str
def cs (d : PyData) : List Nat := d.shown.cps.toList
def Tm (s : List Nat) : Prop := s = [] \/ ∃ c r, s = c :: r /\ (c = 44 \/ c = 41 \/ c = 93)
def kd : PyData -> Nat
 | .none => 0
 | .bool true => 1
 | .bool false => 2
 | .str _ => 3
 | .tuple _ => 4
 | .list _ => 5
 | .int _ => 6
 | .dict _ => 7
theorem Tm.int {s : List Nat} (h : Tm s) : ∀ x r, s = x :: r -> ¬ (x = 45 \/ (48 <= x /\ x <= 57)) := fun x r e => by
 rcases h with rfl | ⟨c, r', rfl, hc⟩
 ·cases e
 ·cases e; omega
mutual
theorem Tr.py_inj : ∀ {a b : Tr}, a.py = b.py -> a = b
 | .leaf s, .leaf s', h => by simp only [Tr.py, PyData.str.injEq] at h; rw [h]
 | .leaf s, .grp t, h => by simp [Tr.py] at h
 | .leaf s, .nd n ts, h => by simp [Tr.py] at h
 | .grp t, .leaf s, h => by simp [Tr.py] at h
 | .grp t, .grp t', h => by simp only [Tr.py, PyData.tuple.injEq, List.cons.injEq, and_true, true_and] at h; rw [Tr.py_inj h]
 | .grp t, .nd n ts, h => by simp [Tr.py] at h
 | .nd n ts, .leaf s, h => by simp [Tr.py] at h
 | .nd n ts, .grp t, h => by simp [Tr.py] at h
 | .nd n ts, .nd n' ts', h => by
  simp only [Tr.py, PyData.tuple.injEq, List.cons.injEq, PyData.int.injEq] at h
  rw [Tr.pys_inj h.2, Int.ofNat.inj h.1]
theorem Tr.pys_inj : ∀ {a b : List Tr}, Tr.pys a = Tr.pys b -> a = b
 | [], [], _ => rfl
 | [], _ :: _, h => by simp [Tr.pys] at h
 | _ :: _, [], h => by simp [Tr.pys] at h
 | t :: ts, t' :: ts', h => by
  simp only [Tr.pys, List.cons.injEq] at h
  rw [Tr.py_inj h.1, Tr.pys_inj h.2]
end
end PV
end
section
namespace PV
open PySem PySem.Spec PyProof.Rows L2
theorem aDM {κ : Type} [DecidableEq κ] {kvs : List (κ × Q)} {k j : κ} {w : Q} : bX (lD kvs k w) j = if j = k then some w else bX kvs j := by
 unfold bX lD
 by_cases hk : kvs.any (fun kv => decide (kv.1 = k)) = true
 ·rw [if_pos hk]
  induction kvs with
  | nil => simp at hk
  | cons p kvs ih =>
   simp only [List.map_cons, List.find?_cons]
   by_cases hp : p.1 = k
   ·simp only [hp, if_true]
    by_cases hj : j = k
    ·subst hj; simp
    ·have h1 : decide (k = j) = false := by simpa using fun z => hj z.symm
     simp only [h1, hj, if_false]
     clear ih hk
     induction kvs with
     | nil => rfl
     | cons q kvs ih2 =>
      simp only [List.map_cons, List.find?_cons]
      by_cases hq : q.1 = k
      ·simp only [hq, if_true, h1]; exact ih2
      ·simp only [hq, if_false]
       by_cases hqj : q.1 = j
       ·simp [hqj]
       ·simp only [hqj, decide_false]; exact ih2
   ·simp only [hp, if_false]
    by_cases hpj : p.1 = j
    ·have : ¬ j = k := fun z => hp (hpj.trans z)
     simp [hpj, this]
    ·simp only [hpj, decide_false]
     have hk' : kvs.any (fun kv => decide (kv.1 = k)) = true := by
      simp only [List.any_cons, hp, decide_false, Bool.false_or] at hk; exact hk
     exact ih hk'
 ·rw [if_neg hk, List.find?_append]
  by_cases hj : j = k
  ·subst hj
   have : kvs.find? (fun kv => decide (kv.1 = j)) = none := by
    rw [List.find?_eq_none]
    intro x hx
    simp only [List.any_eq_true, decide_eq_true_eq, not_exists, not_and] at hk
    simpa using hk x hx
   simp [this]
  ·have h1 : decide (k = j) = false := by simpa using fun z => hj z.symm
   simp [h1, hj]
theorem aDL {κ : Type} [DecidableEq κ] {j : κ} : bX ([] : List (κ × Q)) j = none := rfl
end PV
end
section
namespace PV
open PySem PySem.Spec PyProof.Rows L2
end PV
end
section
namespace PV
open PySem PySem.Spec PyProof.Rows L2
def RErr.le (N n : Nat) : RErr -> Prop
 | .missing p => p <= n
 | .unexp p => p <= n
 | .uncl p => p <= n
 | .entry p s o => p <= n /\ s <= N /\ o <= N
theorem RErr.le.mono {N n m : Nat} {e : RErr} (h : e.le N n) (hm : n <= m) : e.le N m := by
 cases e <;> simp only [RErr.le] at h ⊢ <;> omega
end PV
end
section
namespace PV
open PySem PySem.Spec PyProof.Rows L2
abbrev Pl := List Nat
mutual
/-- groups at the places that f tells -/
def bG : Tr -> (Pl -> Bool) -> Tr
 | .leaf s, f => if f [] = true then .grp (.leaf s) else .leaf s
 | .grp t, f => if f [] = true then .grp (.grp (bG t fun p => f (0 :: p))) else .grp (bG t fun p => f (0 :: p))
 | .nd n ts, f => if f [] = true then .grp (.nd n (withPs ts 0 f)) else .nd n (withPs ts 0 f)
def withPs : List Tr -> Nat -> (Pl -> Bool) -> List Tr
 | [], _, _ => []
 | t :: ts, i, f => bG t (fun p => f (i :: p)) :: withPs ts (i + 1) f
end
/-- a tree without the group that bG lays around it -/
def inP : Tr -> (Pl -> Bool) -> Tr
 | .leaf s, _ => .leaf s
 | .grp t, f => .grp (bG t fun p => f (0 :: p))
 | .nd n ts, f => .nd n (withPs ts 0 f)
theorem qZ {t : Tr} {f : Pl -> Bool} : bG t f = if f [] = true then .grp (inP t f) else inP t f := by
 cases t <;> simp only [bG, inP]
theorem lP : ∀ {ts : List Tr} {i : Nat} {f : Pl -> Bool}, (withPs ts i f).length = ts.length
 | [], _, _ => rfl
 | t :: ts, i, f => by simp only [withPs, List.length_cons, lP]
theorem rA : ∀ {ts : List Tr} {i j : Nat} {f : Pl -> Bool}, (withPs ts i f)[j]? = ts[j]?.map fun t => bG t fun p => f ((i + j) :: p)
 | [], _, _, _ => by simp [withPs]
 | t :: ts, i, 0, f => by simp [withPs]
 | t :: ts, i, j + 1, f => by
  simp only [withPs, List.getElem?_cons_succ, rA]
  rw [show i + 1 + j = i + (j + 1) by omega]
mutual
theorem vU {ops : List Opr} {p : Str -> Prop} : ∀ {t : Tr} {f : Pl -> Bool}, t.ok ops p -> (bG t f).ok ops p
 | .leaf s, f, h => by simp only [bG]; split <;> exact h
 | .grp t, f, h => by simp only [bG]; split <;> exact vU (t := t) h
 | .nd n ts, f, h => by
  obtain ⟨⟨o, eo, hl⟩, hs⟩ := h
  have h2 : (Tr.nd n (withPs ts 0 f)).ok ops p := ⟨⟨o, eo, by rw [lP]; exact hl⟩, withPs_ok hs⟩
  simp only [bG]; split <;> exact h2
theorem withPs_ok {ops : List Opr} {p : Str -> Prop} : ∀ {ts : List Tr} {i : Nat} {f : Pl -> Bool}, Tr.oks ops p ts -> Tr.oks ops p (withPs ts i f)
 | [], _, _, _ => trivial
 | t :: ts, i, f, h => ⟨vU (t := t) h.1, withPs_ok h.2⟩
end
mutual
theorem oV : ∀ {t : Tr} {f : Pl -> Bool}, (bG t f).depth <= 2 * t.depth + 1
 | .leaf s, f => by simp only [bG]; split <;> simp [Tr.depth]
 | .grp t, f => by have := oV (t := t) (f := fun p => f (0 :: p)); simp only [bG]; split <;> simp only [Tr.depth] <;> omega
 | .nd n ts, f => by have := withPs_depth (ts := ts) (i := 0) (f := f); simp only [bG]; split <;> simp only [Tr.depth] <;> omega
theorem withPs_depth : ∀ {ts : List Tr} {i : Nat} {f : Pl -> Bool}, Tr.depths (withPs ts i f) <= 2 * Tr.depths ts + 1
 | [], _, _ => by simp [withPs, Tr.depths]
 | t :: ts, i, f => by have := oV (t := t) (f := fun p => f (i :: p)); have := withPs_depth (ts := ts) (i := i + 1) (f := f); simp only [withPs, Tr.depths]; omega
end
mutual
theorem sR : ∀ {t : Tr} {f : Pl -> Bool}, (bG t f).nds = t.nds
 | .leaf s, f => by simp only [bG]; split <;> simp [Tr.nds]
 | .grp t, f => by have := sR (t := t) (f := fun p => f (0 :: p)); simp only [bG]; split <;> simp only [Tr.nds] <;> omega
 | .nd n ts, f => by have := withPs_nds (ts := ts) (i := 0) (f := f); simp only [bG]; split <;> simp only [Tr.nds] <;> omega
theorem withPs_nds : ∀ {ts : List Tr} {i : Nat} {f : Pl -> Bool}, Tr.ndss (withPs ts i f) = Tr.ndss ts
 | [], _, _ => rfl
 | t :: ts, i, f => by have := sR (t := t) (f := fun p => f (i :: p)); have := withPs_nds (ts := ts) (i := i + 1) (f := f); simp only [withPs, Tr.ndss]; omega
end
mutual
/-- nodes, groups and identifiers -/
def Tr.size : Tr -> Nat
 | .leaf _ => 1
 | .grp t => t.size + 1
 | .nd _ ts => Tr.sizes ts + 1
def Tr.sizes : List Tr -> Nat
 | [] => 0
 | t :: ts => t.size + Tr.sizes ts
end
mutual
theorem sQ : ∀ {t : Tr} {f : Pl -> Bool}, (bG t f).grs <= t.grs + t.size
 | .leaf s, f => by simp only [bG]; split <;> simp [Tr.grs, Tr.size]
 | .grp t, f => by have := sQ (t := t) (f := fun p => f (0 :: p)); simp only [bG]; split <;> simp only [Tr.grs, Tr.size] <;> omega
 | .nd n ts, f => by have := withPs_grs (ts := ts) (i := 0) (f := f); simp only [bG]; split <;> simp only [Tr.grs, Tr.size] <;> omega
theorem withPs_grs : ∀ {ts : List Tr} {i : Nat} {f : Pl -> Bool}, Tr.grss (withPs ts i f) <= Tr.grss ts + Tr.sizes ts
 | [], _, _ => by simp [withPs, Tr.grss]
 | t :: ts, i, f => by have := sQ (t := t) (f := fun p => f (i :: p)); have := withPs_grs (ts := ts) (i := i + 1) (f := f); simp only [withPs, Tr.grss, Tr.sizes]; omega
end
mutual
theorem yF {ops : List Opr} (O : OpsOk ops) {p : Str -> Prop} : ∀ {t : Tr}, t.ok ops p -> t.size <= 1 + 5 * t.nds + t.grs
 | .leaf s, _ => by simp only [Tr.size]; omega
 | .grp t, h => by have := yF O (t := t) h; simp only [Tr.size, Tr.nds, Tr.grs]; omega
 | .nd n ts, h => by
  obtain ⟨⟨o, eo, hl⟩, hs⟩ := h
  have h4 := gP (O.ok o (List.mem_of_getElem? eo))
  have := sizes_le O hs
  simp only [Tr.size, Tr.nds, Tr.grs]; omega
theorem sizes_le {ops : List Opr} (O : OpsOk ops) {p : Str -> Prop} : ∀ {ts : List Tr}, Tr.oks ops p ts -> Tr.sizes ts <= ts.length + 5 * Tr.ndss ts + Tr.grss ts
 | [], _ => by simp [Tr.sizes]
 | t :: ts, h => by have := yF O (t := t) h.1; have := sizes_le O h.2; simp only [Tr.sizes, Tr.ndss, Tr.grss, List.length_cons]; omega
end
section
variable {ops : List Opr} {side : Bool} {f : Pl -> Bool}
/-- no group on the way to a place, itself included -/
def free : (Pl -> Bool) -> Pl -> Bool
 | f, [] => !f []
 | f, c :: q => !f [] && free (fun p => f (c :: p)) q
end
end PV
end
section
namespace PV
open PySem PySem.Spec PyProof.Rows L2
def plN (p : Pl) : Q := .tup (p.map fun n : Nat => .int (n : Int))
def plK (p : Pl) : List Key := p.map fun n : Nat => (Sum.inl (n : Int) : Key)
theorem aCj {p q : Pl} : plK p = plK q ↔ p = q := by
 unfold plK
 exact List.map_inj_right (f := fun n : Nat => (Sum.inl (n : Int) : Key)) (fun a b h => by simp only [Sum.inl.injEq] at h; omega)
theorem aCh {p : Pl} : aJ vS (p.map fun n : Nat => Q.int (n : Int)) = some (plK p) :=
 gR (xs := p) (f := vS) (g := fun n : Nat => Q.int n) (k := fun n : Nat => (.inl (n : Int) : Key)) fun x _ => rfl
theorem aHZ {p : Pl} : kTQ (plN p) = some (plK p) := by simp only [kTQ, plN, aCh]
theorem aB0 {kvs : List (List Key × Q)} {p : Pl} : jG (.dT kvs) (plN p) = some (bX kvs (plK p)) := by
 simp only [jG, plN, aCh, Option.map_some]
theorem wP {kvs : List (List Key × Q)} {p : Pl} : qIn (plN p) (.dT kvs) = some (.bl (bX kvs (plK p)).isSome) := by
 simp only [qIn, gT, aB0, Option.map_some]
theorem aA1 {kvs : List (List Key × Q)} {p : Pl} : qNi (plN p) (.dT kvs) = some (.bl (!(bX kvs (plK p)).isSome)) := by
 simp only [qNi, gT, aB0, Option.map_some]
theorem lV {p : Pl} {n : Nat} (h : p.length <= 16777000) : cL (plN p) (.tup [.int (n : Nat)]) = some (plN (p ++ [n])) := by
 unfold plN
 rw [jK (by simp; omega)]; simp
/-- the dict that holds some keys -/
def vL {κ : Type} [DecidableEq κ] (ks : List κ) : List (κ × Q) := ks.foldl (fun acc k => lD acc k (.bl true)) []
theorem vM {κ : Type} [DecidableEq κ] {ks : List κ} {j : κ} : (bX (vL ks) j).isSome = decide (j ∈ ks) := by
 unfold vL
 have key : ∀ (ks : List κ) (acc : List (κ × Q)), (bX (ks.foldl (fun acc k => lD acc k (.bl true)) acc) j).isSome = (decide (j ∈ ks) || (bX acc j).isSome) := by
  intro ks
  induction ks with
  | nil => intro acc; simp
  | cons k ks ih =>
   intro acc
   rw [List.foldl_cons, ih, aDM]
   by_cases h : j = k
   ·subst h; simp
   ·simp [h]
 rw [key]; simp [aDL]
section
variable {κ α β : Type} [DecidableEq κ] {kq : Q -> Option κ} {mk : List (κ × Q) -> Q} {un : Q -> Option α} {pt : α -> Pm Bool} {pk pv : α -> Pm Q}
theorem aFV (f : β -> Q) (key : β -> κ) (val : β -> Q) : ∀ {xs : List β} {acc : List (κ × Q)}, acc.length + xs.length <= 16777216 -> (∀ x ∈ xs, ∃ a k, un (f x) = some a /\ pt a = .ret true /\ pk a = .ret k /\ kq k = some (key x) /\ pv a = .ret (val x)) -> jT un (dcB kq pt pk pv) (xs.map f) acc = .ret (xs.foldl (fun acc x => lD acc (key x) (val x)) acc)
 | [], acc, _, _ => rfl
 | x :: xs, acc, hl, h => by
  simp only [List.length_cons] at hl
  obtain ⟨a, k, e1, e2, e3, e4, e5⟩ := h x (by simp)
  have hz : acc.length < sizeLine := szl (by omega)
  have pl := aFp (kvs := acc) (k := key x) (q := val x)
  have ih := aFV f key val (xs := xs) (acc := lD acc (key x) (val x)) (by omega) fun y hy => h y (by simp [hy])
  simp only [List.map_cons, jT, e1, aP, aH, dcB, e2, pE, if_true, e3, e4, e5, aI, hz]
  rw [ih]; rfl
theorem aEQ {xs : List β} (f : β -> Q) (key : β -> κ) (val : β -> Q) (hl : xs.length <= 16777216) (h : ∀ x ∈ xs, ∃ a k, un (f x) = some a /\ pt a = .ret true /\ pk a = .ret k /\ kq k = some (key x) /\ pv a = .ret (val x)) : dcP kq mk un pt pk pv (xs.map f) = .ret (mk (xs.foldl (fun acc x => lD acc (key x) (val x)) [])) := by
 have hz : (xs.map f).length <= sizeLine := by rw [List.length_map]; exact sz hl
 simp only [dcP, hz, if_true]
 rw [aFV f key val (by simpa using hl) h]
 rfl
end
/-- {place: True for place in ps} -/
theorem rL {pt : Q -> Pm Bool} {pk pv : Q -> Pm Q} {ps : List Pl} (hl : ps.length <= 16777216) (h1 : ∀ a, pt a = .ret true) (h2 : ∀ a, pk a = .ret a) (h3 : ∀ a, pv a = .ret (.bl true)) : dcP kTQ Q.dT some pt pk pv (ps.map plN) = .ret (.dT (vL (ps.map plK))) := by
 rw [aEQ (xs := ps) plN plK (fun _ => .bl true) hl fun p _ => ⟨plN p, plN p, rfl, h1 _, h2 _, aHZ, h3 _⟩]
 unfold vL
 rw [List.foldl_map]
mutual
def aG : Tr -> List Pl
 | .leaf _ => [[]]
 | .grp t => [] :: (aG t).map (0 :: ·)
 | .nd _ ts => [] :: placesTs ts 0
def placesTs : List Tr -> Nat -> List Pl
 | [], _ => []
 | t :: ts, i => (aG t).map (i :: ·) ++ placesTs ts (i + 1)
end
mutual
theorem fH : ∀ {t : Tr}, (aG t).length = t.size
 | .leaf s => rfl
 | .grp t => by simp only [aG, List.length_cons, List.length_map, Tr.size, fH]
 | .nd n ts => by simp only [aG, List.length_cons, Tr.size, placesTs_len]
theorem placesTs_len : ∀ {ts : List Tr} {i : Nat}, (placesTs ts i).length = Tr.sizes ts
 | [], _ => rfl
 | t :: ts, i => by simp only [placesTs, List.length_append, List.length_map, Tr.sizes, fH, placesTs_len]
end
mutual
theorem iB : ∀ {t : Tr} {p : Pl}, p ∈ aG t -> p.length <= t.depth
 | .leaf s, p, h => by simp [aG] at h; subst h; simp
 | .grp t, p, h => by
  simp only [aG, List.mem_cons, List.mem_map] at h
  rcases h with rfl | ⟨q, hq, rfl⟩
  ·simp
  ·have := iB hq; simp only [Tr.depth, List.length_cons]; omega
 | .nd n ts, p, h => by
  simp only [aG, List.mem_cons] at h
  rcases h with rfl | h
  ·simp
  ·have := placesTs_depth h; simp only [Tr.depth]; omega
theorem placesTs_depth : ∀ {ts : List Tr} {i : Nat} {p : Pl}, p ∈ placesTs ts i -> p.length <= Tr.depths ts + 1
 | [], _, p, h => by simp [placesTs] at h
 | t :: ts, i, p, h => by
  simp only [placesTs, List.mem_append, List.mem_map] at h
  rcases h with ⟨q, hq, rfl⟩ | h
  ·have := iB hq; simp only [Tr.depths, List.length_cons]; omega
  ·have := placesTs_depth h; simp only [Tr.depths]; omega
end
end PV
end
section
namespace PV
open PySem PySem.Spec PyProof.Rows L2
mutual
def nbD : PyData -> Bool
 | .none => true
 | .bool _ => false
 | .int _ => true
 | .str _ => true
 | .tuple xs => nbDs xs
 | .list xs => nbDs xs
 | .dict _ => false
def nbDs : List PyData -> Bool
 | [] => true
 | x :: xs => nbD x && nbDs xs
end
mutual
theorem gW : ∀ {d e : PyData}, nbD d = true -> nbD e = true -> (PyData.eqv d e = true ↔ d = e)
 | .none, e, hd, he => by cases e <;> simp_all [PyData.eqv, nbD]
 | .int i, e, hd, he => by cases e <;> simp_all [PyData.eqv, nbD]
 | .str i, e, hd, he => by cases e <;> simp_all [PyData.eqv, nbD]
 | .tuple xs, .tuple ys, hd, he => by
  simp only [nbD] at hd he
  simp only [PyData.eqv, PyData.tuple.injEq]
  exact eqvs_iff hd he
 | .list xs, .list ys, hd, he => by
  simp only [nbD] at hd he
  simp only [PyData.eqv, PyData.list.injEq]
  exact eqvs_iff hd he
 | .tuple xs, .none, hd, he => by simp [PyData.eqv]
 | .tuple xs, .int _, hd, he => by simp [PyData.eqv]
 | .tuple xs, .str _, hd, he => by simp [PyData.eqv]
 | .tuple xs, .list _, hd, he => by simp [PyData.eqv]
 | .list xs, .none, hd, he => by simp [PyData.eqv]
 | .list xs, .int _, hd, he => by simp [PyData.eqv]
 | .list xs, .str _, hd, he => by simp [PyData.eqv]
 | .list xs, .tuple _, hd, he => by simp [PyData.eqv]
 | .bool _, _, hd, _ => by simp [nbD] at hd
 | .dict _, _, hd, _ => by simp [nbD] at hd
 | .tuple _, .bool _, _, he => by simp [nbD] at he
 | .tuple _, .dict _, _, he => by simp [nbD] at he
 | .list _, .bool _, _, he => by simp [nbD] at he
 | .list _, .dict _, _, he => by simp [nbD] at he
theorem eqvs_iff : ∀ {ds es : List PyData}, nbDs ds = true -> nbDs es = true -> (PyData.eqvAll ds es = true ↔ ds = es)
 | [], [], _, _ => by simp [PyData.eqvAll]
 | [], _ :: _, _, _ => by simp [PyData.eqvAll]
 | _ :: _, [], _, _ => by simp [PyData.eqvAll]
 | d :: ds, e :: es, hd, he => by
  simp only [nbDs, Bool.and_eq_true] at hd he
  simp only [PyData.eqvAll, Bool.and_eq_true, List.cons.injEq, gW hd.1 he.1, eqvs_iff hd.2 he.2]
end
theorem aGR {x y : Q} {d e : PyData} (hx : aY bJ x = some d) (hy : aY bJ y = some e) (sd : SeqAt.shaped d = true) (se : SeqAt.shaped e = true) (nd : nbD d = true) (ne : nbD e = true) (P : Prop) [Decidable P] (hP : d = e ↔ P) : qP x y = some (decide P) := by
 have h := gW nd ne
 have hb : PyData.eqv d e = decide P := by
  rw [Bool.eq_iff_iff, decide_eq_true_eq, h, hP]
 unfold qP
 split
 ·rename_i a b
  have e1 : some (PyData.str a) = some d := hx
  have e2 : some (PyData.str b) = some e := hy
  cases e1; cases e2
  have : decide (a = b) = decide P := by
   rw [Bool.eq_iff_iff, decide_eq_true_eq, decide_eq_true_eq, <- hP]
   exact ⟨fun z => by rw [z], fun z => by cases z; rfl⟩
  rw [this]
 ·rw [hx, hy]
  simp only [sd, se, Bool.and_self, if_true, hb]
def cG (p : Pl) : PyData := .tuple (p.map fun n : Nat => .int (n : Int))
theorem vD {p q : Pl} : cG p = cG q ↔ p = q := by
 simp only [cG, PyData.tuple.injEq]
 exact List.map_inj_right (f := fun n : Nat => PyData.int (n : Int)) (fun a b h => by simp only [PyData.int.injEq] at h; omega)
theorem kE {p : Pl} : aY (n + 2) (plN p) = some (cG p) := by
 show (aJ (aY (n + 1)) (p.map fun n : Nat => Q.int (n : Int))).map PyData.tuple = _
 rw [gR (xs := p) (f := aY (n + 1)) (g := fun n : Nat => Q.int (n : Int)) (k := fun n : Nat => PyData.int (n : Int)) fun x _ => rfl]
 rfl
theorem kK {p : Pl} : nbD (cG p) = true := by
 simp only [cG, nbD]
 induction p with
 | nil => rfl
 | cons c p ih => simp only [List.map_cons, nbDs, nbD, ih, Bool.and_self]
theorem kO {p : Pl} : (cG p).canLay0 = true /\ (cG p).depth <= 1 := by
 have h1 := dE (ds := p.map fun n : Nat => PyData.int (n : Int)) fun d hd => by
  obtain ⟨s, hs', rfl⟩ := List.mem_map.mp hd
  simp [PyData.canLay0]
 have h2 := eK (ds := p.map fun n : Nat => PyData.int (n : Int)) (n := 0) fun d hd => by
  obtain ⟨s, hs', rfl⟩ := List.mem_map.mp hd
  simp [PyData.depth]
 refine ⟨by simp only [cG, PyData.canLay0, h1], by simp only [cG, PyData.depth]; omega⟩
theorem nY {p : Pl} : SeqAt.shaped (cG p) = true := by
 have := kO (p := p)
 simp [SeqAt.shaped, this.1]; omega
theorem aCk {p q : Pl} : qP (plN p) (plN q) = some (decide (p = q)) := aGR kE kE nY nY kK kK _ vD
@[simp] theorem aNf {p q : Pl} : qEq (plN p) (plN q) = some (.bl (decide (p = q))) := by simp [qEq, aCk]
@[simp] theorem aNr {p q : Pl} : qNe (plN p) (plN q) = some (.bl (!decide (p = q))) := by simp [qNe, aCk]
mutual
theorem aAf : ∀ {t : Tr}, nbD t.py = true
 | .leaf s => by simp only [Tr.py, nbD]
 | .grp t => by simp only [Tr.py, nbD, nbDs, aAf (t := t), Bool.and_self]
 | .nd n ts => by simp only [Tr.py, nbD, nbDs, trs_nb (ts := ts), Bool.and_self]
theorem trs_nb : ∀ {ts : List Tr}, nbDs (Tr.pys ts) = true
 | [] => rfl
 | t :: ts => by simp only [Tr.pys, nbDs, aAf (t := t), trs_nb (ts := ts), Bool.and_self]
end
theorem Tr.py_iff {a b : Tr} : a.py = b.py ↔ a = b := ⟨Tr.py_inj, fun h => by rw [h]⟩
instance : DecidableEq Tr := fun a b => decidable_of_iff (PyData.eqv a.py b.py = true) ((gW aAf aAf).trans Tr.py_iff)
@[simp] theorem aNe {a b : Bool} : qEq (.bl a) (.bl b) = some (.bl (decide (a = b))) := by cases a <;> cases b <;> rfl
@[simp] theorem aNq {a b : Bool} : qNe (.bl a) (.bl b) = some (.bl (!decide (a = b))) := by cases a <;> cases b <;> rfl
end PV
end
section
namespace PV
open PySem PySem.Spec PyProof.Rows L2
end PV
end
section
namespace PV
open PySem PySem.Spec PyProof.Rows L2
theorem aFQ {ps : List Pl} : aY bJ (.lst (ps.map plN)) = some (.list (ps.map cG)) := by
 show (aJ (aY 65) (ps.map plN)).map PyData.list = _
 rw [gR (xs := ps) (f := aY 65) (g := plN) (k := cG) fun x _ => kE]
 rfl
theorem aDe {ps : List Pl} : SeqAt.shaped (.list (ps.map cG)) = true := by
 have h1 := dE (ds := ps.map cG) fun d hd => by
  obtain ⟨s, hs', rfl⟩ := List.mem_map.mp hd
  exact kO.1
 have h2 := eK (ds := ps.map cG) (n := 1) fun d hd => by
  obtain ⟨s, hs', rfl⟩ := List.mem_map.mp hd
  exact kO.2
 simp [SeqAt.shaped, PyData.canLay0, PyData.depth, h1]
 omega
theorem aGT {p : Pl} {ps : List Pl} : qIn (plN p) (.lst (ps.map plN)) = some (.bl (decide (p ∈ ps))) := by
 have e1 : aY bJ (plN p) = some (cG p) := kE
 have e2 : aY bJ (.lst (ps.map plN)) = some (.list (ps.map cG)) := aFQ
 have e3 : ((ps.map cG).any fun z => PyData.eqv z (cG p)) = decide (p ∈ ps) := by
  rw [Bool.eq_iff_iff]
  simp only [List.any_map, List.any_eq_true, Function.comp_apply, decide_eq_true_eq]
  constructor
  ·rintro ⟨x, hx, e⟩
   rw [gW kK kK, vD] at e
   exact e ▸ hx
  ·intro h
   exact ⟨p, h, (gW kK kK).mpr rfl⟩
 have e4 : gT (plN p) (.lst (ps.map plN)) = some (decide (p ∈ ps)) := by
  simp only [gT, e1, e2, nY, aDe, Bool.and_self, if_true, e3]
 simp [qIn, e4]
end PV
end
section
namespace PV
open PySem PySem.Spec PyProof.Rows L2
mutual
/-- no list, dict, instance in it -/
def tQ : Q -> Bool
 | .non => true
 | .bl _ => true
 | .int _ => true
 | .str _ => true
 | .tup qs => pureQs qs
 | _ => false
def pureQs : List Q -> Bool
 | [] => true
 | q :: qs => tQ q && pureQs qs
end
/-- no exception, and a pure result -/
def wO (p : Pm Q) : Pm Q := p.noX.bind fun q => if tQ q = true then .ret q else .bad
section
variable {B : Bs} {F : Nat -> Prop} {O : Nat -> Option Nat} {h : Hh} {Γ : List Sl} {σ : Sg} {q : Q} {i a : Nat} {c : Nat}
theorem En.frz (en : En B F O h Γ σ) (e : Γ[i]? = some (.ow q)) (o1 : O i = some a) (o2 : σ[i]? = some (some (.ref a))) (t : Top F B.sa h a q) : En B (Fx F a) (fun j => if j = i then none else O j) h (Γ.set i (.fz q)) σ := by
 refine ⟨by simp [en.len], fun j q' ej => ?_, fun j q' ej => ?_, fun j b ej => ?_, fun j j' b e1 e2 => ?_, fun j w' ej => by
  by_cases hj : i = j
  ·subst hj; rw [List.getElem?_set_self (aE e)] at ej; cases ej
  ·rw [List.getElem?_set_ne hj] at ej; exact en.eqd j w' ej⟩
 ·by_cases hj : i = j
  ·subst hj
   rw [List.getElem?_set_self (aE e)] at ej; cases ej
   exact ⟨_, o2, rfl, (t.mono uT rfl).rep (.inr rfl)⟩
  ·rw [List.getElem?_set_ne hj] at ej
   obtain ⟨w, e1, e2, r⟩ := en.fz j q' ej
   exact ⟨w, e1, e2, r.mono uT⟩
 ·by_cases hj : i = j
  ·subst hj
   rw [List.getElem?_set_self (aE e)] at ej; cases ej
  ·rw [List.getElem?_set_ne hj] at ej
   obtain ⟨b, e1, e2, r⟩ := en.ow j q' ej
   have : j ≠ i := fun z => hj z.symm
   exact ⟨b, by simp only [this, if_false]; exact e1, e2, r.mono uT rfl⟩
 ·split at ej
  ·cases ej
  ·rename_i hj
   obtain ⟨z1, z2, z3⟩ := en.oh j b ej
   refine ⟨z1, fun z => ?_, z3⟩
   rcases z with z | rfl
   ·exact z2 z
   ·exact hj (en.inj j i b ej o1)
 ·split at e1
  ·cases e1
  ·split at e2
   ·cases e2
   ·exact en.inj j j' b e1 e2
end
variable {Γ : List Sl} {m : M D} {p : Pm Q} {q : Q}
@[simp] theorem sB (hq : tQ q = true) : wO (.ret q) = .ret q := by
 simp only [wO, pE, aH, hq, if_true]
mutual
theorem xY : ∀ {t : Tr}, tQ t.q = true
 | .leaf s => rfl
 | .grp t => by
  have := xY (t := t)
  simp only [Tr.q, tQ, pureQs, this, Bool.and_self]
 | .nd n ts => by
  have := pure_trs (ts := ts)
  simp only [Tr.q, tQ, pureQs, this, Bool.and_self]
theorem pure_trs : ∀ {ts : List Tr}, pureQs (Tr.qs ts) = true
 | [] => rfl
 | t :: ts => by
  have h1 := xY (t := t)
  have h2 := pure_trs (ts := ts)
  simp only [Tr.qs, pureQs, h1, h2, Bool.and_self]
end
@[simp] theorem aLD {t : Tr} : wO (.ret t.q) = .ret t.q := sB xY
@[simp] theorem aLC {b : Bool} : wO (.ret (.bl b)) = .ret (.bl b) := sB (id rfl)
@[simp] theorem aKQ {b : Str} : wO (.ret (.str b)) = .ret (.str b) := sB (id rfl)
end PV
end
section
namespace PV
open PySem PySem.Spec PyProof.Rows L2
end PV
end
section
namespace PV
open PySem PySem.Spec PyProof.Rows L2
end PV
end
section
namespace PV
open PySem PySem.Spec PyProof.Rows L2
def aLF : Q -> Q -> Option Q
 | .tup qs, .tup [] => some (.bl qs.isEmpty)
 | _, _ => none
@[simp] theorem aLG {qs : List Q} : aLF (.tup qs) (.tup []) = some (.bl qs.isEmpty) := id rfl
end PV
end
section
namespace PV
open PySem PySem.Spec PyProof.Rows L2
theorem aAN : ∀ {ds : List PyData}, (∀ d ∈ ds, nbD d = true) -> nbDs ds = true
 | [], _ => rfl
 | d :: ds, h => by
  simp only [nbDs, Bool.and_eq_true]
  exact ⟨h d (by simp), aAN fun e he => h e (by simp [he])⟩
theorem aD3 {o : Opr} : nbD o.py = true := by
 simp only [Opr.py, nbD, nbDs, Bool.true_and, Bool.and_true]
 exact aAN fun d hd => by
  obtain ⟨x, _, rfl⟩ := List.mem_map.mp hd
  rfl
theorem Opr.py_inj {a b : Opr} (h : a.py = b.py) : a = b := by
 obtain ⟨k1, w1⟩ := a
 obtain ⟨k2, w2⟩ := b
 simp only [Opr.py, PyData.tuple.injEq, List.cons.injEq, PyData.str.injEq, and_true] at h
 obtain ⟨rfl, h⟩ := h
 rw [List.map_inj_right (f := PyData.str) (fun a b h => by cases h; rfl)] at h
 rw [h]
instance : DecidableEq Opr := fun a b => decidable_of_iff (PyData.eqv a.py b.py = true) ((gW aD3 aD3).trans ⟨Opr.py_inj, fun h => by rw [h]⟩)
def Ent.py (x : Ent) : PyData := .tuple [.int x.s, .int x.o, .str x.e]
theorem Ent.py_inj {a b : Ent} (h : a.py = b.py) : a = b := by
 obtain ⟨s1, o1, e1⟩ := a
 obtain ⟨s2, o2, e2⟩ := b
 simp only [Ent.py, PyData.tuple.injEq, List.cons.injEq, PyData.int.injEq, PyData.str.injEq, and_true] at h
 obtain ⟨h1, h2, h3⟩ := h
 rw [h1, h2, h3]
instance : DecidableEq Ent := fun a b => decidable_of_iff (PyData.eqv a.py b.py = true) ((gW rfl rfl).trans ⟨Ent.py_inj, fun h => by rw [h]⟩)
theorem aIf {b : Nat} {p : Pl} (hl : p.length <= b) (h : ∀ c ∈ p, c < 1000000) : PN 1 (b * 14 + 3) (cG p) :=
 (aFm (n := 0) (l := 12) fun d hd => by
  obtain ⟨c, hc, rfl⟩ := List.mem_map.mp hd
  exact aD6 (by have := h c hc; omega)).mono (by omega) (by simp only [List.length_map]; omega)
def aJj (l : List Pl) : PyData := .tuple (l.map cG)
theorem aEC {n : Nat} {l : List Pl} : aY (n + 3) (.tup (l.map plN)) = some (aJj l) := by
 show (aJ (aY (n + 2)) (l.map plN)).map PyData.tuple = _
 rw [gR (k := cG) fun x _ => kE]; rfl
/-- places that are not long -/
def SmP (b : Nat) (p : Pl) : Prop := p.length <= b /\ ∀ c ∈ p, c < 1000000
/-- a list of a few alike values -/
theorem aEg {x : Q} {d : PyData} {n l m : Nat} (e : aY 65 x = some d) (p : PN n l d) (hn : n <= 60) (hl : m * (l + 2) + 3 <= 16777216) : ∃ s, gC (.lst (List.replicate m x)) = some (.str s) := by
 have t : aY bJ (.lst (List.replicate m x)) = some (.list (List.replicate m d)) := by
  show (aJ (aY 65) (List.replicate m x)).map PyData.list = _
  have key : ∀ m, aJ (aY 65) (List.replicate m x) = some (List.replicate m d) := by
   intro m
   induction m with
   | zero => rfl
   | succ m ih => simp only [List.replicate_succ, aJ, e, ih]
  rw [key]; rfl
 refine ⟨_, vG t (aGO (n := n) (l := l) fun y hy => ?_) (by omega) (by simpa using hl)⟩
 rw [List.eq_of_mem_replicate hy]; exact p
end PV
end
section
namespace PV
open PySem PySem.Spec PyProof.Rows L2
def Lt4 (p : Pl) : Prop := ∀ c ∈ p, c < 4
theorem xV : Lt4 [] := fun c h => by cases h
theorem aAM {c : Nat} {p : Pl} (h : c < 4) (hp : Lt4 p) : Lt4 (c :: p) := fun x hx => by
 rcases List.mem_cons.mp hx with rfl | hx
 ·exact h
 ·exact hp x hx
theorem Lt4.sm {p : Pl} {b : Nat} (h : Lt4 p) (hl : p.length <= b) : SmP b p := ⟨hl, fun c hc => by have := h c hc; omega⟩
section
variable {ops : List Opr} {bS bR : Nat -> Nat -> Bool} {pr : Str -> Prop}
mutual
theorem nQ (O : OpsOk ops) : ∀ {t : Tr} {p : Pl}, t.ok ops pr -> p ∈ aG t -> Lt4 p
 | .leaf s, p, _, h => by simp [aG] at h; subst h; exact xV
 | .grp t, p, ok, h => by
  simp only [aG, List.mem_cons, List.mem_map] at h
  rcases h with rfl | ⟨q, hq, rfl⟩
  ·exact xV
  ·exact aAM (by omega) (nQ O (t := t) ok hq)
 | .nd n ts, p, ok, h => by
  obtain ⟨⟨o, eo, hl⟩, hs⟩ := ok
  have h4 := gP (O.ok o (List.mem_of_getElem? eo))
  simp only [aG, List.mem_cons] at h
  rcases h with rfl | h
  ·exact xV
  ·exact places_lt4 O hs (by omega) h
theorem places_lt4 (O : OpsOk ops) : ∀ {ts : List Tr} {i : Nat} {p : Pl}, Tr.oks ops pr ts -> i + ts.length <= 4 -> p ∈ placesTs ts i -> Lt4 p
 | [], _, p, _, _, h => by simp [placesTs] at h
 | t :: ts, i, p, ok, hi, h => by
  simp only [List.length_cons] at hi
  simp only [placesTs, List.mem_append, List.mem_map] at h
  rcases h with ⟨q, hq, rfl⟩ | h
  ·exact aAM (by omega) (nQ O ok.1 hq)
  ·exact places_lt4 O ok.2 (by omega) h
end
end
end PV
end
section
namespace PV
open PySem PySem.Spec PyProof.Rows L2
end PV
end
section
namespace PV
open PySem PySem.Spec PyProof.Rows L2
end PV
end
section
namespace PV
open PySem PySem.Spec PyProof.Rows L2
end PV
end
section
namespace PV
open PySem PySem.Spec PyProof.Rows L2
theorem Reps.rev {F : Nat -> Prop} {sa : Nat} {h : Hh} : ∀ {qs : List Q} {ws : List D}, Reps F sa h qs ws -> Reps F sa h qs.reverse ws.reverse
 | [], ws, r => by
  simp only [Reps] at r
  subst r
  simp [Reps]
 | q :: qs, _, r => by
  simp only [Reps] at r
  obtain ⟨w, r, rfl, h1, h2, z⟩ := r
  rw [List.reverse_cons, List.reverse_cons]
  exact z.rev.app (Reps.one h2 h1)
def aA2 : Q -> Option Q
 | .lst qs => some (.lst qs.reverse)
 | .tup qs => some (.tup qs.reverse)
 | .kt qs => some (.tup qs.reverse)
 | _ => none
theorem aKb : mK sE aA2 := by
 intro F sa h x u q rx e
 unfold aA2 at e
 split at e
 ·cases e
  obtain ⟨ws, a1, a2, a3, a4, r1⟩ := fS rx
  refine ⟨.tl ws.reverse, by simp only [sE, a1], ?_⟩
  simp only [Rep]
  exact ⟨_, .inl rfl, r1.rev⟩
 ·cases e
  obtain ⟨ws, rfl, r1⟩ := cC rx
  exact ⟨_, by simp only [sE, asL, asT], cZ r1.rev⟩
 ·cases e
  obtain ⟨ws, rfl, r1⟩ := kL rx
  exact ⟨_, by simp only [sE, asL, asT], cZ r1.rev⟩
 ·cases e
end PV
end
section
namespace PV
open PySem PySem.Spec PyProof.Rows L2
mutual
/-- nodes right below a node (b: the tree itself is so) -/
def Tr.fr : Bool -> Tr -> Nat
 | _, .leaf _ => 0
 | _, .grp t => Tr.fr false t
 | b, .nd _ ts => (if b = true then 1 else 0) + Tr.frs ts
def Tr.frs : List Tr -> Nat
 | [] => 0
 | t :: ts => Tr.fr true t + Tr.frs ts
end
end PV
end
section
namespace PV
open PySem PySem.Spec PyProof.Rows L2
end PV
end
section
namespace PV
open PySem PySem.Spec PyProof.Rows L2
def wQ : Q -> Q -> Option Q
 | .tup qs, .int k => if 2 <= k /\ k <= 1000 /\ 0 < qs.length /\ qs.length <= 1000 then some (.tup (List.replicate k.toNat qs).flatten) else none
 | _, _ => none
theorem aIw : mL tL wQ := by
 intro F sa h x y u v q rx ry e
 unfold wQ at e
 split at e
 ·split at e
  ·rename_i hl
   cases e; cases cO ry
   obtain ⟨ws, rfl, r1⟩ := cC rx
   rw [<- r1.len] at hl
   exact ⟨_, by simp only [tL, asT, hl, and_self, if_true], cZ (aFy r1)⟩
  ·cases e
 ·cases e
end PV
end
section
namespace PV
open PySem PySem.Spec PyProof.Rows L2
end PV
end
section
namespace PV
open PySem PySem.Spec PyProof.Rows L2
end PV
end
section
namespace PV
open PySem PySem.Spec PyProof.Rows L2
end PV
end
section
namespace LW
open PV PySem PySem.Spec PyProof.Rows L2
abbrev iT : Nat := 0
abbrev gX : Nat := 1
abbrev jS : Nat := 2
abbrev cB : Nat := 3
abbrev bD : Nat := 4
abbrev jH : Nat := 5
abbrev aZ : Nat := 6
abbrev bA : Nat := 7
abbrev oN : Nat := 8
abbrev fO : Nat := 9
abbrev bZ : Nat := 10
abbrev iU : Nat := 11
abbrev hU : Nat := 12
abbrev eO : Nat := 13
abbrev fC : Nat := 14
abbrev bP : Nat := 15
abbrev bU : Nat := 16
abbrev bL : Nat := 17
abbrev fD : Nat := 18
abbrev wC : Nat := 19
def iV (cl : Cll) : MS :=
 (bF (mOp qC (mV 0) (mC (.ty "str"))))
def aDx (cl : Cll) : MS :=
 (fR (mM1 (on1 "list" jQ) (mV 2) (aK cl gX (aA [(mV 4), (mOp bM (mV 1) (bE (aA [(mV 3)])))]))))
def lT (cl : Cll) : MS :=
 (aM (aS (.nm 2) (dW (aA [(mV 1)])))
  (aM (fE (kH (mB (aK cl iT (aA [(mV 0)])))) (fJ (qJ (mSl (mV 0) (some (mC (.int 1))) none)) (.tu [(.nm 3), (.nm 4)]) (aDx cl)) dF)
  (bF (mV 2))))
def jU (cl : Cll) : MS :=
 (bF (mF1 cK (aK cl gX (aA [(mV 0), (bE (aA []))]))))
def fP (cl : Cll) : MS :=
 (aM (fE (mB (mOp qC (mV 0) (mC (.ty "tuple")))) (aM (aS (.nm 3) (mLc (qJ (mSl (mV 0) (some (mC (.int 1))) none)) (.tu [(.nm 4), (.nm 5)]) (fun _ h => .ok true h) (aK cl cB (aA [(mV 5), (mOp bM (mV 1) (bE (aA [(mV 4)]))), (mV 2)])) [4, 5]))
  (aS (.nm 0) (mOp bM (bE (aA [(mOp ixW (mV 0) (mC (.int 0)))])) (mF1 cK (mV 3))))) dF)
  (bF (mIf (mB (mOp inW (mV 1) (mV 2))) (bE (aA [(mC (.str "(")), (mV 0)])) (mV 0))))
def vV (cl : Cll) : MS :=
 (fE (mB (mOp niW (mV 3) (mV 2))) (pC 101 ["place"] (aA [(mV 3)])) dF)
def eJ (cl : Cll) : MS :=
 (aM (aS (.nm 2) (mDc kT (miE (aK cl jS (aA [(mV 0)]))) (.nm 3) (fun _ h => .ok true h) (mV 3) (mC (.bl true)) [3]))
  (aM (fJ (miE (mV 1)) (.nm 3) (vV cl))
  (bF (aK cl cB (aA [(mV 0), (bE (aA [])), (mDc kT (miE (mV 1)) (.nm 3) (fun _ h => .ok true h) (mV 3) (mC (.bl true)) [3])])))))
def gQ (cl : Cll) : MS :=
 (aM (aS (.nm 2) (mIf (mB (mOp ltW (mV 1) (mF1 cR (mV 0)))) (mOp ixW (mV 0) (mV 1)) (mC (.int 0))))
  (aM (aS (.nm 3) (mIf (mB (mOp geW (mF1 uK (mV 2)) (mOp qN (mC (.int 10)) (mC (.int 18))))) (mOp jV (mF1 uK (mV 2)) (mOp qN (mOp qN (mC (.int 10)) (mC (.int 60))) (mC (.int 4)))) (mC (.int 0))))
  (bF (dW (aA [(mV 3), (mOp jV (mOp bM (mOp bM (mOp lC (mOp jV (mV 2) (mC (.int 2305843009213693951))) (mC (.int 1000003))) (mOp lC (mOp lC (mC (.int 7919)) (mV 1)) (mV 1))) (mC (.int 97))) (mC (.int 2305843009213693921))), (mC (.int 0))])))))
def fY (cl : Cll) : MS :=
 (aM (fE (mB (mOp gtW (mOp ixW (mV 0) (mC (.int 0))) (mC (.int 0)))) (aM (aS (.nm 2) (mOp jV (mOp ixW (mV 0) (mC (.int 0))) (mV 1)))
  (aM (kI (mOp tB (mOp ixW (mV 0) (mC (.int 0))) (mV 1)) (mV 0) (mC (.int 0)))
  (bF (mV 2)))) dF)
  (aM (kI (mOp bM (mOp ixW (mV 0) (mC (.int 2))) (mC (.int 1))) (mV 0) (mC (.int 2)))
  (aM (aS (.nm 3) (mOp bM (mOp ixW (mV 0) (mC (.int 1))) (mOp lC (mC (.int 15485863)) (mOp ixW (mV 0) (mC (.int 2))))))
  (aM (aS (.nm 4) (mOp bM (mOp bM (mOp jV (mOp ixW (mV 0) (mC (.int 1))) (mC (.int 7919))) (mOp lC (mC (.int 32452867)) (mOp ixW (mV 0) (mC (.int 2))))) (mC (.int 29))))
  (aM (aS (.nm 5) (mOp jV (mOp lC (mV 3) (mV 4)) (mC (.int 2305843009213693951))))
  (aM (aS (.nm 6) (mOp bM (mOp bM (mOp jV (mV 5) (mC (.int 1000003))) (mOp lC (mC (.int 6700417)) (mOp ixW (mV 0) (mC (.int 2))))) (mC (.int 5))))
  (bF (mOp jV (mOp tB (mOp jV (mOp lC (mOp bM (mV 5) (mC (.int 23))) (mV 6)) (mC (.int 2305843009213693907))) (mC (.int 64))) (mV 1)))))))))
def eQ (cl : Cll) : MS :=
 (bF (mOp ixW (mV 1) (aK cl aZ (aA [(mV 0), (mF1 cR (mV 1))]))))
def hX (cl : Cll) : MS :=
 (bF (mF1 cK (mLc (gM (mV 1)) (.nm 3) (fun _ h => .ok true h) (mM1 (on1 "list" kP) (mV 2) (aK cl aZ (aA [(mV 0), (mF1 cR (mV 2))]))) [3])))
def cH (cl : Cll) : MS :=
 (aM (aS (.nm 4) (aK cl bA (aA [(mV 0), (dW (aA [(mC (.str "infix")), (mC (.str "infix")), (mC (.str "infix")), (mC (.str "prefix")), (mC (.str "prefix")), (mC (.str "postfix")), (mC (.str "closed"))]))])))
  (aM (aS (.nm 5) (mIf (mB (mOp eqW (mV 4) (mC (.str "closed")))) (aK cl bA (aA [(mV 0), (dW (aA [(mC (.int 2)), (mC (.int 2)), (mC (.int 3))]))])) (aK cl bA (aA [(mV 0), (dW (aA [(mC (.int 1)), (mC (.int 1)), (mC (.int 1)), (mC (.int 1)), (mC (.int 2)), (mC (.int 3))]))]))))
  (aM (aS (.tu [(.nm 6), (.nm 7)]) (bE (aA [(aK cl oN (aA [(mV 0), (mV 5), (mV 1)])), (mIf (mB (mOp inW (mV 4) (bE (aA [(mC (.str "prefix")), (mC (.str "closed"))])))) (mV 3) (mV 2))])))
  (aM (fE (nM (mB (mOp neW (mV 7) (dW (aA [])))) (mB (mOp eqW (aK cl aZ (aA [(mV 0), (mC (.int 4))])) (mC (.int 0))))) (aS (.nm 6) (mOp bM (bE (aA [(mM1 (on1 "list" kP) (mV 7) (aK cl aZ (aA [(mV 0), (mF1 cR (mV 7))])))])) (mSl (mV 6) (some (mC (.int 1))) none))) (fE (mB (mOp inW (mV 4) (bE (aA [(mC (.str "prefix")), (mC (.str "closed"))])))) (fR (mM1 (on1 "list" gG) (mV 2) (mOp ixW (mV 6) (mC (.int 0))))) (fR (mM1 (on1 "list" gG) (mV 3) (mOp ixW (mV 6) (mC (.int 0)))))))
  (bF (bE (aA [(mV 4), (mV 6)])))))))
def eP (cl : Cll) : MS :=
 (aM (aS (.nm 2) (mOp bM (mF1 wG (mC (.str "!\u0023$&*+,-./:;<=>?\u0040[]^_{|}~"))) (dW (aA [(mC (.str "if")), (mC (.str "then")), (mC (.str "else")), (mC (.str "and")), (mC (.str "or")), (mC (.str "not")), (mC (.str "is")), (mC (.str "z9"))]))))
  (aM (aS (.nm 2) (mOp bM (mV 2) (dW (aA [(mC (.str "--")), (mC (.str "**")), (mC (.str "lengthy8")), (mC (.str "of")), (mC (.str "in")), (mC (.str "to")), (mC (.str "by")), (mC (.str "=>")), (mC (.str "((")), (mC (.str "f(")), (mC (.str ")x"))]))))
  (aM (aS (.tu [(.nm 3), (.nm 4)]) (bE (aA [(dW (aA [])), (dW (aA []))])))
  (bF (mF1 cK (mLc (gM (aK cl aZ (aA [(mV 0), (mOp bM (mV 1) (mC (.int 1)))]))) (.nm 5) (fun _ h => .ok true h) (aK cl fO (aA [(mV 0), (mV 2), (mV 3), (mV 4)])) [5]))))))
def fT (cl : Cll) : MS :=
 (bF (bE (aA [(mOp inW (mOp ixW (mV 0) (mC (.int 0))) (bE (aA [(mC (.str "infix")), (mC (.str "postfix"))]))), (mOp inW (mOp ixW (mV 0) (mC (.int 0))) (bE (aA [(mC (.str "infix")), (mC (.str "prefix"))])))])))
def dJ (cl : Cll) : MS :=
 (bF (mOp bM (mOp kB (mF1 cR (mOp ixW (mV 0) (mC (.int 1)))) (mC (.int 1))) (mF1 sK (mLc (miE (aK cl iU (aA [(mV 0)]))) (.nm 1) (fun _ h => .ok true h) (mF1 qB (mV 1)) [1]))))
def jJ (cl : Cll) : MS :=
 (bF (aK cl fC (aA [(mV 0), (mV 1), (dW (aA [(mV 2), (mV 3)])), (mC (.int 12))])))
def iA (cl : Cll) : MS :=
 (fR (mM1 (on1 "list" gG) (mV 5) (aK cl fC (aA [(mV 0), (mV 1), (mV 2), (mOp kB (mV 3) (mC (.int 1)))]))))
def gI (cl : Cll) : MS :=
 (aM (fE (nM (mB (mOp gtW (mOp ixW (mV 2) (mC (.int 1))) (mC (.int 0)))) (nM (mB (mOp gtW (mV 3) (mC (.int 0)))) (mB (mOp eqW (aK cl aZ (aA [(mV 0), (mC (.int 6))])) (mC (.int 0)))))) (aM (kI (mOp kB (mOp ixW (mV 2) (mC (.int 1))) (mC (.int 1))) (mV 2) (mC (.int 1)))
  (bF (bE (aA [(mC (.str "(")), (aK cl fC (aA [(mV 0), (mV 1), (mV 2), (mOp kB (mV 3) (mC (.int 1)))]))])))) dF)
  (aM (fE (lA (mB (mOp eqW (mV 1) (bE (aA [])))) (lA (mB (mOp leW (mOp ixW (mV 2) (mC (.int 0))) (mC (.int 0)))) (lA (mB (mOp eqW (mV 3) (mC (.int 0)))) (mB (mOp eqW (aK cl aZ (aA [(mV 0), (mC (.int 4))])) (mC (.int 0))))))) (bF (aK cl bA (aA [(mV 0), (dW (aA [(mC (.str "a")), (mC (.str "b")), (mC (.str "x1")), (mC (.str "7")), (mC (.str "abcdefgh"))]))]))) dF)
  (aM (kI (mOp kB (mOp ixW (mV 2) (mC (.int 0))) (mC (.int 1))) (mV 2) (mC (.int 0)))
  (aM (aS (.tu [(.nm 4), (.nm 5)]) (bE (aA [(aK cl aZ (aA [(mV 0), (mF1 cR (mV 1))])), (dW (aA []))])))
  (aM (fJ (gM (aK cl hU (aA [(mOp ixW (mV 1) (mV 4))]))) (.nm 6) (iA cl))
  (bF (mOp bM (bE (aA [(mV 4)])) (mF1 cK (mV 5)))))))))
def eI (cl : Cll) : MS :=
 (aM (fE (mB (mOp qC (mV 0) (mC (.ty "tuple")))) (aM (aS (.nm 3) (mLc (qJ (mSl (mV 0) (some (mC (.int 1))) none)) (.tu [(.nm 4), (.nm 5)]) (fun _ h => .ok true h) (aK cl bP (aA [(mV 5), (mV 1), (mOp bM (mV 2) (bE (aA [(mV 4)])))])) [4, 5]))
  (aS (.nm 0) (mOp bM (mSl (mV 0) none (some (mC (.int 1)))) (mF1 cK (mV 3))))) dF)
  (bF (mIf (mB (mOp inW (mV 2) (mV 1))) (bE (aA [(mC (.str "(")), (mV 0)])) (mV 0))))
def xH (cl : Cll) : MS :=
 (fR (mM1 (on1 "list" jQ) (mV 2) (aK cl bU (aA [(mV 4), (mOp bM (mV 1) (bE (aA [(mV 3)])))]))))
def fQ (cl : Cll) : MS :=
 (aM (aS (.nm 2) (dW (aA [(mV 1)])))
  (aM (fE (mB (mOp qC (mV 0) (mC (.ty "tuple")))) (fJ (qJ (mSl (mV 0) (some (mC (.int 1))) none)) (.tu [(.nm 3), (.nm 4)]) (xH cl)) dF)
  (bF (mV 2))))
def cP (cl : Cll) : MS :=
 (aM (aS (.nm 3) (mC .non))
  (aM (qL (fR (aK cl bD (aA [(mV 0), (mV 1)]))) [([100, 101, 102, 103, 104], some 4, (aS (.nm 3) (mV 4)))])
  (aM (fE (lA (kH (mB (mOp rR (mV 3) (mC (.cls 101))))) (mB (mOp rR (mV 3) (bE (aA [(mC (.cls 102)), (mC (.cls 103)), (mC (.cls 104))]))))) (bF (mC (.bl false))) dF)
  (bF (mOp eqW (mF1 iI (tH "place" (mV 3))) (mF1 iI (mV 2)))))))
def zF (cl : Cll) : MS :=
 (aM (aS (.nm 7) (aK cl bP (aA [(mV 1), (mV 6), (bE (aA []))])))
  (fE (mB (mOp neW (mF1 iI (dW (aA [(aK cl bD (aA [(mV 1), (mV 6)])), (mR cl bD (aA [(mV 6), (mV 1)]) [1, 0])]))) (mF1 iI (dW (aA [(mV 7), (mV 7)]))))) (bF (mC (.bl false))) dF))
def gJ (cl : Cll) : MS :=
 (aM (aS (.tu [(.nm 2), (.nm 3)]) (bE (aA [(aK cl bU (aA [(mV 1), (bE (aA []))])), (mF1 iI (mV 1))])))
  (aM (aS (.nm 4) (mF1 cK (mLc (gM (aK cl aZ (aA [(mV 0), (mC (.int 7))]))) (.nm 5) (fun _ h => .ok true h) (aK cl bA (aA [(mV 0), (mV 2)])) [5])))
  (aM (fJ (miE (bE (aA [(bE (aA [])), (mF1 cK (mV 2)), (mV 4), (mOp bM (mF1 sE (mV 4)) (mV 4)), (bE (aA [(mOp ixW (mV 2) (mF1 vB (mC (.int 1))))]))]))) (.nm 6) (zF cl))
  (aM (aS (.nm 8) (dW (aA [(mOp bM (mOp ixW (mV 2) (mF1 vB (mC (.int 1)))) (bE (aA [(mC (.int 0))]))), (bE (aA [(mC (.int 7))])), (bE (aA [(mC (.int 0)), (mC (.int 0)), (mC (.int 0)), (mC (.int 9))])), (mOp tL (bE (aA [(mC (.int 4))])) (mC (.int 30)))])))
  (aM (aS (.nm 8) (mLc (miE (mV 8)) (.nm 9) (mB (mOp niW (mV 9) (mV 2))) (mV 9) [9]))
  (aM (aS (.tu [(.nm 10), (.nm 11)]) (bE (aA [(aK cl bA (aA [(mV 0), (mV 8)])), (aK cl bA (aA [(mV 0), (mV 8)]))])))
  (aM (fE (lA (kH (mB (aK cl bL (aA [(mV 1), (mOp bM (mOp bM (mOp bM (mV 4) (bE (aA [(mV 10)]))) (mV 4)) (bE (aA [(mV 11)]))), (mV 10)])))) (kH (mB (aK cl bL (aA [(mV 1), (bE (aA [(mV 11)])), (mV 11)]))))) (bF (mC (.bl false))) dF)
  (bF (mOp eqW (mF1 iI (mV 1)) (mV 3))))))))))
def aGm (cl : Cll) : MS :=
 (aM (aS (.nm 2) (aK cl jH (aA [(mV 0), (mV 1)])))
  (aM (aS (.nm 3) (aK cl bZ (aA [(mV 2), (mC (.int 5))])))
  (fE (kH (mB (mF1 uL (mLc (gM (mC (.int 3))) (.nm 4) (fun _ h => .ok true h) (aK cl fD (aA [(mV 2), (aK cl eO (aA [(mV 2), (mV 3), (mC (.int 10)), (mC (.int 3))]))])) [4])))) (bF (mC (.bl false))) dF)))
def wH (cl : Cll) : MS :=
 (aM (fJ (gM (mOp xW (mC (.int 1)) (mOp xX (mC (.int 3)) (mF1 cR (mV 0))))) (.nm 1) (aGm cl))
  (bF (mC (.bl true))))
def T : Tab := fun f => match f with
 | 0 => some ⟨1, 1, iV⟩
 | 1 => some ⟨5, 2, lT⟩
 | 2 => some ⟨1, 1, jU⟩
 | 3 => some ⟨6, 3, fP⟩
 | 4 => some ⟨4, 2, eJ⟩
 | 5 => some ⟨4, 2, gQ⟩
 | 6 => some ⟨7, 2, fY⟩
 | 7 => some ⟨2, 2, eQ⟩
 | 8 => some ⟨4, 3, hX⟩
 | 9 => some ⟨8, 4, cH⟩
 | 10 => some ⟨6, 2, eP⟩
 | 11 => some ⟨1, 1, fT⟩
 | 12 => some ⟨2, 1, dJ⟩
 | 13 => some ⟨4, 4, jJ⟩
 | 14 => some ⟨7, 4, gI⟩
 | 15 => some ⟨6, 3, eI⟩
 | 16 => some ⟨5, 2, fQ⟩
 | 17 => some ⟨5, 3, cP⟩
 | 18 => some ⟨12, 2, gJ⟩
 | 19 => some ⟨5, 1, wH⟩
 | _ => none
def rF : List Str := ["tree"]
def xF : List Str := ["tree", "place", "found", "child", "part"]
def uJ : List Str := ["tree"]
def mG : List Str := ["tree", "place", "wanted", "parts", "k", "part"]
def kW : List Str := ["tree", "chosen", "known", "place"]
def mJ : List Str := ["_law_script", "_law_k", "_law_cell", "_law_digits"]
def pM : List Str := ["_law_source_here", "_law_size", "_law_digit", "_law_low", "_law_high", "_law_mixed", "_law_last"]
def pN : List Str := ["_law_source_here", "_law_some"]
def oF : List Str := ["_law_source_here", "_law_many", "_law_pool", "_law_k"]
def jN : List Str := ["_law_source_here", "_law_pool", "_law_starts", "_law_follows", "_law_kind", "_law_many", "_law_words_here", "_law_shared"]
def jB : List Str := ["_law_source_here", "_law_most", "_law_pool", "_law_starts", "_law_follows", "_law_k"]
def rG : List Str := ["_law_operator_here"]
def oD : List Str := ["_law_operator_here", "_law_one"]
def pO : List Str := ["_law_source_here", "_law_operators_here", "_law_most", "_law_groups"]
def oC : List Str := ["_law_source_here", "_law_operators_here", "_law_left", "_law_depth", "_law_n", "_law_parts", "_law_k"]
def kU : List Str := ["_law_root", "_law_spots", "_law_place", "_law_some", "_law_at", "_law_part"]
def mH : List Str := ["_law_root", "_law_place", "_law_found", "_law_at", "_law_part"]
def iL : List Str := ["_law_root", "_law_spots", "_law_first", "_law_caught", "error"]
def oE : List Str := ["_law_source_here", "_law_root", "_law_every", "_law_handed", "_law_drawn", "_law_turn", "_law_spots", "_law_due", "_law_missing", "_law_place", "_law_one", "_law_other"]
def zU : List Str := ["_law_script", "_law_k", "_law_source_here", "_law_operators_here", "_law_turn"]
structure FS (P : Program) (w : World) (K : PySem.W.Frag) (mg : Str -> Option Value) (base : Heap) (g : Gx) (k : Nat) (cl : Cll) : Prop where
 fn_is_leaf : FnF P w K mg base g k cl iT "is_leaf" fU ["tree"]
 fn_below : FnF P w K mg base g k cl gX "below" iZ ["tree", "place"]
 fn_places : FnF P w K mg base g k cl jS "places" gU ["tree"]
 fn_grouped_at : FnF P w K mg base g k cl cB "grouped_at" cU ["tree", "place", "wanted"]
 fn_with_groups : FnF P w K mg base g k cl bD "with_groups" cE ["tree", "chosen"]
 fn_law_source : FnF P w K mg base g k cl jH "_law_source" cW ["_law_script", "_law_k"]
 fn_law_draw : FnF P w K mg base g k cl aZ "_law_draw" eU ["_law_source_here", "_law_size"]
 fn_law_pick : FnF P w K mg base g k cl bA "_law_pick" eV ["_law_source_here", "_law_some"]
 fn_law_words : FnF P w K mg base g k cl oN "_law_words" dO ["_law_source_here", "_law_many", "_law_pool"]
 fn_law_operator : FnF P w K mg base g k cl fO "_law_operator" cJ ["_law_source_here", "_law_pool", "_law_starts", "_law_follows"]
 fn_law_operators : FnF P w K mg base g k cl bZ "_law_operators" cA ["_law_source_here", "_law_most"]
 fn_law_has : FnF P w K mg base g k cl iU "_law_has" fV ["_law_operator_here"]
 fn_law_holes : FnF P w K mg base g k cl hU "_law_holes" dM ["_law_operator_here"]
 fn_law_tree : FnF P w K mg base g k cl eO "_law_tree" eW ["_law_source_here", "_law_operators_here", "_law_most", "_law_groups"]
 fn_law_grown : FnF P w K mg base g k cl fC "_law_grown" dL ["_law_source_here", "_law_operators_here", "_law_left", "_law_depth"]
 fn_law_grouped : FnF P w K mg base g k cl bP "_law_grouped" cN ["_law_root", "_law_spots", "_law_place"]
 fn_law_places : FnF P w K mg base g k cl bU "_law_places" cV ["_law_root", "_law_place"]
 fn_law_is_refused : FnF P w K mg base g k cl bL "_law_is_refused" bV ["_law_root", "_law_spots", "_law_first"]
 fn_law_right : FnF P w K mg base g k cl fD "_law_right" dN ["_law_source_here", "_law_root"]
 fn_law : FnF P w K mg base g k cl wC "law" nX ["_law_script"]
 at_place : AtX K g "place"
 xc_NoPlace : XcF P w K mg base g 101 "NoPlace" ["place"]
 ch_GroupingError : ChF K mg g "GroupingError" [100, 101, 102, 103, 104]
 cl_BadText : ClF mg g "BadText" 102
 cl_InUse : ClF mg g "InUse" 103
 cl_NoName : ClF mg g "NoName" 104
 cl_NoPlace : ClF mg g "NoPlace" 101
 kf : KF K g
 cs_GROUP : ∃ t, mg "GROUP" = some (.str "(" t)
 fr_abs : mg "abs" = none
 fr_all : mg "all" = none
 fr_enumerate : mg "enumerate" = none
 fr_int : mg "int" = none
 fr_isinstance : mg "isinstance" = none
 fr_len : mg "len" = none
 fr_list : mg "list" = none
 fr_max : mg "max" = none
 fr_min : mg "min" = none
 fr_range : mg "range" = none
 fr_repr : mg "repr" = none
 fr_str : mg "str" = none
 fr_sum : mg "sum" = none
 fr_tuple : mg "tuple" = none
theorem aCC : BdF "is_leaf" fU ["tree"] := fun _ _ _ _ _ _ us hl => match us, hl with | [_], _ => rfl
theorem aAg : BdF "below" iZ ["tree", "place"] := fun _ _ _ _ _ _ us hl => match us, hl with | [_, _], _ => rfl
theorem aDy : BdF "places" gU ["tree"] := fun _ _ _ _ _ _ us hl => match us, hl with | [_], _ => rfl
theorem rB : BdF "grouped_at" cU ["tree", "place", "wanted"] := fun _ _ _ _ _ _ us hl => match us, hl with | [_, _, _], _ => rfl
theorem oX : BdF "with_groups" cE ["tree", "chosen"] := fun _ _ _ _ _ _ us hl => match us, hl with | [_, _], _ => rfl
theorem zG : BdF "_law_source" cW ["_law_script", "_law_k"] := fun _ _ _ _ _ _ us hl => match us, hl with | [_, _], _ => rfl
theorem cQ : BdF "_law_draw" eU ["_law_source_here", "_law_size"] := fun _ _ _ _ _ _ us hl => match us, hl with | [_, _], _ => rfl
theorem fB : BdF "_law_pick" eV ["_law_source_here", "_law_some"] := fun _ _ _ _ _ _ us hl => match us, hl with | [_, _], _ => rfl
theorem aAj : BdF "_law_words" dO ["_law_source_here", "_law_many", "_law_pool"] := fun _ _ _ _ _ _ us hl => match us, hl with | [_, _, _], _ => rfl
theorem vW : BdF "_law_operator" cJ ["_law_source_here", "_law_pool", "_law_starts", "_law_follows"] := fun _ _ _ _ _ _ us hl => match us, hl with | [_, _, _, _], _ => rfl
theorem uN : BdF "_law_operators" cA ["_law_source_here", "_law_most"] := fun _ _ _ _ _ _ us hl => match us, hl with | [_, _], _ => rfl
theorem aCD : BdF "_law_has" fV ["_law_operator_here"] := fun _ _ _ _ _ _ us hl => match us, hl with | [_], _ => rfl
theorem aAh : BdF "_law_holes" dM ["_law_operator_here"] := fun _ _ _ _ _ _ us hl => match us, hl with | [_], _ => rfl
theorem aBy : BdF "_law_tree" eW ["_law_source_here", "_law_operators_here", "_law_most", "_law_groups"] := fun _ _ _ _ _ _ us hl => match us, hl with | [_, _, _, _], _ => rfl
theorem mM : BdF "_law_grown" dL ["_law_source_here", "_law_operators_here", "_law_left", "_law_depth"] := fun _ _ _ _ _ _ us hl => match us, hl with | [_, _, _, _], _ => rfl
theorem oW : BdF "_law_grouped" cN ["_law_root", "_law_spots", "_law_place"] := fun _ _ _ _ _ _ us hl => match us, hl with | [_, _, _], _ => rfl
theorem rC : BdF "_law_places" cV ["_law_root", "_law_place"] := fun _ _ _ _ _ _ us hl => match us, hl with | [_, _], _ => rfl
theorem lJ : BdF "_law_is_refused" bV ["_law_root", "_law_spots", "_law_first"] := fun _ _ _ _ _ _ us hl => match us, hl with | [_, _, _], _ => rfl
theorem aAi : BdF "_law_right" dN ["_law_source_here", "_law_root"] := fun _ _ _ _ _ _ us hl => match us, hl with | [_, _], _ => rfl
theorem aHB : BdF "law" nX ["_law_script"] := fun _ _ _ _ _ _ us hl => match us, hl with | [_], _ => rfl
theorem vX : BdM "__init__" "NoPlace.__init__" dP ["self", "place"] := fun _ _ _ _ _ _ us hl => match us, hl with | [_, _], _ => rfl
theorem wZ : FnScope ["self", "place"] ["self", "place"] (defScope dP) := ⟨rfl, rfl, rfl, by decide +kernel, rfl, by decide +kernel, by decide +kernel⟩
theorem wE : IsIn "GroupingError" ["place"] (defBody dP) := IsIn.mk (by decide +kernel) (.cons .nil)
theorem tZ : BdK "with_groups" cE ["tree", "chosen"] ["chosen", "tree"] [1, 0] := fun _ _ _ _ _ _ ws xs hl e => match ws, hl, e with | [_, _], _, e => by cases e; rfl
theorem aDb : FnScope rF ["tree"] (defScope fU) := ⟨rfl, rfl, rfl, by decide +kernel, rfl, by decide +kernel, by decide +kernel⟩
theorem aDg {g : Gx} {k : Nat} {cl : Cll} (X : Cx) (Wx : WX) (G : Good FS g k cl rF (defScope fU) (fun _ => true) X Wx) (hp : HP X) : QL g X Wx (defBody fU) (iV cl) :=
 (aW (bO (G.qf2 (by decide +kernel) G.fs.fr_isinstance (by kernel_rfl) rfl G.cisiW rfl (G.qvar 0 (by decide +kernel)) (G.qtyp (by decide +kernel) G.fs.fr_str (by kernel_rfl)))))
theorem aFA : FnScope xF ["tree", "place"] (defScope iZ) := ⟨rfl, rfl, rfl, by decide +kernel, rfl, by decide +kernel, by decide +kernel⟩
theorem aFE {g : Gx} {k : Nat} {cl : Cll} (X : Cx) (Wx : WX) (G : Good FS g k cl xF (defScope iZ) (fun _ => true) X Wx) (hp : HP X) : QL g X Wx (defBody iZ) (lT cl) :=
 (aO (bH (cT (qac (G.qvar 1 (by decide +kernel)) aD rfl)) (G.qtgt 2 (by decide +kernel)) rfl)
  (aO (gO (sD (qtv (G.qcal (by decide +kernel) G.fs.fn_is_leaf aCC rfl rfl (qac (G.qvar 0 (by decide +kernel)) aD rfl)) rfl)) (aW (qsf hp.p G (G.qen (by decide +kernel) G.fs.fr_enumerate rfl (G.qsl (G.qvar 0 (by decide +kernel)) (lZ aC) lY)) (G.qtup (qgc (G.qtgt 3 (by decide +kernel)) (qgc (G.qtgt 4 (by decide +kernel)) lX rfl) rfl) rfl rfl) (aW (qse (G.qk1 yU G.mextendW rfl (by decide +kernel) rfl (G.qvar 2 (by decide +kernel)) (G.qcal (by decide +kernel) G.fs.fn_below aAg rfl rfl (qac (G.qvar 4 (by decide +kernel)) (qac (aQ G.oaddW (G.qvar 1 (by decide +kernel)) (bC (qac (G.qvar 3 (by decide +kernel)) aD rfl))) aD rfl) rfl))) rfl)) rfl)) gF)
  (aW (bO (G.qvar 2 (by decide +kernel))))))
theorem aEl : FnScope uJ ["tree"] (defScope gU) := ⟨rfl, rfl, rfl, by decide +kernel, rfl, by decide +kernel, by decide +kernel⟩
theorem aEq {g : Gx} {k : Nat} {cl : Cll} (X : Cx) (Wx : WX) (G : Good FS g k cl uJ (defScope gU) (fun _ => true) X Wx) (hp : HP X) : QL g X Wx (defBody gU) (jU cl) :=
 (aW (bO (G.qf1 (by decide +kernel) G.fs.fr_tuple (by kernel_rfl) rfl G.ctupleW rfl (G.qcal (by decide +kernel) G.fs.fn_below aAg rfl rfl (qac (G.qvar 0 (by decide +kernel)) (qac (bC aD) aD rfl) rfl)))))
theorem zL : FnScope mG ["tree", "place", "wanted"] (defScope cU) := ⟨rfl, rfl, rfl, by decide +kernel, rfl, by decide +kernel, by decide +kernel⟩
theorem zO {g : Gx} {k : Nat} {cl : Cll} (X : Cx) (Wx : WX) (G : Good FS g k cl mG (defScope cU) (fun _ => true) X Wx) (hp : HP X) : QL g X Wx (defBody cU) (fP cl) :=
 (aO (gO (qtv (G.qf2 (by decide +kernel) G.fs.fr_isinstance (by kernel_rfl) rfl G.cisiW rfl (G.qvar 0 (by decide +kernel)) (G.qtyp (by decide +kernel) G.fs.fr_tuple (by kernel_rfl))) rfl) (aO (G.qsetLc 3 [("k", 4), ("part", 5)] [4, 5] (by decide +kernel) (by decide +kernel) (by decide +kernel) (by rfl) (by rfl) rfl (G.qen (by decide +kernel) G.fs.fr_enumerate rfl (G.qsl (G.qvar 0 (by decide +kernel)) (lZ aC) lY)) (fun X G => (G.qtup (qgc (G.qtgt 4 (by decide +kernel)) (qgc (G.qtgt 5 (by decide +kernel)) lX rfl) rfl) rfl rfl)) .nil (fun X G => (G.qcal (by decide +kernel) G.fs.fn_grouped_at rB rfl rfl (qac (G.qvar 5 (by decide +kernel)) (qac (aQ G.oaddW (G.qvar 1 (by decide +kernel)) (bC (qac (G.qvar 4 (by decide +kernel)) aD rfl))) (qac (G.qvar 2 (by decide +kernel)) aD rfl) rfl) rfl))))
  (aW (bH (aQ G.oaddW (bC (qac (G.qix (G.qvar 0 (by decide +kernel)) aC rfl) aD rfl)) (G.qf1 (by decide +kernel) G.fs.fr_tuple (by kernel_rfl) rfl G.ctupleW rfl (G.qvar 3 (by decide +kernel)))) (G.qtgt 0 (by decide +kernel)) rfl))) gF)
  (aW (bO (pI (cI G.oinW (G.qvar 1 (by decide +kernel)) (G.qvar 2 (by decide +kernel)) (by rfl)) (bC (qac (G.qconS (by decide +kernel) G.fs.cs_GROUP) (qac (G.qvar 0 (by decide +kernel)) aD rfl) rfl)) (G.qvar 0 (by decide +kernel))))))
theorem yD : FnScope kW ["tree", "chosen"] (defScope cE) := ⟨rfl, rfl, rfl, by decide +kernel, rfl, by decide +kernel, by decide +kernel⟩
theorem yH {g : Gx} {k : Nat} {cl : Cll} (X : Cx) (Wx : WX) (G : Good FS g k cl kW (defScope cE) (fun _ => true) X Wx) (hp : HP X) : QL g X Wx (defBody cE) (eJ cl) :=
 (aO (G.qsetDc 2 aF0 [("place", 3)] [3] (by decide +kernel) (by decide +kernel) (by decide +kernel) (by rfl) (by rfl) rfl (G.qsie (G.qcal (by decide +kernel) G.fs.fn_places aDy rfl rfl (qac (G.qvar 0 (by decide +kernel)) aD rfl))) (fun X G => (G.qtgt 3 (by decide +kernel))) .nil (fun X G => (G.qvar 3 (by decide +kernel))) (fun X G => qR))
  (aO (qsf hp.p G (G.qsie (G.qvar 1 (by decide +kernel))) (G.qtgt 3 (by decide +kernel)) (aW (gO (cI G.oniW (G.qvar 3 (by decide +kernel)) (G.qvar 2 (by decide +kernel)) (by rfl)) (aW (G.qraise (by decide +kernel) G.fs.xc_NoPlace rfl (qac (G.qvar 3 (by decide +kernel)) aD rfl))) gF)) rfl)
  (aW (bO (G.qcal (by decide +kernel) G.fs.fn_grouped_at rB rfl rfl (qac (G.qvar 0 (by decide +kernel)) (qac (bC aD) (qac (G.qdc aF0 [("place", 3)] [3] (by decide +kernel) (by rfl) (by rfl) rfl (G.qsie (G.qvar 1 (by decide +kernel))) (fun X G => (G.qtgt 3 (by decide +kernel))) .nil (fun X G => (G.qvar 3 (by decide +kernel))) (fun X G => qR)) aD rfl) rfl) rfl))))))
theorem zN : FnScope mJ ["_law_script", "_law_k"] (defScope cW) := ⟨rfl, rfl, rfl, by decide +kernel, rfl, by decide +kernel, by decide +kernel⟩
theorem zQ {g : Gx} {k : Nat} {cl : Cll} (X : Cx) (Wx : WX) (G : Good FS g k cl mJ (defScope cW) (fun _ => true) X Wx) (hp : HP X) : QL g X Wx (defBody cW) (gQ cl) :=
 (aO (bH (pI (cI G.oltW (G.qvar 1 (by decide +kernel)) (G.qf1 (by decide +kernel) G.fs.fr_len (by kernel_rfl) rfl G.clenW rfl (G.qvar 0 (by decide +kernel))) (by rfl)) (G.qix (G.qvar 0 (by decide +kernel)) (G.qvar 1 (by decide +kernel)) rfl) aC) (G.qtgt 2 (by decide +kernel)) rfl)
  (aO (bH (pI (cI G.ogeW (G.qf1 (by decide +kernel) G.fs.fr_abs (by kernel_rfl) rfl G.cabsW rfl (G.qvar 2 (by decide +kernel))) (aQ G.opowW aC aC) (by rfl)) (aQ G.omodW (G.qf1 (by decide +kernel) G.fs.fr_abs (by kernel_rfl) rfl G.cabsW rfl (G.qvar 2 (by decide +kernel))) (aQ G.opowW (aQ G.opowW aC aC) aC)) aC) (G.qtgt 3 (by decide +kernel)) rfl)
  (aW (bO (cT (qac (G.qvar 3 (by decide +kernel)) (qac (aQ G.omodW (aQ G.oaddW (aQ G.oaddW (aQ G.omulW (aQ G.omodW (G.qvar 2 (by decide +kernel)) aC) aC) (aQ G.omulW (aQ G.omulW aC (G.qvar 1 (by decide +kernel))) (G.qvar 1 (by decide +kernel)))) aC) aC) (qac aC aD rfl) rfl) rfl))))))
theorem aBK : FnScope pM ["_law_source_here", "_law_size"] (defScope eU) := ⟨rfl, rfl, rfl, by decide +kernel, rfl, by decide +kernel, by decide +kernel⟩
theorem aBP {g : Gx} {k : Nat} {cl : Cll} (X : Cx) (Wx : WX) (G : Good FS g k cl pM (defScope eU) (fun _ => true) X Wx) (hp : HP X) : QL g X Wx (defBody eU) (fY cl) :=
 (aO (gO (cI G.ogtW (G.qix (G.qvar 0 (by decide +kernel)) aC rfl) aC (by rfl)) (aO (bH (aQ G.omodW (G.qix (G.qvar 0 (by decide +kernel)) aC rfl) (G.qvar 1 (by decide +kernel))) (G.qtgt 2 (by decide +kernel)) rfl)
  (aO (G.qsub (aQ G.ofdivW (G.qix (G.qvar 0 (by decide +kernel)) aC rfl) (G.qvar 1 (by decide +kernel))) (G.qvar 0 (by decide +kernel)) aC rfl rfl)
  (aW (bO (G.qvar 2 (by decide +kernel)))))) gF)
  (aO (G.qsub (aQ G.oaddW (G.qix (G.qvar 0 (by decide +kernel)) aC rfl) aC) (G.qvar 0 (by decide +kernel)) aC rfl rfl)
  (aO (bH (aQ G.oaddW (G.qix (G.qvar 0 (by decide +kernel)) aC rfl) (aQ G.omulW aC (G.qix (G.qvar 0 (by decide +kernel)) aC rfl))) (G.qtgt 3 (by decide +kernel)) rfl)
  (aO (bH (aQ G.oaddW (aQ G.oaddW (aQ G.omodW (G.qix (G.qvar 0 (by decide +kernel)) aC rfl) aC) (aQ G.omulW aC (G.qix (G.qvar 0 (by decide +kernel)) aC rfl))) aC) (G.qtgt 4 (by decide +kernel)) rfl)
  (aO (bH (aQ G.omodW (aQ G.omulW (G.qvar 3 (by decide +kernel)) (G.qvar 4 (by decide +kernel))) aC) (G.qtgt 5 (by decide +kernel)) rfl)
  (aO (bH (aQ G.oaddW (aQ G.oaddW (aQ G.omodW (G.qvar 5 (by decide +kernel)) aC) (aQ G.omulW aC (G.qix (G.qvar 0 (by decide +kernel)) aC rfl))) aC) (G.qtgt 6 (by decide +kernel)) rfl)
  (aW (bO (aQ G.omodW (aQ G.ofdivW (aQ G.omodW (aQ G.omulW (aQ G.oaddW (G.qvar 5 (by decide +kernel)) aC) (G.qvar 6 (by decide +kernel))) aC) aC) (G.qvar 1 (by decide +kernel)))))))))))
theorem aBL : FnScope pN ["_law_source_here", "_law_some"] (defScope eV) := ⟨rfl, rfl, rfl, by decide +kernel, rfl, by decide +kernel, by decide +kernel⟩
theorem aBQ {g : Gx} {k : Nat} {cl : Cll} (X : Cx) (Wx : WX) (G : Good FS g k cl pN (defScope eV) (fun _ => true) X Wx) (hp : HP X) : QL g X Wx (defBody eV) (eQ cl) :=
 (aW (bO (G.qix (G.qvar 1 (by decide +kernel)) (G.qcal (by decide +kernel) G.fs.fn_law_draw cQ rfl rfl (qac (G.qvar 0 (by decide +kernel)) (qac (G.qf1 (by decide +kernel) G.fs.fr_len (by kernel_rfl) rfl G.clenW rfl (G.qvar 1 (by decide +kernel))) aD rfl) rfl)) rfl)))
theorem aBg : FnScope oF ["_law_source_here", "_law_many", "_law_pool"] (defScope dO) := ⟨rfl, rfl, rfl, by decide +kernel, rfl, by decide +kernel, by decide +kernel⟩
theorem aBm {g : Gx} {k : Nat} {cl : Cll} (X : Cx) (Wx : WX) (G : Good FS g k cl oF (defScope dO) (fun _ => true) X Wx) (hp : HP X) : QL g X Wx (defBody dO) (hX cl) :=
 (aW (bO (G.qf1 (by decide +kernel) G.fs.fr_tuple (by kernel_rfl) rfl G.ctupleW rfl (G.qlc [("_law_k", 3)] [3] (by decide +kernel) (by rfl) (by rfl) rfl (G.qr1 (by decide +kernel) G.fs.fr_range rfl (G.qvar 1 (by decide +kernel))) (fun X G => (G.qtgt 3 (by decide +kernel))) .nil (fun X G => (G.qk1 aDY G.mpopAtW rfl (by decide +kernel) rfl (G.qvar 2 (by decide +kernel)) (G.qcal (by decide +kernel) G.fs.fn_law_draw cQ rfl rfl (qac (G.qvar 0 (by decide +kernel)) (qac (G.qf1 (by decide +kernel) G.fs.fr_len (by kernel_rfl) rfl G.clenW rfl (G.qvar 2 (by decide +kernel))) aD rfl) rfl))))))))
theorem wV : FnScope jN ["_law_source_here", "_law_pool", "_law_starts", "_law_follows"] (defScope cJ) := ⟨rfl, rfl, rfl, by decide +kernel, rfl, by decide +kernel, by decide +kernel⟩
theorem wY {g : Gx} {k : Nat} {cl : Cll} (X : Cx) (Wx : WX) (G : Good FS g k cl jN (defScope cJ) (fun _ => true) X Wx) (hp : HP X) : QL g X Wx (defBody cJ) (cH cl) :=
 (aO (bH (G.qcal (by decide +kernel) G.fs.fn_law_pick fB rfl rfl (qac (G.qvar 0 (by decide +kernel)) (qac (cT (qac aX (qac aX (qac aX (qac aX (qac aX (qac aX (qac aX aD rfl) rfl) rfl) rfl) rfl) rfl) rfl)) aD rfl) rfl)) (G.qtgt 4 (by decide +kernel)) rfl)
  (aO (bH (pI (cI G.oeqW (G.qvar 4 (by decide +kernel)) aX (by rfl)) (G.qcal (by decide +kernel) G.fs.fn_law_pick fB rfl rfl (qac (G.qvar 0 (by decide +kernel)) (qac (cT (qac aC (qac aC (qac aC aD rfl) rfl) rfl)) aD rfl) rfl)) (G.qcal (by decide +kernel) G.fs.fn_law_pick fB rfl rfl (qac (G.qvar 0 (by decide +kernel)) (qac (cT (qac aC (qac aC (qac aC (qac aC (qac aC (qac aC aD rfl) rfl) rfl) rfl) rfl) rfl)) aD rfl) rfl))) (G.qtgt 5 (by decide +kernel)) rfl)
  (aO (G.qpar 6 7 (by decide +kernel) (by decide +kernel) (by decide) (qac (G.qcal (by decide +kernel) G.fs.fn_law_words aAj rfl rfl (qac (G.qvar 0 (by decide +kernel)) (qac (G.qvar 5 (by decide +kernel)) (qac (G.qvar 1 (by decide +kernel)) aD rfl) rfl) rfl)) (qac (pI (cI G.oinW (G.qvar 4 (by decide +kernel)) (bC (qac aX (qac aX aD rfl) rfl)) (by rfl)) (G.qvar 3 (by decide +kernel)) (G.qvar 2 (by decide +kernel))) aD rfl) rfl) (by kernel_rfl))
  (aO (gO (QW.te (aA6 (cI G.oneW (G.qvar 7 (by decide +kernel)) (cT aD) (by rfl)) (aCl (cI G.oeqW (G.qcal (by decide +kernel) G.fs.fn_law_draw cQ rfl rfl (qac (G.qvar 0 (by decide +kernel)) (qac aC aD rfl) rfl)) aC (by rfl))))) (aW (bH (aQ G.oaddW (bC (qac (G.qk1 aDY G.mpopAtW rfl (by decide +kernel) rfl (G.qvar 7 (by decide +kernel)) (G.qcal (by decide +kernel) G.fs.fn_law_draw cQ rfl rfl (qac (G.qvar 0 (by decide +kernel)) (qac (G.qf1 (by decide +kernel) G.fs.fr_len (by kernel_rfl) rfl G.clenW rfl (G.qvar 7 (by decide +kernel))) aD rfl) rfl))) aD rfl)) (G.qsl (G.qvar 6 (by decide +kernel)) (lZ aC) lY)) (G.qtgt 6 (by decide +kernel)) rfl)) (aW (gO (cI G.oinW (G.qvar 4 (by decide +kernel)) (bC (qac aX (qac aX aD rfl) rfl)) (by rfl)) (aW (qse (G.qk1 rW G.mappendW rfl (by decide +kernel) rfl (G.qvar 2 (by decide +kernel)) (G.qix (G.qvar 6 (by decide +kernel)) aC rfl)) rfl)) (aW (qse (G.qk1 rW G.mappendW rfl (by decide +kernel) rfl (G.qvar 3 (by decide +kernel)) (G.qix (G.qvar 6 (by decide +kernel)) aC rfl)) rfl)))))
  (aW (bO (bC (qac (G.qvar 4 (by decide +kernel)) (qac (G.qvar 6 (by decide +kernel)) aD rfl) rfl))))))))
theorem vK : FnScope jB ["_law_source_here", "_law_most"] (defScope cA) := ⟨rfl, rfl, rfl, by decide +kernel, rfl, by decide +kernel, by decide +kernel⟩
theorem vN {g : Gx} {k : Nat} {cl : Cll} (X : Cx) (Wx : WX) (G : Good FS g k cl jB (defScope cA) (fun _ => true) X Wx) (hp : HP X) : QL g X Wx (defBody cA) (eP cl) :=
 (aO (bH (aQ G.oaddW (G.qf1 (by decide +kernel) G.fs.fr_list (by kernel_rfl) rfl G.clistW rfl aX) (cT (qac aX (qac aX (qac aX (qac aX (qac aX (qac aX (qac aX (qac aX aD rfl) rfl) rfl) rfl) rfl) rfl) rfl) rfl))) (G.qtgt 2 (by decide +kernel)) rfl)
  (aO (bH (aQ G.oaddW (G.qvar 2 (by decide +kernel)) (cT (qac aX (qac aX (qac aX (qac aX (qac aX (qac aX (qac aX (qac aX (qac aX (qac aX (qac aX aD rfl) rfl) rfl) rfl) rfl) rfl) rfl) rfl) rfl) rfl) rfl))) (G.qtgt 2 (by decide +kernel)) rfl)
  (aO (G.qasgT (bC (qac (cT aD) (qac (cT aD) aD rfl) rfl)) (G.qtup (qgc (G.qtgt 3 (by decide +kernel)) (qgc (G.qtgt 4 (by decide +kernel)) lX rfl) rfl) rfl rfl) rfl (by kernel_rfl))
  (aW (bO (G.qf1 (by decide +kernel) G.fs.fr_tuple (by kernel_rfl) rfl G.ctupleW rfl (G.qlc [("_law_k", 5)] [5] (by decide +kernel) (by rfl) (by rfl) rfl (G.qr1 (by decide +kernel) G.fs.fr_range rfl (G.qcal (by decide +kernel) G.fs.fn_law_draw cQ rfl rfl (qac (G.qvar 0 (by decide +kernel)) (qac (aQ G.oaddW (G.qvar 1 (by decide +kernel)) aC) aD rfl) rfl))) (fun X G => (G.qtgt 5 (by decide +kernel))) .nil (fun X G => (G.qcal (by decide +kernel) G.fs.fn_law_operator vW rfl rfl (qac (G.qvar 0 (by decide +kernel)) (qac (G.qvar 2 (by decide +kernel)) (qac (G.qvar 3 (by decide +kernel)) (qac (G.qvar 4 (by decide +kernel)) aD rfl) rfl) rfl) rfl))))))))))
theorem aDc : FnScope rG ["_law_operator_here"] (defScope fV) := ⟨rfl, rfl, rfl, by decide +kernel, rfl, by decide +kernel, by decide +kernel⟩
theorem aDh {g : Gx} {k : Nat} {cl : Cll} (X : Cx) (Wx : WX) (G : Good FS g k cl rG (defScope fV) (fun _ => true) X Wx) (hp : HP X) : QL g X Wx (defBody fV) (fT cl) :=
 (aW (bO (bC (qac (wR G.oinW (G.qix (G.qvar 0 (by decide +kernel)) aC rfl) (bC (qac aX (qac aX aD rfl) rfl)) (by rfl)) (qac (wR G.oinW (G.qix (G.qvar 0 (by decide +kernel)) aC rfl) (bC (qac aX (qac aX aD rfl) rfl)) (by rfl)) aD rfl) rfl))))
theorem aBe : FnScope oD ["_law_operator_here"] (defScope dM) := ⟨rfl, rfl, rfl, by decide +kernel, rfl, by decide +kernel, by decide +kernel⟩
theorem aBk {g : Gx} {k : Nat} {cl : Cll} (X : Cx) (Wx : WX) (G : Good FS g k cl oD (defScope dM) (fun _ => true) X Wx) (hp : HP X) : QL g X Wx (defBody dM) (dJ cl) :=
 (aW (bO (aQ G.oaddW (aQ G.osubW (G.qf1 (by decide +kernel) G.fs.fr_len (by kernel_rfl) rfl G.clenW rfl (G.qix (G.qvar 0 (by decide +kernel)) aC rfl)) aC) (G.qf1 (by decide +kernel) G.fs.fr_sum (by kernel_rfl) rfl G.csumW rfl (G.qlc [("_law_one", 1)] [1] (by decide +kernel) (by rfl) (by rfl) rfl (G.qsie (G.qcal (by decide +kernel) G.fs.fn_law_has aCD rfl rfl (qac (G.qvar 0 (by decide +kernel)) aD rfl))) (fun X G => (G.qtgt 1 (by decide +kernel))) .nil (fun X G => (G.qf1 (by decide +kernel) G.fs.fr_int (by kernel_rfl) rfl G.cintW rfl (G.qvar 1 (by decide +kernel)))))))))
theorem aBM : FnScope pO ["_law_source_here", "_law_operators_here", "_law_most", "_law_groups"] (defScope eW) := ⟨rfl, rfl, rfl, by decide +kernel, rfl, by decide +kernel, by decide +kernel⟩
theorem aBR {g : Gx} {k : Nat} {cl : Cll} (X : Cx) (Wx : WX) (G : Good FS g k cl pO (defScope eW) (fun _ => true) X Wx) (hp : HP X) : QL g X Wx (defBody eW) (jJ cl) :=
 (aW (bO (G.qcal (by decide +kernel) G.fs.fn_law_grown mM rfl rfl (qac (G.qvar 0 (by decide +kernel)) (qac (G.qvar 1 (by decide +kernel)) (qac (cT (qac (G.qvar 2 (by decide +kernel)) (qac (G.qvar 3 (by decide +kernel)) aD rfl) rfl)) (qac aC aD rfl) rfl) rfl) rfl))))
theorem aBd : FnScope oC ["_law_source_here", "_law_operators_here", "_law_left", "_law_depth"] (defScope dL) := ⟨rfl, rfl, rfl, by decide +kernel, rfl, by decide +kernel, by decide +kernel⟩
theorem aBj {g : Gx} {k : Nat} {cl : Cll} (X : Cx) (Wx : WX) (G : Good FS g k cl oC (defScope dL) (fun _ => true) X Wx) (hp : HP X) : QL g X Wx (defBody dL) (gI cl) :=
 (aO (gO (QW.te (aA6 (cI G.ogtW (G.qix (G.qvar 2 (by decide +kernel)) aC rfl) aC (by rfl)) (aA6 (cI G.ogtW (G.qvar 3 (by decide +kernel)) aC (by rfl)) (aCl (cI G.oeqW (G.qcal (by decide +kernel) G.fs.fn_law_draw cQ rfl rfl (qac (G.qvar 0 (by decide +kernel)) (qac aC aD rfl) rfl)) aC (by rfl)))))) (aO (G.qsub (aQ G.osubW (G.qix (G.qvar 2 (by decide +kernel)) aC rfl) aC) (G.qvar 2 (by decide +kernel)) aC rfl rfl)
  (aW (bO (bC (qac aX (qac (G.qcal (by decide +kernel) G.fs.fn_law_grown mM rfl rfl (qac (G.qvar 0 (by decide +kernel)) (qac (G.qvar 1 (by decide +kernel)) (qac (G.qvar 2 (by decide +kernel)) (qac (aQ G.osubW (G.qvar 3 (by decide +kernel)) aC) aD rfl) rfl) rfl) rfl)) aD rfl) rfl))))) gF)
  (aO (gO (QW.te (wS (cI G.oeqW (G.qvar 1 (by decide +kernel)) (bC aD) (by rfl)) (wS (cI G.oleW (G.qix (G.qvar 2 (by decide +kernel)) aC rfl) aC (by rfl)) (wS (cI G.oeqW (G.qvar 3 (by decide +kernel)) aC (by rfl)) (aA7 (cI G.oeqW (G.qcal (by decide +kernel) G.fs.fn_law_draw cQ rfl rfl (qac (G.qvar 0 (by decide +kernel)) (qac aC aD rfl) rfl)) aC (by rfl))))))) (aW (bO (G.qcal (by decide +kernel) G.fs.fn_law_pick fB rfl rfl (qac (G.qvar 0 (by decide +kernel)) (qac (cT (qac aX (qac aX (qac aX (qac aX (qac aX aD rfl) rfl) rfl) rfl) rfl)) aD rfl) rfl)))) gF)
  (aO (G.qsub (aQ G.osubW (G.qix (G.qvar 2 (by decide +kernel)) aC rfl) aC) (G.qvar 2 (by decide +kernel)) aC rfl rfl)
  (aO (G.qpar 4 5 (by decide +kernel) (by decide +kernel) (by decide) (qac (G.qcal (by decide +kernel) G.fs.fn_law_draw cQ rfl rfl (qac (G.qvar 0 (by decide +kernel)) (qac (G.qf1 (by decide +kernel) G.fs.fr_len (by kernel_rfl) rfl G.clenW rfl (G.qvar 1 (by decide +kernel))) aD rfl) rfl)) (qac (cT aD) aD rfl) rfl) (by kernel_rfl))
  (aO (qsf hp.p G (G.qr1 (by decide +kernel) G.fs.fr_range rfl (G.qcal (by decide +kernel) G.fs.fn_law_holes aAh rfl rfl (qac (G.qix (G.qvar 1 (by decide +kernel)) (G.qvar 4 (by decide +kernel)) rfl) aD rfl))) (G.qtgt 6 (by decide +kernel)) (aW (qse (G.qk1 rW G.mappendW rfl (by decide +kernel) rfl (G.qvar 5 (by decide +kernel)) (G.qcal (by decide +kernel) G.fs.fn_law_grown mM rfl rfl (qac (G.qvar 0 (by decide +kernel)) (qac (G.qvar 1 (by decide +kernel)) (qac (G.qvar 2 (by decide +kernel)) (qac (aQ G.osubW (G.qvar 3 (by decide +kernel)) aC) aD rfl) rfl) rfl) rfl))) rfl)) rfl)
  (aW (bO (aQ G.oaddW (bC (qac (G.qvar 4 (by decide +kernel)) aD rfl)) (G.qf1 (by decide +kernel) G.fs.fr_tuple (by kernel_rfl) rfl G.ctupleW rfl (G.qvar 5 (by decide +kernel)))))))))))
theorem yC : FnScope kU ["_law_root", "_law_spots", "_law_place"] (defScope cN) := ⟨rfl, rfl, rfl, by decide +kernel, rfl, by decide +kernel, by decide +kernel⟩
theorem yG {g : Gx} {k : Nat} {cl : Cll} (X : Cx) (Wx : WX) (G : Good FS g k cl kU (defScope cN) (fun _ => true) X Wx) (hp : HP X) : QL g X Wx (defBody cN) (eI cl) :=
 (aO (gO (qtv (G.qf2 (by decide +kernel) G.fs.fr_isinstance (by kernel_rfl) rfl G.cisiW rfl (G.qvar 0 (by decide +kernel)) (G.qtyp (by decide +kernel) G.fs.fr_tuple (by kernel_rfl))) rfl) (aO (G.qsetLc 3 [("_law_at", 4), ("_law_part", 5)] [4, 5] (by decide +kernel) (by decide +kernel) (by decide +kernel) (by rfl) (by rfl) rfl (G.qen (by decide +kernel) G.fs.fr_enumerate rfl (G.qsl (G.qvar 0 (by decide +kernel)) (lZ aC) lY)) (fun X G => (G.qtup (qgc (G.qtgt 4 (by decide +kernel)) (qgc (G.qtgt 5 (by decide +kernel)) lX rfl) rfl) rfl rfl)) .nil (fun X G => (G.qcal (by decide +kernel) G.fs.fn_law_grouped oW rfl rfl (qac (G.qvar 5 (by decide +kernel)) (qac (G.qvar 1 (by decide +kernel)) (qac (aQ G.oaddW (G.qvar 2 (by decide +kernel)) (bC (qac (G.qvar 4 (by decide +kernel)) aD rfl))) aD rfl) rfl) rfl))))
  (aW (bH (aQ G.oaddW (G.qsl (G.qvar 0 (by decide +kernel)) lY (lZ aC)) (G.qf1 (by decide +kernel) G.fs.fr_tuple (by kernel_rfl) rfl G.ctupleW rfl (G.qvar 3 (by decide +kernel)))) (G.qtgt 0 (by decide +kernel)) rfl))) gF)
  (aW (bO (pI (cI G.oinW (G.qvar 2 (by decide +kernel)) (G.qvar 1 (by decide +kernel)) (by rfl)) (bC (qac aX (qac (G.qvar 0 (by decide +kernel)) aD rfl) rfl)) (G.qvar 0 (by decide +kernel))))))
theorem zM : FnScope mH ["_law_root", "_law_place"] (defScope cV) := ⟨rfl, rfl, rfl, by decide +kernel, rfl, by decide +kernel, by decide +kernel⟩
theorem zP {g : Gx} {k : Nat} {cl : Cll} (X : Cx) (Wx : WX) (G : Good FS g k cl mH (defScope cV) (fun _ => true) X Wx) (hp : HP X) : QL g X Wx (defBody cV) (fQ cl) :=
 (aO (bH (cT (qac (G.qvar 1 (by decide +kernel)) aD rfl)) (G.qtgt 2 (by decide +kernel)) rfl)
  (aO (gO (qtv (G.qf2 (by decide +kernel) G.fs.fr_isinstance (by kernel_rfl) rfl G.cisiW rfl (G.qvar 0 (by decide +kernel)) (G.qtyp (by decide +kernel) G.fs.fr_tuple (by kernel_rfl))) rfl) (aW (qsf hp.p G (G.qen (by decide +kernel) G.fs.fr_enumerate rfl (G.qsl (G.qvar 0 (by decide +kernel)) (lZ aC) lY)) (G.qtup (qgc (G.qtgt 3 (by decide +kernel)) (qgc (G.qtgt 4 (by decide +kernel)) lX rfl) rfl) rfl rfl) (aW (qse (G.qk1 yU G.mextendW rfl (by decide +kernel) rfl (G.qvar 2 (by decide +kernel)) (G.qcal (by decide +kernel) G.fs.fn_law_places rC rfl rfl (qac (G.qvar 4 (by decide +kernel)) (qac (aQ G.oaddW (G.qvar 1 (by decide +kernel)) (bC (qac (G.qvar 3 (by decide +kernel)) aD rfl))) aD rfl) rfl))) rfl)) rfl)) gF)
  (aW (bO (G.qvar 2 (by decide +kernel))))))
theorem uD : FnScope iL ["_law_root", "_law_spots", "_law_first"] (defScope bV) := ⟨rfl, rfl, rfl, by decide +kernel, rfl, by decide +kernel, by decide +kernel⟩
theorem uE {g : Gx} {k : Nat} {cl : Cll} (X : Cx) (Wx : WX) (G : Good FS g k cl iL (defScope bV) (fun _ => true) X Wx) (hp : HP X) : QL g X Wx (defBody bV) (cP cl) :=
 (aO (bH aIq (G.qtgt 3 (by decide +kernel)) rfl)
  (aO (aIs hp G (fun X Wx G hp => (aW (qse (G.qcal (by decide +kernel) G.fs.fn_with_groups oX rfl rfl (qac (G.qvar 0 (by decide +kernel)) (qac (G.qvar 1 (by decide +kernel)) aD rfl) rfl)) rfl))) (G.qhAs 4 (by decide +kernel) (by decide +kernel) G.fs.ch_GroupingError (fun X G => (aW (bH (G.qvar 4 (by decide +kernel)) (G.qtgt 3 (by decide +kernel)) rfl))) .nil))
  (aO (gO (QW.te (wS (sD (qtv (G.qf2 (by decide +kernel) G.fs.fr_isinstance (by kernel_rfl) rfl (G.cisiX G.fs.kf) rfl (G.qvar 3 (by decide +kernel)) (G.qcls (by decide +kernel) G.fs.cl_NoPlace)) rfl)) (aA7 (qtv (G.qf2 (by decide +kernel) G.fs.fr_isinstance (by kernel_rfl) rfl (G.cisiX G.fs.kf) rfl (G.qvar 3 (by decide +kernel)) (bC (qac (G.qcls (by decide +kernel) G.fs.cl_BadText) (qac (G.qcls (by decide +kernel) G.fs.cl_InUse) (qac (G.qcls (by decide +kernel) G.fs.cl_NoName) aD rfl) rfl) rfl))) rfl)))) (aW (bO qR)) gF)
  (aW (bO (wR G.oeqW (G.qf1 (by decide +kernel) G.fs.fr_repr (by kernel_rfl) rfl G.creprX rfl (G.qfldX G.fs.at_place rfl (G.qvar 3 (by decide +kernel)))) (G.qf1 (by decide +kernel) G.fs.fr_repr (by kernel_rfl) rfl G.creprX rfl (G.qvar 2 (by decide +kernel))) (by rfl)))))))
theorem aBf : FnScope oE ["_law_source_here", "_law_root"] (defScope dN) := ⟨rfl, rfl, rfl, by decide +kernel, rfl, by decide +kernel, by decide +kernel⟩
theorem aBl {g : Gx} {k : Nat} {cl : Cll} (X : Cx) (Wx : WX) (G : Good FS g k cl oE (defScope dN) (fun _ => true) X Wx) (hp : HP X) : QL g X Wx (defBody dN) (gJ cl) :=
 (aO (G.qasgT (bC (qac (G.qcal (by decide +kernel) G.fs.fn_law_places rC rfl rfl (qac (G.qvar 1 (by decide +kernel)) (qac (bC aD) aD rfl) rfl)) (qac (G.qf1 (by decide +kernel) G.fs.fr_repr (by kernel_rfl) rfl G.creprX rfl (G.qvar 1 (by decide +kernel))) aD rfl) rfl)) (G.qtup (qgc (G.qtgt 2 (by decide +kernel)) (qgc (G.qtgt 3 (by decide +kernel)) lX rfl) rfl) rfl rfl) rfl (by kernel_rfl))
  (aO (bH (G.qf1 (by decide +kernel) G.fs.fr_tuple (by kernel_rfl) rfl G.ctupleW rfl (G.qlc [("_law_turn", 5)] [5] (by decide +kernel) (by rfl) (by rfl) rfl (G.qr1 (by decide +kernel) G.fs.fr_range rfl (G.qcal (by decide +kernel) G.fs.fn_law_draw cQ rfl rfl (qac (G.qvar 0 (by decide +kernel)) (qac aC aD rfl) rfl))) (fun X G => (G.qtgt 5 (by decide +kernel))) .nil (fun X G => (G.qcal (by decide +kernel) G.fs.fn_law_pick fB rfl rfl (qac (G.qvar 0 (by decide +kernel)) (qac (G.qvar 2 (by decide +kernel)) aD rfl) rfl))))) (G.qtgt 4 (by decide +kernel)) rfl)
  (aO (qsf hp.p G (G.qsie (bC (qac (bC aD) (qac (G.qf1 (by decide +kernel) G.fs.fr_tuple (by kernel_rfl) rfl G.ctupleW rfl (G.qvar 2 (by decide +kernel))) (qac (G.qvar 4 (by decide +kernel)) (qac (aQ G.oaddW (G.qrev (G.qvar 4 (by decide +kernel))) (G.qvar 4 (by decide +kernel))) (qac (bC (qac (G.qix (G.qvar 2 (by decide +kernel)) (aEd aC) rfl) aD rfl)) aD rfl) rfl) rfl) rfl) rfl))) (G.qtgt 6 (by decide +kernel)) (aO (bH (G.qcal (by decide +kernel) G.fs.fn_law_grouped oW rfl rfl (qac (G.qvar 1 (by decide +kernel)) (qac (G.qvar 6 (by decide +kernel)) (qac (bC aD) aD rfl) rfl) rfl)) (G.qtgt 7 (by decide +kernel)) rfl)
  (aW (gO (cI G.oneW (G.qf1 (by decide +kernel) G.fs.fr_repr (by kernel_rfl) rfl G.creprX rfl (cT (qac (G.qcal (by decide +kernel) G.fs.fn_with_groups oX rfl rfl (qac (G.qvar 1 (by decide +kernel)) (qac (G.qvar 6 (by decide +kernel)) aD rfl) rfl)) (qac (G.qcalK ["chosen", "tree"] [1, 0] (by decide +kernel) G.fs.fn_with_groups tZ rfl rfl rfl (qkc (G.qvar 6 (by decide +kernel)) (qkc (G.qvar 1 (by decide +kernel)) aIr))) aD rfl) rfl))) (G.qf1 (by decide +kernel) G.fs.fr_repr (by kernel_rfl) rfl G.creprX rfl (cT (qac (G.qvar 7 (by decide +kernel)) (qac (G.qvar 7 (by decide +kernel)) aD rfl) rfl))) (by rfl)) (aW (bO qR)) gF))) rfl)
  (aO (bH (cT (qac (aQ G.oaddW (G.qix (G.qvar 2 (by decide +kernel)) (aEd aC) rfl) (bC (qac aC aD rfl))) (qac (bC (qac aC aD rfl)) (qac (bC (qac aC (qac aC (qac aC (qac aC aD rfl) rfl) rfl) rfl)) (qac (aQ G.omulTW (bC (qac aC aD rfl)) aC) aD rfl) rfl) rfl) rfl)) (G.qtgt 8 (by decide +kernel)) rfl)
  (aO (G.qsetLc 8 [("_law_place", 9)] [9] (by decide +kernel) (by decide +kernel) (by decide +kernel) (by rfl) (by rfl) rfl (G.qsie (G.qvar 8 (by decide +kernel))) (fun X G => (G.qtgt 9 (by decide +kernel))) (.one (fun X G => (cI G.oniW (G.qvar 9 (by decide +kernel)) (G.qvar 2 (by decide +kernel)) (by rfl)))) (fun X G => (G.qvar 9 (by decide +kernel))))
  (aO (G.qpar 10 11 (by decide +kernel) (by decide +kernel) (by decide) (qac (G.qcal (by decide +kernel) G.fs.fn_law_pick fB rfl rfl (qac (G.qvar 0 (by decide +kernel)) (qac (G.qvar 8 (by decide +kernel)) aD rfl) rfl)) (qac (G.qcal (by decide +kernel) G.fs.fn_law_pick fB rfl rfl (qac (G.qvar 0 (by decide +kernel)) (qac (G.qvar 8 (by decide +kernel)) aD rfl) rfl)) aD rfl) rfl) (by kernel_rfl))
  (aO (gO (QW.te (wS (sD (qtv (G.qcal (by decide +kernel) G.fs.fn_law_is_refused lJ rfl rfl (qac (G.qvar 1 (by decide +kernel)) (qac (aQ G.oaddW (aQ G.oaddW (aQ G.oaddW (G.qvar 4 (by decide +kernel)) (bC (qac (G.qvar 10 (by decide +kernel)) aD rfl))) (G.qvar 4 (by decide +kernel))) (bC (qac (G.qvar 11 (by decide +kernel)) aD rfl))) (qac (G.qvar 10 (by decide +kernel)) aD rfl) rfl) rfl)) rfl)) (aA7 (sD (qtv (G.qcal (by decide +kernel) G.fs.fn_law_is_refused lJ rfl rfl (qac (G.qvar 1 (by decide +kernel)) (qac (bC (qac (G.qvar 11 (by decide +kernel)) aD rfl)) (qac (G.qvar 11 (by decide +kernel)) aD rfl) rfl) rfl)) rfl))))) (aW (bO qR)) gF)
  (aW (bO (wR G.oeqW (G.qf1 (by decide +kernel) G.fs.fr_repr (by kernel_rfl) rfl G.creprX rfl (G.qvar 1 (by decide +kernel))) (G.qvar 3 (by decide +kernel)) (by rfl)))))))))))
theorem aEk : FnScope zU ["_law_script"] (defScope nX) := ⟨rfl, rfl, rfl, by decide +kernel, rfl, by decide +kernel, by decide +kernel⟩
theorem aEp {g : Gx} {k : Nat} {cl : Cll} (X : Cx) (Wx : WX) (G : Good FS g k cl zU (defScope nX) (fun _ => true) X Wx) (hp : HP X) : QL g X Wx (defBody nX) (wH cl) :=
 (aO (qsf hp.p G (G.qr1 (by decide +kernel) G.fs.fr_range rfl (G.qf2 (by decide +kernel) G.fs.fr_max (by kernel_rfl) rfl G.cmaxW rfl aC (G.qf2 (by decide +kernel) G.fs.fr_min (by kernel_rfl) rfl G.cminW rfl aC (G.qf1 (by decide +kernel) G.fs.fr_len (by kernel_rfl) rfl G.clenW rfl (G.qvar 0 (by decide +kernel)))))) (G.qtgt 1 (by decide +kernel)) (aO (bH (G.qcal (by decide +kernel) G.fs.fn_law_source zG rfl rfl (qac (G.qvar 0 (by decide +kernel)) (qac (G.qvar 1 (by decide +kernel)) aD rfl) rfl)) (G.qtgt 2 (by decide +kernel)) rfl)
  (aO (bH (G.qcal (by decide +kernel) G.fs.fn_law_operators uN rfl rfl (qac (G.qvar 2 (by decide +kernel)) (qac aC aD rfl) rfl)) (G.qtgt 3 (by decide +kernel)) rfl)
  (aW (gO (sD (qtv (G.qf1 (by decide +kernel) G.fs.fr_all (by kernel_rfl) rfl G.callW rfl (G.qlc [("_law_turn", 4)] [4] (by decide +kernel) (by rfl) (by rfl) rfl (G.qr1 (by decide +kernel) G.fs.fr_range rfl aC) (fun X G => (G.qtgt 4 (by decide +kernel))) .nil (fun X G => (G.qcal (by decide +kernel) G.fs.fn_law_right aAi rfl rfl (qac (G.qvar 2 (by decide +kernel)) (qac (G.qcal (by decide +kernel) G.fs.fn_law_tree aBy rfl rfl (qac (G.qvar 2 (by decide +kernel)) (qac (G.qvar 3 (by decide +kernel)) (qac aC (qac aC aD rfl) rfl) rfl) rfl)) aD rfl) rfl))))) rfl)) (aW (bO qR)) gF)))) rfl)
  (aW (bO qR)))
/-- the plain law: what the defs compute is True -/
def aCy : Prop := ∀ ns : List Int, ns.length <= 63 -> ∃ h, aL T 200 wC [.fl (ns.map D.int)] [] = .ok (.bl true) h
end LW
end
section
namespace LW
open PV PySem PySem.Spec PyProof.Rows L2
theorem jD (k : Nat) {h : Hh} {i c : Nat} {n : Int} (e : Sr h i c) (hn : 0 < n) (hn2 : n < 1073741824) (hc : c < 1000000000) :
  ∃ (r : Nat) (h' : Hh), (r : Int) < n /\ Sr h' i (c + 1) /\ Up [i] h h' /\ aL T (k + 1) aZ [.ref i, .int n] h = .ok (.int r) h' := by
 obtain ⟨a, b, d, e, hd, hd2⟩ := e
 have hl := aE e
 have hs : ∀ x, (h.set i x)[i]? = some x := fun x => List.getElem?_set_self hl
 rw [dQ (d := ⟨7, 2, fY⟩) rfl]
 by_cases ha : 0 < a
 ·have z := Int.emod_nonneg a (b := n) (by omega)
  obtain ⟨r, er⟩ := Int.eq_ofNat_of_zero_le z
  refine ⟨r, h.set i (.lst [.int (a / n), .int b, .int d]), by rw [<- er]; exact Int.emod_lt_of_pos _ hn, ⟨_, _, _, hs _, hd, by omega⟩, .set (by simp), ?_⟩
  simp [fY, aV, ixW, asL, asT, atI, ixN, e, ha, hn, hn2, oQ, eC, D.isTl, er]
 ·have m1 : CMul 15485863 (d + 1) := zW (by decide) (by decide)
  have m2 : CMul 32452867 (d + 1) := zW (by decide) (by decide)
  have m3 : CMul 6700417 (d + 1) := zW (by decide) (by decide)
  have m4 : ∀ z : Int, CMul z (b % 7919 + 32452867 * (d + 1) + 29) := fun z => by
   have := Int.emod_nonneg b (b := 7919) (by decide)
   have := Int.emod_lt_of_pos b (b := 7919) (by decide)
   exact zX (by omega) (by omega)
  have m5 : ∀ y z : Int, CMul z (y % 1000003 + 6700417 * (d + 1) + 5) := fun y z => by
   have := Int.emod_nonneg y (b := 1000003) (by decide)
   have := Int.emod_lt_of_pos y (b := 1000003) (by decide)
   exact zX (by omega) (by omega)
  have key : ∃ y : Int, fF (fY (aL T k) (aV 7 [.ref i, .int n]) h) = .ok (.int (y % n)) (h.set i (.lst [.int a, .int b, .int (d + 1)])) := by
   refine ⟨?_, ?e⟩
   case e =>
    simp [fY, aV, ixW, asL, asT, atI, ixN, e, ha, hn, hn2, oQ, eC, D.isTl, m1, m2, m3, m4, m5, hs]
    rfl
  obtain ⟨y, ey⟩ := key
  have z := Int.emod_nonneg y (b := n) (by omega)
  obtain ⟨r, er⟩ := Int.eq_ofNat_of_zero_le z
  refine ⟨r, h.set i (.lst [.int a, .int b, .int (d + 1)]), by rw [<- er]; exact Int.emod_lt_of_pos _ hn, ⟨_, _, _, hs _, by omega, by omega⟩, .set (by simp), ?_⟩
  simp only [List.length_cons, List.length_nil, if_true]
  rw [ey, er]
theorem aHD (k : Nat) {h : Hh} {i j c : Nat} {ws : List D} (e : Sr h i c) (ej : h[j]? = some (.lst ws)) (hij : j ≠ i) (h0 : 0 < ws.length) (h1 : ws.length < 1073741824) (hc : c < 1000000000) :
  ∃ (r : Nat) (h' : Hh) (hr : r < ws.length), Sr h' i (c + 1) /\ Up [i] h h' /\ aL T (k + 2) bA [.ref i, .ref j] h = .ok ws[r] h' := by
 obtain ⟨r, h', r1, es, u, ed⟩ := jD k (n := (ws.length : Int)) e (by omega) (by omega) hc
 have hlt : r < ws.length := by omega
 refine ⟨r, h', hlt, es, u, ?_⟩
 rw [dQ (d := ⟨2, 2, eQ⟩) rfl]
 have e2 : h'[j]? = some (.lst ws) := u.get ej (by simpa using hij)
 have e3 : ixW (.ref j) (.int (r : Int)) h' = .ok ws[r] h' := mQ e2 (by simp [List.getElem?_eq_getElem hlt])
 simp [eQ, aV, uX ej, ed, e3, u.len]
/-- a pick from a list just written -/
theorem wK (k : Nat) {h : Hh} {i c : Nat} {ws : List D} (e : Sr h i c) (h0 : 0 < ws.length) (h1 : ws.length < 1073741824) (hc : c < 1000000000) (hw : ∀ w ∈ ws, ∀ n, w.lim n = true) :
  ∃ (w : D) (h' : Hh), w ∈ ws /\ Sr h' i (c + 1) /\ Up [i] h h' /\ gcR h (aL T (k + 2) bA [.ref i, .ref h.length] (h ++ [.lst ws])) = .ok w h' := by
 obtain ⟨r, h', hr, es, u, ep⟩ := aHD k (j := h.length) (ws := ws) (e.app (e := [.lst ws])) aEJ (by have := e.lt; omega) h0 h1 hc
 refine ⟨ws[r], h'.take h.length, List.getElem_mem hr, es.cut e.lt, u.cut, ?_⟩
 rw [ep, aGw u es (hw _ (List.getElem_mem hr) _)]
end LW
end
section
namespace LW
open PV PySem PySem.Spec PyProof.Rows L2
theorem aGp (k : Nat) {h : Hh} {i p c n : Nat} {pool : List Str} (e : Sr h i c) (ep : h[p]? = some (.lst (pool.map .str))) (hip : p ≠ i) (hn : n <= pool.length) (hl : pool.length < 1000000) (hc : c + n < 1000000000) :
  ∃ (ws pool' : List Str) (h' : Hh), ws.length = n /\ pool.Perm (ws ++ pool') /\ Sr h' i (c + n) /\ h'[p]? = some (.lst (pool'.map .str)) /\ Up [i, p] h h' /\ aL T (k + 2) oN [.ref i, .int n, .ref p] h = .ok (.tup (ws.map .str)) h' := by
 rw [dQ (d := ⟨4, 3, hX⟩) rfl]
 have hlt := aE ep
 obtain ⟨acc, h', e1, hlen, ws, pool', rfl, hw, hp, hs, hpc, u⟩ := aDW (mi := gM (mV 1)) (t := .nm 3) (me := mM1 (on1 "list" kP) (mV 2) (aK (aL T (k + 1)) aZ (aA [mV 0, mF1 cR (mV 2)]))) (vs := [3]) (σ := [some (.ref i), some (.int n), some (.ref p), none]) (h := h) (h1 := h) (src := jZ 0 n) (ws := (List.range n).map fun (i : Nat) => D.int (0 + (i : Nat)))
  (fun j acc h' => ∃ ws pool', acc = ws.map D.str /\ ws.length = j /\ pool.Perm (ws ++ pool') /\ Sr h' i (c + j) /\ h'[p]? = some (.lst (pool'.map .str)) /\ Up [i, p] h h') (qK (by simp) (by omega)) (fun j acc h' _ => tS j) (by simp [sizeLine]; omega)
  ⟨[], pool, rfl, rfl, .refl _, e, ep, .rfl'⟩ (by
   rintro j w acc h' ⟨ws, pool', rfl, hw, hp, hs, hpc, u⟩ _ ej
   have hj := aE ej
   simp at hj
   have hll := hp.length_eq
   simp only [List.length_append] at hll
   obtain ⟨r, h2, r1, es, u2, ed⟩ := jD k (n := (pool'.length : Int)) hs (by omega) (by omega) (by omega)
   have hr : r < pool'.length := by omega
   have e2 : h2[p]? = some (.lst (pool'.map .str)) := u2.get hpc (by simpa using hip)
   have hp2 := aE e2
   refine ⟨_, .str pool'[r], h2.set p (.lst ((pool'.eraseIdx r).map .str)), rfl, ?_, ws ++ [pool'[r]], pool'.eraseIdx r, by simp, by simp [hw], ?_, ?_, jA hp2, ?_⟩
   ·rw [aF1 (p := p) (ws := pool'.map .str) (h1 := h') (by simp [eF]) hpc]
    have := yZ (r := r) e2 (by simpa using hr) (by simp; omega)
    simp [eF, uX hpc, ed, u2.len, this, kZ]
   ·refine hp.trans ?_
    rw [List.append_assoc]
    exact (pZ hr).append_left ws
   ·exact (es.up (Up.set (is := [p]) (by simp)) (by simpa using fun z => hip z.symm)).mono (by omega)
   ·exact u.trans ((u2.mono (by simp)).trans (.set (by simp)))
   )
 refine ⟨ws, pool', h', hw.trans (by simp), hp, by simpa using hs, hpc, u, ?_⟩
 simp [hX, aV, e1]
end LW
end
section
namespace LW
open PV PySem PySem.Spec PyProof.Rows L2
theorem aCE (k : Nat) {h : Hh} {i p s f c : Nat} {pool st fo : List Str} {ops : List Opr} (I : OpI pool (fun b => if b = true then st else fo) ops) (e : Sr h i c) (ep : h[p]? = some (.lst (pool.map .str))) (es : h[s]? = some (.lst (st.map .str))) (ef : h[f]? = some (.lst (fo.map .str)))
  (hd : [i, p, s, f].Nodup) (hl : 3 <= pool.length) (hl2 : pool.length < 1000) (hst : st.length < 1000) (hfo : fo.length < 1000) (hc : c + 7 < 1000000000) :
  ∃ (o : Opr) (pool' st' fo' : List Str) (h' : Hh), OpI pool' (fun b => if b = true then st' else fo') (ops ++ [o]) /\ pool.length <= pool'.length + 3 /\ pool'.length <= pool.length /\ st'.length <= st.length + 1 /\ fo'.length <= fo.length + 1 /\ Sr h' i (c + 7) /\ h'[p]? = some (.lst (pool'.map .str)) /\ h'[s]? = some (.lst (st'.map .str)) /\ h'[f]? = some (.lst (fo'.map .str)) /\ Up [i, p, s, f] h h' /\ aL T (k + 3) fO [.ref i, .ref p, .ref s, .ref f] h = .ok o.enc h' := by
 obtain ⟨hip, his, hif, hps, hpf, hsf⟩ : i ≠ p /\ i ≠ s /\ i ≠ f /\ p ≠ s /\ p ≠ f /\ s ≠ f := by simpa [and_assoc] using hd
 rw [dQ (d := ⟨8, 4, cH⟩) rfl]
 -- the kind
 obtain ⟨w1, h1, hw1, e1, u1, q1⟩ := wK k (ws := [.str "infix", .str "infix", .str "infix", .str "prefix", .str "prefix", .str "postfix", .str "closed"]) e (by decide) (by decide) (by omega) (fun w hw n => by
  simp at hw; rcases hw with rfl | rfl | rfl | rfl <;> rfl)
 obtain ⟨kd, rfl, hkd⟩ : ∃ kd, w1 = D.str kd /\ kd ∈ kinds := by
  simp at hw1; rcases hw1 with rfl | rfl | rfl | rfl
  ·exact ⟨_, rfl, by decide +kernel⟩
  ·exact ⟨_, rfl, by decide +kernel⟩
  ·exact ⟨_, rfl, by decide +kernel⟩
  ·exact ⟨_, rfl, by decide +kernel⟩
 have ep1 := u1.get ep (by simpa using fun z => hip z.symm)
 have es1 := u1.get es (by simpa using fun z => his z.symm)
 have ef1 := u1.get ef (by simpa using fun z => hif z.symm)
 -- how many words
 have heq : ∀ h, eqW (.str kd) (.str "closed") h = .ok (.bl (decide (kd = "closed"))) h := fun h => tA
 generalize hcb : decide (kd = "closed") = cb at heq
 obtain ⟨n, h2, hn1, hn3, hn2, e2, u2, q2⟩ : ∃ (n : Nat) (h2 : Hh), 1 <= n /\ n <= 3 /\ (kd = "closed" -> 2 <= n) /\ Sr h2 i (c + 2) /\ Up [i] h1 h2 /\ (if cb = true then gcR h1 (aL T (k + 2) bA [.ref i, .ref h1.length] (h1 ++ [.lst [.int 2, .int 2, .int 3]])) else gcR h1 (aL T (k + 2) bA [.ref i, .ref h1.length] (h1 ++ [.lst [.int 1, .int 1, .int 1, .int 1, .int 2, .int 3]]))) = .ok (.int n) h2 := by
  by_cases hk : cb = true
  ·obtain ⟨w, h2, hw, e2, u2, q2⟩ := wK k (ws := [.int 2, .int 2, .int 3]) e1 (by decide) (by decide) (by omega) (fun w hw n => by
    simp at hw; rcases hw with rfl | rfl <;> rfl)
   simp at hw
   rcases hw with rfl | rfl
   ·exact ⟨2, h2, by omega, by omega, fun _ => by omega, e2, u2, by rw [if_pos hk]; exact q2⟩
   ·exact ⟨3, h2, by omega, by omega, fun _ => by omega, e2, u2, by rw [if_pos hk]; exact q2⟩
  ·obtain ⟨w, h2, hw, e2, u2, q2⟩ := wK k (ws := [.int 1, .int 1, .int 1, .int 1, .int 2, .int 3]) e1 (by decide) (by decide) (by omega) (fun w hw n => by
    simp at hw; rcases hw with rfl | rfl | rfl <;> rfl)
   simp at hw
   rcases hw with rfl | rfl | rfl
   ·exact ⟨1, h2, by omega, by omega, fun z => absurd (by rw [<- hcb, z]; exact decide_eq_true rfl) hk, e2, u2, by rw [if_neg hk]; exact q2⟩
   ·exact ⟨2, h2, by omega, by omega, fun z => absurd (by rw [<- hcb, z]; exact decide_eq_true rfl) hk, e2, u2, by rw [if_neg hk]; exact q2⟩
   ·exact ⟨3, h2, by omega, by omega, fun z => absurd (by rw [<- hcb, z]; exact decide_eq_true rfl) hk, e2, u2, by rw [if_neg hk]; exact q2⟩
 have ep2 := u2.get ep1 (by simpa using fun z => hip z.symm)
 have es2 := u2.get es1 (by simpa using fun z => his z.symm)
 have ef2 := u2.get ef1 (by simpa using fun z => hif z.symm)
 -- the words
 obtain ⟨ws, pool', h3, hwl, pm, e3, ep3, u3, q3⟩ := aGp k (n := n) e2 ep2 (fun z => hip z.symm) (by omega) (by omega) (by omega)
 have es3 := u3.get es2 (by simpa using ⟨fun z => his z.symm, fun z => hps z.symm⟩)
 have ef3 := u3.get ef2 (by simpa using ⟨fun z => hif z.symm, fun z => hpf z.symm⟩)
 have pl := pm.length_eq
 rw [List.length_append] at pl
 obtain ⟨x, r, rfl⟩ : ∃ x r, ws = x :: r := by
  cases ws with
  | nil => simp at hwl; omega
  | cons x r => exact ⟨x, r, rfl⟩
 have q3' := iS u3 (w := .tup ((x :: r).map .str)) (by simp)
 simp only [List.map_cons] at q3 q3'
 have hin : ∀ h3, _ := fun h3 => uU (h := h3) (x := kd) (ss := [("prefix" : Str), "closed"]) (qD kd hkd) (by decide +kernel)
 simp only [List.map_cons, List.map_nil] at hin
 have wi := (I.split pm).2.2.2.1
 have pw0 : ∀ y ∈ x :: r, y ∈ nR := fun y hy => y0 (I.p0 y (wi y hy))
 have sto : ∀ y ∈ st, y ∈ nR := fun y hy => by
  obtain ⟨o, ho, hw⟩ := kF (I.si true y (by simpa using hy)); exact (I.oo.ok o ho).w0 y hw
 have foo : ∀ y ∈ fo, y ∈ nR := fun y hy => by
  obtain ⟨o, ho, hw⟩ := kF (I.si false y (by simpa using hy)); exact (I.oo.ok o ho).w0 y hw
 generalize hS : decide (kd ∈ [("prefix" : Str), "closed"]) = S at hin
 have okO : ∀ y, y ∈ nR -> OprOk ⟨kd, y :: r⟩ := fun y hy => ⟨hkd, by simp, by simp at hwl ⊢; omega, fun z => by have := hn2 z; simp at hwl ⊢; omega, fun z hz => by
  rcases List.mem_cons.mp hz with hz | hz
  ·rw [hz]; exact hy
  ·exact pw0 z (by simp [hz])⟩
 have SS : ∀ y, Opr.S ⟨kd, y :: r⟩ = S := fun y => hS
 -- the words of the other role
 obtain ⟨g, shl, hg, esh, shok, hgi, hgp⟩ : ∃ (g : Nat) (shl : List Str), g = (if S = true then f else s) /\ h3[g]? = some (.lst (shl.map .str)) /\ shl = (if S = true then fo else st) /\ g ≠ i /\ g ≠ p := by
  cases S
  ·exact ⟨s, st, rfl, es3, rfl, fun z => his z.symm, fun z => hps z.symm⟩
  ·exact ⟨f, fo, rfl, ef3, rfl, fun z => hif z.symm, fun z => hpf z.symm⟩
 have sh0 : ∀ y ∈ shl, y ∈ nR := by rw [shok]; split <;> assumption
 have hne := aGI esh fun y hy => aAV y (sh0 y hy)
 have shl2 : shl.length < 1000 := by rw [shok]; split <;> assumption
 have hp' : p ∉ [i] := by simpa using fun z => hip z.symm
 have u03 : Up [i, p, s, f] h h3 := (u1.mono (by simp)).trans ((u2.mono (by simp)).trans (u3.mono (by simp)))
 have app : ∀ h4, Sr h4 i (c + 7) -> h4[p]? = some (.lst (pool'.map .str)) -> h4[s]? = some (.lst (st.map .str)) -> h4[f]? = some (.lst (fo.map .str)) -> Up [i, p, s, f] h h4 ->
   ∃ (st' fo' : List Str) (h' : Hh), OpI pool' (fun b => if b = true then st' else fo') (ops ++ [⟨kd, x :: r⟩]) /\ st'.length <= st.length + 1 /\ fo'.length <= fo.length + 1 /\ Sr h' i (c + 7) /\ h'[p]? = some (.lst (pool'.map .str)) /\ h'[s]? = some (.lst (st'.map .str)) /\ h'[f]? = some (.lst (fo'.map .str)) /\ Up [i, p, s, f] h h' /\ (if S = true then gG (.ref s) (.str x) h4 else gG (.ref f) (.str x) h4) = .ok .non h' := by
  intro h4 e4 ep4 es4 ef4 u4
  have I4 := I.add pm (okO x (pw0 x (by simp)))
  rw [SS x] at I4
  cases S with
  | true =>
   refine ⟨st ++ [x], fo, h4.set s (.lst ((st ++ [x]).map .str)), ?_, by simp, by simp, e4.up (Up.set (is := [s]) (by simp)) (by simpa using his), by rw [dH (fun z => hps z.symm)]; exact ep4, jA (aE es4), by rw [dH hsf]; exact ef4, u4.trans (.set (by simp)), ?_⟩
   ·exact I4.congr fun b => by cases b <;> rfl
   ·rw [if_pos rfl, pR es4 (by simp [sizeLine]; omega) rfl]
    simp
  | false =>
   refine ⟨st, fo ++ [x], h4.set f (.lst ((fo ++ [x]).map .str)), ?_, by simp, by simp, e4.up (Up.set (is := [f]) (by simp)) (by simpa using hif), by rw [dH (fun z => hpf z.symm)]; exact ep4, by rw [dH (fun z => hsf z.symm)]; exact es4, jA (aE ef4), u4.trans (.set (by simp)), ?_⟩
   ·exact I4.congr fun b => by cases b <;> rfl
   ·rw [if_neg (by simp), pR ef4 (by simp [sizeLine]; omega) rfl]
    simp
 have hgi' : ∀ h : Hh, (if S = true then R.ok (D.ref f) h else R.ok (D.ref s) h) = R.ok (D.ref g) h := fun h => by rw [hg]; cases S <;> rfl
 by_cases hemp : shl = []
 ·obtain ⟨st', fo', h', I', l1, l2, e', ep', es', ef', u', q'⟩ := app h3 (e3.mono (by omega)) ep3 es3 ef3 u03
  refine ⟨⟨kd, x :: r⟩, pool', st', fo', h', I', by simp at pl hwl; omega, by omega, l1, l2, e', ep', es', ef', u', ?_⟩
  have tm : tyM h3 (.ref s) = some "list" := mE es3
  have tf : tyM h3 (.ref f) = some "list" := mE ef3
  simp [-tA, cH, aV, heq, q1, q2, q3, q3', hin, hne, hemp, hgi']
  cases S
  ·simp at q'
   simp [q', tf, Opr.enc]
  ·simp at q'
   simp [q', tm, Opr.enc]
 ·obtain ⟨d4, h4, hd4, e4, u4, q4⟩ := jD (k + 1) (n := 4) e3 (by decide) (by decide) (by omega)
  have ep4 := u4.get ep3 hp'
  have es4 := u4.get es3 (by simpa using fun z => his z.symm)
  have ef4 := u4.get ef3 (by simpa using fun z => hif z.symm)
  have u04 : Up [i, p, s, f] h h4 := u03.trans (u4.mono (by simp))
  have q4' := iS u4 (w := .int d4) (by simp)
  have heq2 : ∀ h, eqW (.int d4) (.int 0) h = .ok (.bl (decide (d4 = 0))) h := fun h => by rw [lQ]; simp
  generalize hz : decide (d4 = 0) = z4 at heq2
  cases z4 with
  | false =>
   obtain ⟨st', fo', h', I', l1, l2, e', ep', es', ef', u', q'⟩ := app h4 (e4.mono (by omega)) ep4 es4 ef4 u04
   refine ⟨⟨kd, x :: r⟩, pool', st', fo', h', I', by simp at pl hwl; omega, by omega, l1, l2, e', ep', es', ef', u', ?_⟩
   have tm : tyM h4 (.ref s) = some "list" := mE es4
   have tf : tyM h4 (.ref f) = some "list" := mE ef4
   simp [-tA, cH, aV, heq, q1, q2, q3, q3', hin, hne, hemp, hgi', q4, q4', heq2]
   cases S
   ·simp at q'
    simp [q', tf, Opr.enc, hin]
   ·simp at q'
    simp [q', tm, Opr.enc, hin]
  | true =>
   have sh4 := u4.get esh (by simpa using hgi)
   obtain ⟨d5, h5, hd5, e5, u5, q5⟩ := jD (k + 1) (n := (shl.length : Int)) e4 (by have := List.length_pos_iff.mpr hemp; omega) (by omega) (by omega)
   have hd5' : d5 < shl.length := by omega
   have sh5 := u5.get sh4 (by simpa using hgi)
   have q5' := iS u5 (w := .int d5) (by simp)
   have pq := yZ (r := d5) sh5 (by simpa using hd5') (by simp; omega)
   have tg : tyM h4 (.ref g) = some "list" := mE sh4
   have I5 := I.share (x := shl[d5]) (z := x) (rest := shl.eraseIdx d5) pm (okO _ (sh0 _ (List.getElem_mem _))) (by
    rw [SS]
    have e0 : (if (!S) = true then st else fo) = shl := by rw [shok]; cases S <;> rfl
    show (if (!S) = true then st else fo).Perm _
    rw [e0]
    exact pZ hd5')
   rw [SS] at I5
   have hin5 : ∀ h3, inW (D.str kd) (D.tup [D.str "prefix", D.str "closed"]) h3 = R.ok (D.bl S) h3 := hin
   have fin : aL T (k + 3) fO [.ref i, .ref p, .ref s, .ref f] h = .ok (Opr.enc ⟨kd, shl[d5] :: r⟩) (h5.set g (.lst ((shl.eraseIdx d5).map .str))) := by
    rw [dQ (d := ⟨8, 4, cH⟩) rfl]
    simp [-tA, cH, aV, heq, q1, q2, q3, q3', hin, hne, hemp, hgi', q4, q4', heq2, tg, q5, q5', uX sh4, pq, kZ]
    have hr3 : r.length <= 3 := by simp at hwl; omega
    simp [aKp, aEI (xs := [D.str shl[d5]]) (ys := r.map .str) (by simp; omega), Opr.enc]
   have g5 : g = s \/ g = f := by rw [hg]; cases S <;> simp
   have u05 : Up [i, p, s, f] h (h5.set g (.lst ((shl.eraseIdx d5).map .str))) := u04.trans ((u5.mono (by simp)).trans (.set (by rcases g5 with z | z <;> simp [z])))
   have e5' : Sr (h5.set g (.lst ((shl.eraseIdx d5).map .str))) i (c + 7) := (e5.up (Up.set (is := [g]) (by simp)) (by simpa using fun z => hgi z.symm)).mono (by omega)
   have ep5 := u5.get ep4 hp'
   have es5 := u5.get es4 (by simpa using fun z => his z.symm)
   have ef5 := u5.get ef4 (by simpa using fun z => hif z.symm)
   have ll : (shl.eraseIdx d5).length <= shl.length := by rw [List.length_eraseIdx]; split <;> omega
   cases S with
   | true =>
    have hg' : g = f := hg
    have sk' : shl = fo := shok
    refine ⟨⟨kd, shl[d5] :: r⟩, pool', st, shl.eraseIdx d5, _, ?_, by simp at pl hwl; omega, by omega, by omega, by rw [<- sk']; omega, e5', ?_, ?_, ?_, u05, fin⟩
    ·exact I5.congr fun b => by cases b <;> rfl
    ·rw [dH hgp]; exact ep5
    ·rw [hg', dH (fun z => hsf z.symm)]; exact es5
    ·rw [<- hg']; exact jA (aE sh5)
   | false =>
    have hg' : g = s := hg
    have sk' : shl = st := shok
    refine ⟨⟨kd, shl[d5] :: r⟩, pool', shl.eraseIdx d5, fo, _, ?_, by simp at pl hwl; omega, by omega, by rw [<- sk']; omega, by omega, e5', ?_, ?_, ?_, u05, fin⟩
    ·exact I5.congr fun b => by cases b <;> rfl
    ·rw [dH hgp]; exact ep5
    ·rw [<- hg']; exact jA (aE sh5)
    ·rw [hg', dH hsf]; exact ef5
end LW
end
section
namespace LW
open PV PySem PySem.Spec PyProof.Rows L2
theorem aAk (k : Nat) {h : Hh} {i c most : Nat} (e : Sr h i c) (hm : most <= 12) (hc : c + 100 < 1000000000) :
  ∃ (ops : List Opr) (h' : Hh), (∀ o ∈ ops, ∀ x ∈ o.words, x ∈ gZ) /\ OpsOk ops /\ ops.length <= most /\ Sr h' i (c + 100) /\ Ux [i] h h' /\ aL T (k + 4) bZ [.ref i, .int most] h = .ok (.tup (ops.map Opr.enc)) h' := by
 rw [dQ (d := ⟨6, 2, eP⟩) rfl]
 have el := e.lt
 generalize hB : h ++ [Cl.lst (((iD ++ iE) ++ lO).map .str), .lst (gZ.map .str), .lst [], .lst []] = B
 have lB : B.length = h.length + 4 := by rw [<- hB]; simp
 have eB : Sr B i c := by rw [<- hB]; exact e.app
 have eBp : B[h.length + 1]? = some (.lst (gZ.map .str)) := by rw [<- hB]; exact aEK
 have eBs : B[h.length + 2]? = some (.lst []) := by rw [<- hB]; exact aDu
 have eBf : B[h.length + 3]? = some (.lst []) := by rw [<- hB]; simp [List.getElem?_append_right]
 obtain ⟨n, h1, hn, e1, u1, q1⟩ := jD (k + 2) (n := (most : Int) + 1) eB (by omega) (by omega) (by omega)
 have q1' := iS u1 (w := .int n) (by simp)
 have ep1 := u1.get eBp (by simp; omega)
 have es1 := u1.get eBs (by simp; omega)
 have ef1 := u1.get eBf (by simp; omega)
 have l1 := u1.len
 obtain ⟨acc, h2, q2, hlen, ops, pool, st, fo, rfl, hol, I, hpl, hpl2, hst, hfo, e2, ep2, es2, ef2, u2⟩ := aDW (mi := gM (aK (aL T (k + 3)) aZ (aA [(mV 0), (mOp bM (mV 1) (mC (.int 1)))]))) (t := .nm 5) (me := aK (aL T (k + 3)) fO (aA [(mV 0), (mV 2), (mV 3), (mV 4)])) (vs := [5])
  (σ := [some (.ref i), some (.int most), some (.ref (h.length + 1)), some (.ref (h.length + 2)), some (.ref (h.length + 3)), none]) (h := B) (h1 := h1) (src := jZ 0 n) (ws := (List.range n).map fun (i : Nat) => D.int (0 + (i : Nat)))
  (fun j acc h' => ∃ ops pool st fo, acc = ops.map Opr.enc /\ ops.length = j /\ OpI pool (fun b => if b = true then st else fo) ops /\ 44 <= pool.length + 3 * j /\ pool.length <= 44 /\ st.length <= j /\ fo.length <= j /\ Sr h' i (c + 1 + 7 * j) /\ h'[h.length + 1]? = some (.lst (pool.map .str)) /\ h'[h.length + 2]? = some (.lst (st.map .str)) /\ h'[h.length + 3]? = some (.lst (fo.map .str)) /\ Up [i, h.length + 1, h.length + 2, h.length + 3] h1 h')
  (qK (by simp [q1, q1']) (by omega)) (fun j acc h' _ => tS j) (by simp only [List.length_map, List.length_range]; exact szl (by omega))
  ⟨[], gZ, [], [], rfl, rfl, OpI.start.congr fun b => by cases b <;> rfl, by decide, by decide, by simp, by simp, e1, ep1, es1, ef1, .rfl'⟩ (by
   rintro j w acc h' ⟨ops, pool, st, fo, rfl, hol, I, hpl, hpl2, hst, hfo, e2, ep2, es2, ef2, u2⟩ _ ej
   have hj := aE ej
   simp at hj
   obtain ⟨o, pool', st', fo', h3, I3, hp3, hp3', hst3, hfo3, e3, ep3, es3, ef3, u3, q3⟩ := aCE k I e2 ep2 es2 ef2 (by simp; omega) (by omega) (by omega) (by omega) (by omega) (by omega)
   have q3' := iS u3 (w := o.enc) o.enc_lim
   refine ⟨_, o.enc, h3, rfl, ?_, ops ++ [o], pool', st', fo', by simp, by simp [hol], I3, by omega, by omega, by omega, by omega, e3.mono (by omega), ep3, es3, ef3, u2.trans u3⟩
   simp [eF, q3, q3'])
 simp only [List.length_map, List.length_range] at hol hpl hst hfo e2 q2
 refine ⟨ops, h2, I.wy, I.oo, by omega, e2.mono (by omega), ?_, ?_⟩
 ·have ub : Ux [i] h B := by rw [<- hB]; exact .app
  refine ⟨by have := u2.len; omega, fun j hj hm => ?_⟩
  rw [u2.same j (by simp at hm ⊢; omega), u1.same j hm, ub.same j hj hm]
 ·have elist : ∀ h : Hh, wG (.str "!\u0023$&*+,-./:;<=>?\u0040[]^_{|}~") h = .ok (.tl ((iD ++ iE).map .str)) h := fun h => by rfl
  have a1 : ∀ h : Hh, bM (.tl ((iD ++ iE).map .str)) (.tl [D.str "if", D.str "then", D.str "else", D.str "and", D.str "or", D.str "not", D.str "is", D.str "z9"]) h = .ok (.tl (((iD ++ iE) ++ lO).map .str)) h := fun h => by rfl
  have a2 : ∀ h : Hh, bM (.ref h.length) (.tl [D.str "--", D.str "**", D.str "lengthy8", D.str "of", D.str "in", D.str "to", D.str "by", D.str "=>", D.str "((", D.str "f(", D.str ")x"]) (h ++ [.lst (((iD ++ iE) ++ lO).map .str)]) = .ok (.tl (gZ.map .str)) (h ++ [.lst (((iD ++ iE) ++ lO).map .str)]) := fun h => by
   have eh : (h ++ [Cl.lst (((iD ++ iE) ++ lO).map .str)])[h.length]? = some (Cl.lst (((iD ++ iE) ++ lO).map .str)) := by simp
   have l0 : ((((iD ++ iE) ++ lO).map D.str).length + [D.str "--", D.str "**", D.str "lengthy8", D.str "of", D.str "in", D.str "to", D.str "by", D.str "=>", D.str "((", D.str "f(", D.str ")x"].length <= sizeLine) := sz (by decide)
   simp only [bM, asT, asM, eh, l0, if_true]
   rfl
  generalize (iD ++ iE).map D.str = L1 at elist a1
  generalize ((iD ++ iE) ++ lO).map D.str = L2 at a1 a2 hB
  generalize gZ.map D.str = L3 at a2 hB
  simp [eP, aV, elist, a1, a2, hB, q2]
end LW
end
section
namespace LW
open PV PySem PySem.Spec PyProof.Rows L2
theorem aEN (k : Nat) {h : Hh} {ns : List Int} {j : Nat} (hj : j <= 3) : ∃ a b : Int, aL T (k + 1) jH [.fl (ns.map .int), .int j] h = .ok (.tl [.int a, .int b, .int 0]) h := by
 rw [dQ (d := ⟨4, 2, gQ⟩) rfl]
 obtain ⟨z, hz, ez, y, hy, ey⟩ := aJ5 (h := h)
 have m1 : ∀ x : Int, CMul x 1000003 := fun x => zX (by decide) (by decide)
 have m2 : ∀ x : Int, CMul 7919 x := fun x => zW (by decide) (by decide)
 have m3 : ∀ x : Int, CMul x (j : Int) := fun x => zX (by omega) (by omega)
 obtain ⟨cell, ec⟩ : ∃ cell : Int, (if j < ns.length then ixW (.fl (ns.map .int)) (.int j) h else .ok (.int 0) h) = .ok (.int cell) h := by
  split
  ·rename_i hl
   refine ⟨ns[j], aHW (by simp [hl])⟩
  ·exact ⟨0, rfl⟩
 obtain ⟨ab, eab⟩ : ∃ ab : Int, ∀ h, uK (.int cell) h = .ok (.int ab) h := ⟨_, fun h => rfl⟩
 obtain ⟨d, ed⟩ : ∃ d : Int, (if 1000000000000000000 <= ab then R.ok (D.int (ab % y)) h else .ok (.int 0) h) = .ok (.int d) h := by
  split
  ·exact ⟨_, rfl⟩
  ·exact ⟨_, rfl⟩
 refine ⟨d, (cell % 2305843009213693951 * 1000003 + 7919 * j * j + 97) % 2305843009213693921, ?_⟩
 simp [-aHw, gQ, aV, ec, eab, aJ4, ez, ey, hy, ed, m1, m2, m3]
end LW
end
section
namespace LW
open PV PySem PySem.Spec PyProof.Rows L2
theorem aHC (k : Nat) (o : Opr) (ho : o.kind ∈ kinds) (h : Hh) : aL T (k + 1) iU [o.enc] h = .ok (.tup [.bl o.L, .bl o.Rr]) h := by
 rw [dQ (d := ⟨1, 1, fT⟩) rfl]
 have e := uU (h := h) (x := o.kind) (ss := [("infix" : Str), "postfix"]) (qD _ ho) (by decide +kernel)
 have e2 := uU (h := h) (x := o.kind) (ss := [("infix" : Str), "prefix"]) (qD _ ho) (by decide +kernel)
 have ei : ixW o.enc (.int 0) h = .ok (.str o.kind) h := by simp [Opr.enc]
 simp only [List.map_cons, List.map_nil] at e e2
 simp [fT, aV, ei, e, e2, Opr.L, Opr.Rr]
theorem aEM (k : Nat) (o : Opr) (ho : OprOk o) (h : Hh) : aL T (k + 2) hU [o.enc] h = .ok (.int o.holes) h := by
 rw [dQ (d := ⟨2, 1, dJ⟩) rfl]
 have e1 := aHC k o ho.kd h
 have g1 := xQ (h := h) (h' := h) (w := .tup [.bl o.L, .bl o.Rr]) rfl (by simp)
 have ei : ixW o.enc (.int 1) h = .ok (.tup (o.words.map .str)) h := by simp [Opr.enc]
 have lc := aH4 (mi := miE (aK (aL T (k + 1)) iU (aA [(mV 0)]))) (t := .nm 1) (me := mF1 qB (mV 1)) (vs := [1]) (σ := [some o.enc, none]) (h := h) (h1 := h) (src := vQ [.bl o.L, .bl o.Rr]) (ws := [.bl o.L, .bl o.Rr]) (fun w => match w with | .bl b => .int (if b then 1 else 0) | w => w)
  (by simp [miE, e1, g1, nZ, asT]) (fun j => rfl) (by simp; exact szl (by omega)) (fun w hw => by
   simp at hw
   rcases hw with rfl | rfl
   ·exact ⟨_, rfl, by simp [eF], rfl⟩
   ·exact ⟨_, rfl, by simp [eF], rfl⟩)
 simp only [List.map_cons, List.map_nil] at lc
 have l1 := ho.l1
 have es : ∀ a b : Int, sK (.tl [.int a, .int b]) h = .ok (.int (a + b)) h := fun a b => by simp [sK, asL, aJ, toI]
 simp only [dJ, aV, List.map_cons, List.map_nil, List.length_cons, List.length_nil, if_true, aE9, aH6, aH5, aLq, aJO, R.bind_ok, ei, aE3, aJc, List.replicate, List.cons_append, List.nil_append, Nat.reduceAdd, Nat.reduceSub, List.length_map]
 erw [lc]
 simp only [R.bind_ok, es, aHx, R.then_ok, aFg, Opr.holes]
 congr 2
 split <;> split <;> omega
end LW
end
section
namespace LW
open PV PySem PySem.Spec PyProof.Rows L2
def gD (cl : Cll) : MS :=
 (aM (fE (lA (mB (mOp eqW (mV 1) (bE (aA [])))) (lA (mB (mOp leW (mOp ixW (mV 2) (mC (.int 0))) (mC (.int 0)))) (lA (mB (mOp eqW (mV 3) (mC (.int 0)))) (mB (mOp eqW (aK cl aZ (aA [(mV 0), (mC (.int 4))])) (mC (.int 0))))))) (bF (aK cl bA (aA [(mV 0), (dW (aA [(mC (.str "a")), (mC (.str "b")), (mC (.str "x1")), (mC (.str "7")), (mC (.str "abcdefgh"))]))]))) dF)
  (aM (kI (mOp kB (mOp ixW (mV 2) (mC (.int 0))) (mC (.int 1))) (mV 2) (mC (.int 0)))
  (aM (aS (.tu [(.nm 4), (.nm 5)]) (bE (aA [(aK cl aZ (aA [(mV 0), (mF1 cR (mV 1))])), (dW (aA []))])))
  (aM (fJ (gM (aK cl hU (aA [(mOp ixW (mV 1) (mV 4))]))) (.nm 6) (iA cl))
  (bF (mOp bM (bE (aA [(mV 4)])) (mF1 cK (mV 5))))))))
def lS (cl : Cll) : MS := (fE (nM (mB (mOp gtW (mOp ixW (mV 2) (mC (.int 1))) (mC (.int 0)))) (nM (mB (mOp gtW (mV 3) (mC (.int 0)))) (mB (mOp eqW (aK cl aZ (aA [(mV 0), (mC (.int 6))])) (mC (.int 0)))))) (aM (kI (mOp kB (mOp ixW (mV 2) (mC (.int 1))) (mC (.int 1))) (mV 2) (mC (.int 1)))
  (bF (bE (aA [(mC (.str "(")), (aK cl fC (aA [(mV 0), (mV 1), (mV 2), (mOp kB (mV 3) (mC (.int 1)))]))])))) dF)
theorem hO (cl : Cll) : gI cl = aM (lS cl) (gD cl) := rfl
abbrev idp (s : Str) : Prop := s ∈ hV
theorem aAb {ops : List Opr} {s : Str} {a b : Nat} (h : s ∈ hV) : (Tr.leaf s).okG ops a b := ⟨h, by simp [Tr.nds], by simp [Tr.grs]⟩
/-- what one call of grown does -/
def sT (ops : List Opr) (d m : Nat) : Prop := ∀ ⦃h : Hh⦄ ⦃i q c N G : Nat⦄, Sr h i c -> h[q]? = some (.lst [.int N, .int G]) -> i ≠ q -> c + 3 * (1 + G + 4 * N) < 1000000000 ->
 ∃ (t : Tr) (N' G' : Nat) (h' : Hh), N' <= N /\ G' <= G /\ t.okG ops (N - N') (G - G') /\ t.depth <= d /\ Sr h' i (c + 3 * (1 + (G - G') + 4 * (N - N'))) /\ h'[q]? = some (.lst [.int N', .int G']) /\ Ux [i, q] h h' /\ aL T m fC [.ref i, .tup (ops.map Opr.enc), .ref q, .int d] h = .ok t.enc h'
theorem wN (k : Nat) {h : Hh} {i c : Nat} (e : Sr h i c) (hc : c < 1000000000) : ∃ s h', s ∈ hV /\ Sr h' i (c + 1) /\ Up [i] h h' /\ gcR h (aL T (k + 2) bA [.ref i, .ref h.length] (h ++ [.lst [.str "a", .str "b", .str "x1", .str "7", .str "abcdefgh"]])) = .ok (.str s) h' := by
 obtain ⟨w, h', hw, e', u, q⟩ := wK k (ws := [.str "a", .str "b", .str "x1", .str "7", .str "abcdefgh"]) e (by decide) (by decide) hc (fun w hw n => by
  simp at hw; rcases hw with rfl | rfl | rfl | rfl | rfl <;> rfl)
 simp only [List.mem_cons, List.not_mem_nil, or_false] at hw
 rcases hw with rfl | rfl | rfl | rfl | rfl
 ·exact ⟨_, h', by decide +kernel, e', u, q⟩
 ·exact ⟨_, h', by decide +kernel, e', u, q⟩
 ·exact ⟨_, h', by decide +kernel, e', u, q⟩
 ·exact ⟨_, h', by decide +kernel, e', u, q⟩
 ·exact ⟨_, h', by decide +kernel, e', u, q⟩
/-- a leaf -/
theorem qA (k : Nat) {ops : List Opr} (O : OpsOk ops) {d : Nat} {h : Hh} {i q c N G : Nat} (e : Sr h i c) (eq : h[q]? = some (.lst [.int N, .int G])) (hiq : i ≠ q) (hc : c + 2 < 1000000000) (hz : ops = [] \/ N = 0 \/ d = 0) :
  ∃ s h', s ∈ hV /\ Sr h' i (c + 2) /\ h'[q]? = some (.lst [.int N, .int G]) /\ Up [i, q] h h' /\ gD (aL T (k + 2)) [some (.ref i), some (.tup (ops.map Opr.enc)), some (.ref q), some (.int d), none, none, none] h = .ret (.str s) h' := by
 obtain ⟨s, h', hs, e', u, qp⟩ := wN k e (by omega)
 refine ⟨s, h', hs, e'.mono (by omega), u.get eq (by simpa using fun z => hiq z.symm), u.mono (by simp), ?_⟩
 have e0 := aAs (h := h) O
 have ix : ixW (.ref q) (.int 0) h = .ok (.int N) h := mQ (n := 0) eq rfl
 have ed : eqW (.int (d : Int)) (.int 0) h = .ok (.bl (decide (d = 0))) h := by rw [lQ]; congr 2; simp
 rcases hz with hz | hz | hz
 ·subst hz
  simp at e0
  simp [gD, e0, qp]
 ·subst hz
  cases ho : ops.isEmpty <;> simp [gD, e0, ho, ix, qp]
 ·subst hz
  simp only [decide_true] at ed
  have hN : ¬ (N = 0) \/ N = 0 := by omega
  cases ho : ops.isEmpty
  ·rcases hN with hN | hN
   ·simp [gD, e0, ho, ix, qp, lQ, hN]
   ·simp [gD, e0, ho, ix, qp, hN]
  ·simp [gD, e0, ho, ix, qp]
/-- a node or a leaf, in the middle of the body -/
theorem aCP (k : Nat) {ops : List Opr} (O : OpsOk ops) (hol : ops.length <= 12) {d : Nat} (ih : sT ops d (k + 2)) {h : Hh} {i q c N G : Nat} (e : Sr h i c) (eq : h[q]? = some (.lst [.int (N + 1 : Nat), .int G])) (hiq : i ≠ q) (hne : ops ≠ []) (hc : c + 2 + 3 * (G + 4 * (N + 1)) < 1000000000) :
  ∃ (t : Tr) (N' G' : Nat) (h' : Hh), N' <= N + 1 /\ G' <= G /\ t.okG ops (N + 1 - N') (G - G') /\ t.depth <= d + 1 /\ Sr h' i (c + 2 + 3 * ((G - G') + 4 * (N + 1 - N'))) /\ h'[q]? = some (.lst [.int N', .int G']) /\ Ux [i, q] h h' /\ gD (aL T (k + 2)) [some (.ref i), some (.tup (ops.map Opr.enc)), some (.ref q), some (.int (d + 1 : Nat)), none, none, none] h = .ret t.enc h' := by
 have e0 := aAs (h := h) O
 have ho : ops.isEmpty = false := by cases ops <;> simp_all
 rw [ho] at e0
 have ix : ixW (.ref q) (.int 0) h = .ok (.int (N + 1 : Nat)) h := mQ (n := 0) eq rfl
 have le0 : leW (.int ((N + 1 : Nat) : Int)) (.int 0) h = .ok (.bl false) h := by rw [aJK]; congr 2
 have ed : eqW (.int ((d + 1 : Nat) : Int)) (.int 0) h = .ok (.bl false) h := by rw [lQ]; congr 2
 obtain ⟨r, h1, hr, e1, u1, q1⟩ := jD (k + 1) (n := 4) e (by decide) (by decide) (by omega)
 have g1 := iS u1 (w := .int r) (by simp)
 have eq1 := u1.get eq (by simpa using fun z => hiq z.symm)
 have er : eqW (.int (r : Int)) (.int 0) h1 = .ok (.bl (decide (r = 0))) h1 := by rw [lQ]; congr 2; simp
 generalize hz : decide (r = 0) = z at er
 generalize hd1 : ((d + 1 : Nat) : Int) = d1 at ed
 generalize hN1 : ((N + 1 : Nat) : Int) = n1 at ix le0 eq1 eq
 cases z with
 | true =>
  obtain ⟨s, h2, hs, e2, u2, q2⟩ := wN k e1 (by omega)
  refine ⟨.leaf s, N + 1, G, h2, by omega, by omega, aAb hs, by simp [Tr.depth], e2.mono (by omega), by rw [hN1]; exact u2.get eq1 (by simpa using fun z => hiq z.symm), ((u1.trans u2).mono (by simp)).ux, ?_⟩
  simp [gD, e0, ix, le0, ed, q1, g1, er, q2, Tr.enc]
 | false =>
  -- the node
  have hlen : 0 < ops.length := List.length_pos_iff.mpr hne
  have l1 := aE eq1
  have set1 : oQ (.ref q) (.int 0) (.int (n1 - 1)) h1 = some (h1.set q (.lst [.int (n1 - 1), .int G])) := by
   simp [oQ, eC, eq1, ixN, D.isTl]
  have ix1 : ixW (.ref q) (.int 0) h1 = .ok (.int n1) h1 := mQ (n := 0) eq1 rfl
  have nn : n1 - 1 = (N : Int) := by omega
  have e2 : Sr (h1.set q (.lst [.int (n1 - 1), .int G])) i (c + 1) := e1.up (Up.set (is := [q]) (by simp)) (by simpa using hiq)
  have eq2 : (h1.set q (.lst [.int (n1 - 1), .int G]))[q]? = some (.lst [.int (N : Nat), .int G]) := by rw [nn]; exact jA l1
  have u2 : Up [i, q] h (h1.set q (.lst [.int (n1 - 1), .int G])) := (u1.mono (by simp)).trans (.set (by simp))
  generalize h1.set q (.lst [.int (n1 - 1), .int G]) = h2 at set1 e2 eq2 u2
  obtain ⟨n, h3, hn, e3, u3, q3⟩ := jD (k + 1) (n := (ops.length : Int)) e2 (by omega) (by omega) (by omega)
  have g3 := iS u3 (w := .int n) (by simp)
  have hn' : n < ops.length := by omega
  obtain ⟨o, eo⟩ : ∃ o, ops[n]? = some o := ⟨_, List.getElem?_eq_getElem hn'⟩
  have ho1 := O.ok o (List.mem_of_getElem? eo)
  have eq3 := u3.get eq2 (by simpa using fun z => hiq z.symm)
  have hh := gP ho1
  have u03 : Up [i, q] h h3 := u2.trans (u3.mono (by simp))
  have l3 := aE eq3
  have li3 := e3.lt
  -- the parts
  have ixn : ∀ h, ixW (.tup (ops.map Opr.enc)) (.int (n : Int)) h = .ok o.enc h := fun h => aHY (by rw [List.getElem?_map, eo]; rfl)
  have hol4 := aEM k o ho1 (h3 ++ [.lst []])
  obtain ⟨σ4, h4, q4, a6, ts, N', G', es, htl, hN', hG', tok, tnd, tgr, tdp, sr4, eq4, ep4, u4⟩ := aE8 (mi := gM (aK (aL T (k + 2)) hU (aA [(mOp ixW (mV 1) (mV 4))]))) (src := jZ 0 o.holes) (t := .nm 6) (b := iA (aL T (k + 2))) (ws := (List.range o.holes).map fun (i : Nat) => D.int (0 + (i : Nat)))
   (σ := [some (.ref i), some (.tup (ops.map Opr.enc)), some (.ref q), some (.int d1), some (.int n), some (.ref h3.length), none]) (h := h3 ++ [.lst []]) (h1 := h3 ++ [.lst []])
   (fun j σ h' => ∃ a6 ts N' G', σ = [some (.ref i), some (.tup (ops.map Opr.enc)), some (.ref q), some (.int d1), some (.int n), some (.ref h3.length), a6] /\ ts.length = j /\ N' <= N /\ G' <= G /\ Tr.oks ops idp ts /\ Tr.ndss ts + N' <= N /\ Tr.grss ts + G' <= G /\ Tr.depths ts <= d /\ Sr h' i (c + 2 + 3 * (j + (G - G') + 4 * (N - N'))) /\ h'[q]? = some (.lst [.int (N' : Nat), .int (G' : Nat)]) /\ h'[h3.length]? = some (.lst (Tr.encs ts)) /\ Up [i, q, h3.length] (h3 ++ [.lst []]) h')
   (qK (n := o.holes) (by simp [ixn, hol4]) (by omega)) (fun j σ h' _ => tS j)
   (by
    rintro j w σ h' ⟨a6, ts, N', G', rfl, htl, hN', hG', tok, tnd, tgr, tdp, sr, eq', ep, u⟩ ej
    have hj := aE ej
    simp at hj
    obtain ⟨t, N2, G2, h5, hN2, hG2, tk, td, sr5, eq5, u5, q5⟩ := ih sr eq' hiq (by omega)
    have lp := aE ep
    obtain ⟨h6, g6, u6, sr6, eq6⟩ := aFX (e := []) (w := t.enc) (by rw [List.append_nil]; exact u5) sr5 eq5 (by simp) (Tr.lim t) sr.lt (aE eq')
    have ep6 := u6.get ep (by simp; omega)
    have dd : d1 - 1 = (d : Int) := by omega
    refine ⟨_, _, h6.set h3.length (.lst (Tr.encs ts ++ [t.enc])), rfl, .inl ?_, some w, ts ++ [t], N2, G2, rfl, by simp [htl], by omega, by omega, aFe tok tk.1, by rw [yV]; have := tk.2.1; omega, by rw [yR]; have := tk.2.2; omega, ?_, ?_, ?_, ?_, ?_⟩
    ·have ap := pR (y := t.enc) ep6 (by rw [aAr]; exact szl (by omega)) pX
     rw [iA, aDZ, aF1 (p := h3.length) (h1 := h') (by simp) ep]
     simp [dd, q5, g6, ap]
    ·rw [iR] at tdp ⊢
     intro x hx
     rcases List.mem_append.mp hx with hx | hx
     ·exact tdp x hx
     ·have : x = t := by simpa using hx
      subst this; exact td
    ·exact (sr6.up (Up.set (is := [h3.length]) (by simp)) (by simp; omega)).mono (by omega)
    ·rw [dH (by omega)]; exact eq6
    ·rw [aDF]; exact jA (aE ep6)
    ·exact u.trans ((u6.mono (by simp)).trans (.set (by simp))))
   ⟨none, [], N, G, rfl, rfl, by omega, by omega, by simp [Tr.oks], by simp [Tr.ndss], by simp [Tr.grss], by simp [Tr.depths], e3.app.mono (by omega), aBV eq3, by simp [Tr.encs], .rfl'⟩ (by simp; omega)
  simp only [List.length_map, List.length_range] at htl sr4
  have tp := aDr ep4
  refine ⟨.nd n ts, N', G', h4, by omega, by omega, ⟨⟨⟨o, eo, htl⟩, tok⟩, by simp only [Tr.nds]; omega, by simp only [Tr.grs]; omega⟩, by simp only [Tr.depth]; omega, sr4.mono (by omega), eq4, ?_, ?_⟩
  ·refine ⟨by have := u03.len; have := u4.len; simp at this; omega, fun j hj hm => ?_⟩
   have := u03.len
   rw [u4.same j (by simp at hm ⊢; omega), List.getElem?_append_left (by omega), u03.same j hm]
  ·have at1 := aEI (h := h4) (xs := [.int (n : Int)]) (ys := Tr.encs ts) (by rw [aAr]; simp; omega)
   subst es
   simp [gD, e0, ix, le0, ed, q1, g1, er, ix1, set1, q3, g3, q4, tp, at1, Tr.enc]
/-- the middle of the body, whatever is left -/
theorem yQ (k : Nat) {ops : List Opr} (O : OpsOk ops) (hol : ops.length <= 12) {d : Nat} (ih : sT ops d (k + 2)) {h : Hh} {i q c N G : Nat} (e : Sr h i c) (eq : h[q]? = some (.lst [.int N, .int G])) (hiq : i ≠ q) (hc : c + 2 + 3 * (G + 4 * N) < 1000000000) :
  ∃ (t : Tr) (N' G' : Nat) (h' : Hh), N' <= N /\ G' <= G /\ t.okG ops (N - N') (G - G') /\ t.depth <= d + 1 /\ Sr h' i (c + 2 + 3 * ((G - G') + 4 * (N - N'))) /\ h'[q]? = some (.lst [.int N', .int G']) /\ Ux [i, q] h h' /\ gD (aL T (k + 2)) [some (.ref i), some (.tup (ops.map Opr.enc)), some (.ref q), some (.int (d + 1 : Nat)), none, none, none] h = .ret t.enc h' := by
 by_cases hne : ops = []
 ·obtain ⟨s, h', hs, e', eq', u, q'⟩ := qA k O (d := d + 1) e eq hiq (by omega) (.inl hne)
  exact ⟨.leaf s, N, G, h', by omega, by omega, aAb hs, by simp [Tr.depth], e'.mono (by omega), eq', u.ux, by rw [q']; simp only [Tr.enc]⟩
 ·cases N with
  | zero =>
   obtain ⟨s, h', hs, e', eq', u, q'⟩ := qA k O (d := d + 1) e eq hiq (by omega) (.inr (.inl rfl))
   exact ⟨.leaf s, 0, G, h', by omega, by omega, aAb hs, by simp [Tr.depth], e'.mono (by omega), eq', u.ux, by rw [q']; simp only [Tr.enc]⟩
  | succ N => exact aCP k O hol ih e eq hiq hne hc
theorem aGn {ops : List Opr} (O : OpsOk ops) (hol : ops.length <= 12) : ∀ (d k : Nat), sT ops d (k + 3 + d) := by
 intro d
 induction d with
 | zero =>
  intro k h i q c N G e eq hiq hc
  obtain ⟨s, h', hs, e', eq', u, q'⟩ := qA k O (d := 0) e eq hiq (by omega) (.inr (.inr rfl))
  refine ⟨.leaf s, N, G, h', by omega, by omega, aAb hs, by simp [Tr.depth], e'.mono (by omega), eq', u.ux, ?_⟩
  rw [show k + 3 + 0 = k + 2 + 1 from rfl, dQ (d := ⟨7, 4, gI⟩) rfl]
  have ix : ixW (.ref q) (.int 1) h = .ok (.int G) h := mQ (n := 1) eq rfl
  have q2 : gD (aL T (k + 2)) [some (.ref i), some (.tup (ops.map Opr.enc)), some (.ref q), some (.int 0), none, none, none] h = .ret (.str s) h' := q'
  by_cases hG : 0 < G
  ·simp [hO, lS, aV, ix, hG, q2, Tr.enc]
  ·simp [hO, lS, aV, ix, hG, q2, Tr.enc]
 | succ d ihd =>
  intro k h i q c N G e eq hiq hc
  have ih : sT ops d (k + 1 + d + 2) := by rw [show k + 1 + d + 2 = k + 3 + d by omega]; exact ihd k
  rw [show k + 3 + (d + 1) = (k + 1 + d + 2) + 1 by omega, dQ (d := ⟨7, 4, gI⟩) rfl]
  have ix : ixW (.ref q) (.int 1) h = .ok (.int G) h := mQ (n := 1) eq rfl
  have hd1 : (0 : Int) < ((d + 1 : Nat) : Int) := by omega
  have hsub : ((d + 1 : Nat) : Int) - 1 = (d : Int) := by omega
  by_cases hG : 0 < G
  ·obtain ⟨r, h1, hr, e1, u1, q1⟩ := jD (k + 1 + d + 1) (n := 6) e (by decide) (by decide) (by omega)
   have g1 := iS u1 (w := .int r) (by simp)
   have eq1 := u1.get eq (by simpa using fun z => hiq z.symm)
   have er : eqW (.int (r : Int)) (.int 0) h1 = .ok (.bl (decide (r = 0))) h1 := by rw [lQ]; congr 2; simp
   generalize hz : decide (r = 0) = z at er
   cases z with
   | true =>
    have ix1 : ixW (.ref q) (.int 1) h1 = .ok (.int G) h1 := mQ (n := 1) eq1 rfl
    have set1 : oQ (.ref q) (.int 1) (.int ((G : Int) - 1)) h1 = some (h1.set q (.lst [.int N, .int ((G : Int) - 1)])) := by
     simp [oQ, eC, eq1, ixN, D.isTl]
    have gg : (G : Int) - 1 = ((G - 1 : Nat) : Int) := by omega
    have e2 : Sr (h1.set q (.lst [.int N, .int ((G : Int) - 1)])) i (c + 1) := e1.up (Up.set (is := [q]) (by simp)) (by simpa using hiq)
    have eq2 : (h1.set q (.lst [.int N, .int ((G : Int) - 1)]))[q]? = some (.lst [.int (N : Nat), .int (G - 1 : Nat)]) := by rw [gg]; exact jA (aE eq1)
    have u2 : Up [i, q] h (h1.set q (.lst [.int N, .int ((G : Int) - 1)])) := (u1.mono (by simp)).trans (.set (by simp))
    generalize h1.set q (.lst [.int N, .int ((G : Int) - 1)]) = h2 at set1 e2 eq2 u2
    obtain ⟨t, N', G', h3, hN', hG', tk, td, sr3, eq3, u3, q3⟩ := ih e2 eq2 hiq (by omega)
    obtain ⟨h4, g4, u4, sr4, eq4⟩ := aFX (e := []) (w := t.enc) (by rw [List.append_nil]; exact u3) sr3 eq3 (by simp) (Tr.lim t) e2.lt (aE eq2)
    refine ⟨.grp t, N', G', h4, hN', by omega, ⟨tk.1, tk.2.1, by simp only [Tr.grs]; have := tk.2.2; omega⟩, by simp only [Tr.depth]; omega, sr4.mono (by omega), eq4, (u2.trans u4).ux, ?_⟩
    generalize ((d + 1 : Nat) : Int) = d1 at hd1 hsub
    simp [hO, lS, aV, ix, hG, hd1, q1, g1, er, ix1, set1, hsub, q3, g4, Tr.enc]
   | false =>
    obtain ⟨t, N', G', h3, hN', hG', tk, td, sr3, eq3, u3, q3⟩ := yQ (k + 1 + d) O hol ih e1 eq1 hiq (by omega)
    refine ⟨t, N', G', h3, hN', hG', tk, td, sr3.mono (by omega), eq3, (u1.mono (by simp)).ux.trans u3, ?_⟩
    generalize ((d + 1 : Nat) : Int) = d1 at hd1 hsub q3
    simp [hO, lS, aV, ix, hG, hd1, q1, g1, er, q3]
  ·obtain ⟨t, N', G', h3, hN', hG', tk, td, sr3, eq3, u3, q3⟩ := yQ (k + 1 + d) O hol ih e eq hiq (by omega)
   refine ⟨t, N', G', h3, hN', hG', tk, td, sr3.mono (by omega), eq3, u3, ?_⟩
   generalize ((d + 1 : Nat) : Int) = d1 at hd1 hsub q3
   simp [hO, lS, aV, ix, hG, q3]
theorem aHE (k : Nat) {ops : List Opr} (O : OpsOk ops) (hol : ops.length <= 12) {h : Hh} {i c N G : Nat} (e : Sr h i c) (hc : c + 3 * (1 + G + 4 * N) < 1000000000) :
  ∃ (t : Tr) (h' : Hh), t.okG ops N G /\ t.depth <= 12 /\ Sr h' i (c + 3 * (1 + G + 4 * N)) /\ Ux [i] h h' /\ aL T (k + 16) eO [.ref i, .tup (ops.map Opr.enc), .int N, .int G] h = .ok t.enc h' := by
 have eq : (h ++ [Cl.lst [.int (N : Int), .int (G : Int)]])[h.length]? = some (.lst [.int N, .int G]) := by simp
 have li := e.lt
 obtain ⟨t, N', G', h1, hN', hG', tk, td, sr, eq1, u, q⟩ := aGn O hol 12 k (e.app (e := [Cl.lst [.int (N : Int), .int (G : Int)]])) eq (by omega) hc
 have u' : Ux [i] (h ++ [Cl.lst [.int (N : Int), .int (G : Int)]]) h1 \/ True := .inr trivial
 obtain ⟨h2, g2, u2, hs⟩ := aAB (w := t.enc) u (Tr.lim t) (fun j hj hl => by
  simp at hj
  rcases hj with rfl | rfl
  ·exact sr.cell h.length
  ·omega)
 refine ⟨t, h2, ⟨tk.1, by have := tk.2.1; omega, by have := tk.2.2; omega⟩, td, ?_, ?_, ?_⟩
 ·obtain ⟨x, y, d, e2, h0, h1⟩ := sr
  exact ⟨x, y, d, (hs i li).trans e2, h0, by omega⟩
 ·exact u2.ux.mono (by
   intro j hj hl
   simp at hj ⊢
   omega)
 ·rw [dQ (d := ⟨4, 4, jJ⟩) rfl]
  have q' : aL T (k + 15) fC [.ref i, .tup (ops.map Opr.enc), .ref h.length, .int 12] (h ++ [Cl.lst [.int (N : Int), .int (G : Int)]]) = .ok t.enc h1 := q
  simp [jJ, aV, q', g2]
end LW
end
section
namespace LW
open PV PySem PySem.Spec PyProof.Rows L2
def iF (_ : Nat) : List Q -> Pm Q
 | [.src, .int n] => fun K c => (0 < n /\ n < 1073741824 /\ c < 1000000000) /\ ∀ r : Nat, (r : Int) < n -> K (.ok (.int r)) (c + 1)
 | _ => .bad
theorem aBS (k : Nat) : FnS false (aL T (k + 1) aZ) (iF k) := ⟨fun {F sa h c K qs ws} iv r hp => by
 unfold iF at hp
 split at hp
 ·rename_i n
  simp only [Reps] at r
  obtain ⟨w1, _, rfl, _, r1, w2, _, rfl, _, r2, rfl⟩ := r
  simp only [Rep] at r1 r2
  subst r1; subst r2
  obtain ⟨⟨h1, h2, h3⟩, h4⟩ := hp
  obtain ⟨r, h', hr, e, u, q⟩ := jD k (n := n) iv.sr h1 h2 h3
  rw [q]
  obtain ⟨i2, g2⟩ := iv.ux u.ux e
  exact .ok (h4 r hr) i2 g2 (by simpa using bY)
 ·exact hp.elim⟩
end LW
end
section
namespace LW
open PV PySem PySem.Spec PyProof.Rows L2
def eS (k : Nat) : List Q -> Pm Q
 | [.src, .int n] => fun K c => (0 <= n /\ n <= 12 /\ c + 100 < 1000000000 /\ 3 <= k) /\ ∀ ops : List Opr, (∀ o ∈ ops, ∀ x ∈ o.words, x ∈ gZ) -> OpsOk ops -> (ops.length : Int) <= n -> K (.ok (aAQ ops)) (c + 100)
 | _ => .bad
theorem vP (k : Nat) : FnS false (aL T (k + 1) bZ) (eS k) := ⟨fun {F sa h c K qs ws} iv r hp => by
 unfold eS at hp
 split at hp
 ·rename_i n
  simp only [Reps] at r
  obtain ⟨w1, _, rfl, _, r1, w2, _, rfl, _, r2, rfl⟩ := r
  simp only [Rep] at r1 r2
  subst r1; subst r2
  obtain ⟨⟨h1, h2, h3, h5⟩, h4⟩ := hp
  obtain ⟨k', rfl⟩ : ∃ k', k = k' + 3 := ⟨k - 3, by omega⟩
  obtain ⟨m, rfl⟩ := Int.eq_ofNat_of_zero_le h1
  obtain ⟨ops, h', y, O, l, e, u, q⟩ := aAk k' (most := m) iv.sr (by omega) h3
  rw [q]
  obtain ⟨i2, g2⟩ := iv.ux u e
  exact .ok (h4 ops y O (by omega)) i2 g2 (by simpa using aGY)
 ·exact hp.elim⟩
end LW
end
section
namespace LW
open PV PySem PySem.Spec PyProof.Rows L2
def iG (k : Nat) : List Q -> Pm Q := fun qs K c => ∃ (ops : List Opr) (N G : Nat), qs = [.src, aAQ ops, .int N, .int G] /\ OpsOk ops /\ ops.length <= 12 /\ c + 3 * (1 + G + 4 * N) < 1000000000 /\ 15 <= k /\
 ∀ t : Tr, t.okG ops N G -> t.depth <= 12 -> K (.ok t.q) (c + 3 * (1 + G + 4 * N))
theorem aBT (k : Nat) : FnS false (aL T (k + 1) eO) (iG k) := ⟨fun {F sa h c K qs ws} iv r hp => by
 obtain ⟨ops, N, G, rfl, O, hol, hc, hk, hp⟩ := hp
 simp only [Reps] at r
 obtain ⟨w1, _, rfl, _, r1, w2, _, rfl, _, r2, w3, _, rfl, _, r3, w4, _, rfl, _, r4, rfl⟩ := r
 have e2 := aBJ r2
 simp only [Rep] at r1 r3 r4
 subst r1; subst r3; subst r4; subst e2
 obtain ⟨k', rfl⟩ : ∃ k', k = k' + 15 := ⟨k - 15, by omega⟩
 obtain ⟨t, h', ok, d, e, u, q⟩ := aHE k' O hol (N := N) (G := G) iv.sr hc
 rw [q]
 obtain ⟨i2, g2⟩ := iv.ux u e
 exact .ok (hp t ok d) i2 g2 (by simpa using aBa t)⟩
theorem aIp (k : Nat) {ops : List Opr} (O : OpsOk ops) (hol : ops.length <= 12) {N G c : Nat} {K : Rs Q -> Nat -> Prop} (hc : c + 3 * (1 + G + 4 * N) < 1000000000) (h : ∀ t : Tr, t.okG ops N G -> t.depth <= 12 -> K (.ok t.q) (c + 3 * (1 + G + 4 * N))) : iG (k + 15) [.src, aAQ ops, .int N, .int G] K c :=
 ⟨ops, N, G, rfl, O, hol, hc, by omega, h⟩
end LW
end
section
namespace LW
open PV PySem PySem.Spec PyProof.Rows L2
def frT (f : Nat) : Bool := match f with
 | 1 => true
 | 16 => true
 | _ => false
def nP (pc : Nat -> List Q -> Pm Q) (a_0 : Q) : Pm (Fl Unit Unit) :=
 (Pm.bind (Pm.bind (Pm.ret a_0) fun x1 => Pm.bind (Pm.ret (Q.ty "str")) fun x2 => Pm.of (cS x1 x2)) fun x3 => Pm.ret (.ret x3))
def sN (pc : Nat -> List Q -> Pm Q) (qs : List Q) : Pm (Fl Unit Unit) := match qs with
 | [a_0] => nP pc a_0
 | _ => .bad
theorem aDi {cl : Cll} {pc : Nat -> List Q -> Pm Q} (ih : ∀ f, FnS (frT f) (cl f) (pc f)) (a_0 : Q) : SS' false (fun _ : Unit => []) none [.fz a_0] (iV cl) (nP pc a_0) (fun _ : Unit => [.no]) :=
 (gN trivial (bQ aAe (aF 0 rfl).toW aCK.toW))
theorem aCM {cl : Cll} {pc : Nat -> List Q -> Pm Q} (ih : ∀ f, FnS (frT f) (cl f) (pc f)) : FnS false (fun ws h => if ws.length = 1 then fF (iV cl (aV 1 ws) h) else .bad) (fun qs => if qs.length = 1 then (sN pc qs).bind cF else .bad) :=
 hM (P := sN pc) (ΓL := fun _ : Unit => []) (ΓN := fun _ : Unit => [.no]) fun qs hq => match qs, hq with
  | [a_0], _ => aDi ih a_0
def qE (pc : Nat -> List Q -> Pm Q) (a_1 : Q) (x16 : Q × Q) (x9 : Q) : Pm (Fl (Q) (Q)) :=
 (Pm.bind (mT "list" x9 (Pm.bind (Pm.bind (Pm.bind (Pm.ret x16.2) fun x24 => Pm.bind (Pm.bind (Pm.bind (Pm.ret a_1) fun x20 => Pm.bind (Pm.bind (Pm.bind (Pm.ret x16.1) fun x17 => Pm.bind (Pm.ret []) fun x18 => Pm.ret (x17 :: x18)) fun x19 => Pm.ret (Q.tup x19)) fun x21 => Pm.of (cL x20 x21)) fun x22 => Pm.bind (Pm.ret []) fun x23 => Pm.ret (x22 :: x23)) fun x25 => Pm.ret (x24 :: x25)) (pc gX)) fun x26 => Pm.of (lW x9 x26))) fun (x27 : Q) => Pm.ret (.nx x27))
def jW (pc : Nat -> List Q -> Pm Q) (a_0 a_1 : Q) : Pm (Fl Unit Unit) :=
 (Pm.bind (Pm.bind (Pm.bind (Pm.ret a_1) fun x1 => Pm.bind (Pm.ret []) fun x2 => Pm.ret (x1 :: x2)) fun x3 => Pm.ret (Q.lst x3)) fun (x4 : Q) => (Pm.seq (Pm.bind (Pm.bind (Pm.bind (Pm.bind (Pm.bind (Pm.ret a_0) fun x5 => Pm.bind (Pm.ret []) fun x6 => Pm.ret (x5 :: x6)) (pc iT)) fun x7 => Pm.of (dI x7)) fun x8 => Pm.ret (!x8)) fun x30 => if x30 = true then (Pm.seq (Pm.bind (Pm.bind (Pm.bind (Pm.ret a_0) fun x12 => Pm.bind (Pm.bind (Pm.ret (Q.int 1)) fun x10 => Pm.bind (Pm.of (kD x10)) fun x11 => Pm.ret (some x11)) fun x13 => Pm.bind (Pm.ret none) fun x14 => Pm.of (qSl x12 x13 x14)) fun x15 => Pm.of (iH x15)) fun x28 => oM un2 (qE pc a_1) x28 x4) (fun (x29 : Q) => Pm.ret (.nx x29))) else (Pm.ret (.nx x4))) (fun (x31 : Q) => (Pm.ret (.ret x31)))))
def yL (pc : Nat -> List Q -> Pm Q) (qs : List Q) : Pm (Fl Unit Unit) := match qs with
 | [a_0, a_1] => jW pc a_0 a_1
 | _ => .bad
theorem aFI {cl : Cll} {pc : Nat -> List Q -> Pm Q} (ih : ∀ f, FnS (frT f) (cl f) (pc f)) (a_0 a_1 : Q) : SS' true (fun _ : Unit => []) none [.fz a_0, .fz a_1, .no, .no, .no] (lT cl) (jW pc a_0 a_1) (fun _ : Unit => [.no, .no, .no, .no, .no]) :=
 (fL (aEh 2 trivial (vY (by decide) (aB (aF 1 rfl) aU))) (fun x4 => (lL (ΓM := fun (x31 : Q) => [.no, .no, .ow x31, .no, .no]) (pS trivial (xA (t_b (cM (ih iT) (aB (aF 0 rfl) aU)).toW)) (aFT (f := fun (x29 : Q) => x29) (zV (Γ0 := fun (x9 : Q) => [.no, .fz a_1, .ow x9, .no, .no]) (z := x4) trivial (aCR (aAp (aF 0 rfl).toW (rY cD.toW) rX)) (.no (.eq (.eq (.no (.no .nil))))) (tg2 3 4) (fun x16 x9 => (sW (f := fun (x27 : Q) => x27) (aBc 2 rfl trivial (sX (ih gX) (aB (aF 4 rfl) (aB (bQ iJ (aF 1 rfl).toW (bW (by decide) (aB (aF 3 rfl) aU)).toW) aU))).toS) (fun x27 => (.no (.eq (.eq (.no (.no .nil))))))))) (fun x29 => (.no (.no (.eq (.no (.no .nil))))))) (lK (z := x4) (.no (.no (.eq (.no (.no .nil))))))) (fun x31 => (aDA 2 rfl)))))
theorem aEX {cl : Cll} {pc : Nat -> List Q -> Pm Q} (ih : ∀ f, FnS (frT f) (cl f) (pc f)) : FnS true (fun ws h => if ws.length = 2 then fF (lT cl (aV 5 ws) h) else .bad) (fun qs => if qs.length = 2 then (yL pc qs).bind rM else .bad) :=
 aB2 (P := yL pc) (ΓL := fun _ : Unit => []) (ΓN := fun _ : Unit => [.no, .no, .no, .no, .no]) fun qs hq => match qs, hq with
  | [a_0, a_1], _ => aFI ih a_0 a_1
def qM (pc : Nat -> List Q -> Pm Q) (a_0 : Q) : Pm (Fl Unit Unit) :=
 (Pm.bind (Pm.bind (Pm.bind (Pm.bind (Pm.ret a_0) fun x4 => Pm.bind (Pm.bind (Pm.bind (Pm.ret []) fun x1 => Pm.ret (Q.tup x1)) fun x2 => Pm.bind (Pm.ret []) fun x3 => Pm.ret (x2 :: x3)) fun x5 => Pm.ret (x4 :: x5)) (pc gX)) fun x6 => Pm.of (hZ x6)) fun x7 => Pm.ret (.ret x7))
def vT (pc : Nat -> List Q -> Pm Q) (qs : List Q) : Pm (Fl Unit Unit) := match qs with
 | [a_0] => qM pc a_0
 | _ => .bad
theorem aEx {cl : Cll} {pc : Nat -> List Q -> Pm Q} (ih : ∀ f, FnS (frT f) (cl f) (pc f)) (a_0 : Q) : SS' false (fun _ : Unit => []) none [.fz a_0] (jU cl) (qM pc a_0) (fun _ : Unit => [.no]) :=
 (gN trivial (fM pL (sX (ih gX) (aB (aF 0 rfl) (aB (bW (by decide) aU) aU))).toW))
theorem aDK {cl : Cll} {pc : Nat -> List Q -> Pm Q} (ih : ∀ f, FnS (frT f) (cl f) (pc f)) : FnS false (fun ws h => if ws.length = 1 then fF (jU cl (aV 1 ws) h) else .bad) (fun qs => if qs.length = 1 then (vT pc qs).bind cF else .bad) :=
 hM (P := vT pc) (ΓL := fun _ : Unit => []) (ΓN := fun _ : Unit => [.no]) fun qs hq => match qs, hq with
  | [a_0], _ => aEx ih a_0
def dX (pc : Nat -> List Q -> Pm Q) (a_0 a_1 a_2 : Q) : Pm (Fl Unit Unit) :=
 (Pm.seq (Pm.bind (Pm.bind (Pm.bind (Pm.ret a_0) fun x1 => Pm.bind (Pm.ret (Q.ty "tuple")) fun x2 => Pm.of (cS x1 x2)) fun x3 => Pm.of (dI x3)) fun x33 => if x33 = true then (Pm.bind (Pm.bind (Pm.bind (Pm.bind (Pm.ret a_0) fun x6 => Pm.bind (Pm.bind (Pm.ret (Q.int 1)) fun x4 => Pm.bind (Pm.of (kD x4)) fun x5 => Pm.ret (some x5)) fun x7 => Pm.bind (Pm.ret none) fun x8 => Pm.of (qSl x6 x7 x8)) fun x9 => Pm.of (iH x9)) fun x11 => lcP un2 (fun (x10 : Q × Q) => (Pm.ret true)) (fun (x10 : Q × Q) => (Pm.bind (Pm.bind (Pm.ret x10.2) fun x21 => Pm.bind (Pm.bind (Pm.bind (Pm.ret a_1) fun x17 => Pm.bind (Pm.bind (Pm.bind (Pm.ret x10.1) fun x14 => Pm.bind (Pm.ret []) fun x15 => Pm.ret (x14 :: x15)) fun x16 => Pm.ret (Q.tup x16)) fun x18 => Pm.of (cL x17 x18)) fun x19 => Pm.bind (Pm.bind (Pm.ret a_2) fun x12 => Pm.bind (Pm.ret []) fun x13 => Pm.ret (x12 :: x13)) fun x20 => Pm.ret (x19 :: x20)) fun x22 => Pm.ret (x21 :: x22)) (pc cB))) x11) fun (x23 : Q) => (Pm.bind (Pm.bind (Pm.bind (Pm.bind (Pm.bind (Pm.ret a_0) fun x24 => Pm.bind (Pm.ret (Q.int 0)) fun x25 => Pm.of (qIx x24 x25)) fun x26 => Pm.bind (Pm.ret []) fun x27 => Pm.ret (x26 :: x27)) fun x28 => Pm.ret (Q.tup x28)) fun x30 => Pm.bind (Pm.bind (Pm.ret x23) fun x29 => Pm.of (hZ x29)) fun x31 => Pm.of (cL x30 x31)) fun (x32 : Q) => Pm.ret (.nx x32))) else (Pm.ret (.nx a_0))) (fun (x34 : Q) => (Pm.bind (Pm.bind (Pm.bind (Pm.bind (Pm.ret a_1) fun x35 => Pm.bind (Pm.ret a_2) fun x36 => Pm.of (qIn x35 x36)) fun x37 => Pm.of (dI x37)) fun x38 => if x38 = true then (Pm.bind (Pm.bind (Pm.ret (Q.str "(")) fun x46 => Pm.bind (Pm.bind (Pm.ret x34) fun x44 => Pm.bind (Pm.ret []) fun x45 => Pm.ret (x44 :: x45)) fun x47 => Pm.ret (x46 :: x47)) fun x48 => Pm.ret (Q.tup x48)) else (Pm.ret x34)) fun x49 => Pm.ret (.ret x49))))
def nB (pc : Nat -> List Q -> Pm Q) (qs : List Q) : Pm (Fl Unit Unit) := match qs with
 | [a_0, a_1, a_2] => dX pc a_0 a_1 a_2
 | _ => .bad
theorem zR {cl : Cll} {pc : Nat -> List Q -> Pm Q} (ih : ∀ f, FnS (frT f) (cl f) (pc f)) (a_0 a_1 a_2 : Q) : SS' false (fun _ : Unit => []) none [.fz a_0, .fz a_1, .fz a_2, .no, .no, .no] (fP cl) (dX pc a_0 a_1 a_2) (fun _ : Unit => [.no, .no, .no, .no, .no, .no]) :=
 (lL (ΓM := fun (x34 : Q) => [.fz x34, .fz a_1, .fz a_2, .no, .no, .no]) (pS trivial (t_b (bQ aAe (aF 0 rfl).toW aCK.toW).toW) (fL (iK 3 trivial (xL (vs := [4, 5]) (aCR (aAp (aF 0 rfl).toW (rY cD.toW) rX)).toW (tg2 4 5) (fun x10 => qX) (fun x10 => (cM (ih cB) (aB (aF 5 rfl) (aB (bQ iJ (aF 1 rfl).toW (bW (by decide) (aB (aF 4 rfl) aU)).toW) (aB (aF 2 rfl) aU)))))).toS) (fun x23 => (sW (f := fun (x32 : Q) => x32) (iK 0 trivial (bQ iJ (bW (by decide) (aB (bQ vJ (aF 0 rfl).toW cD.toW) aU)).toW (fM pL (aF 3 rfl).toW).toW)) (fun x32 => (.eq (.eq (.eq (.no (.no (.no .nil)))))))))) (lK (z := a_0) (.eq (.eq (.eq (.no (.no (.no .nil)))))))) (fun x34 => (gN trivial (aHH (t_b (bQ aDa (aF 1 rfl).toW (aF 2 rfl).toW).toW) (bW (by decide) (aB sZ (aB (aF 0 rfl) aU))) (aF 0 rfl)))))
theorem zI {cl : Cll} {pc : Nat -> List Q -> Pm Q} (ih : ∀ f, FnS (frT f) (cl f) (pc f)) : FnS false (fun ws h => if ws.length = 3 then fF (fP cl (aV 6 ws) h) else .bad) (fun qs => if qs.length = 3 then (nB pc qs).bind cF else .bad) :=
 hM (P := nB pc) (ΓL := fun _ : Unit => []) (ΓN := fun _ : Unit => [.no, .no, .no, .no, .no, .no]) fun qs hq => match qs, hq with
  | [a_0, a_1, a_2], _ => zR ih a_0 a_1 a_2
def dU (pc : Nat -> List Q -> Pm Q) (x6 : Q) (x9 : Q) (x7 : Unit) : Pm (Fl (Unit) (Unit)) :=
 (Pm.bind (Pm.bind (Pm.bind (Pm.ret x9) fun x10 => Pm.bind (Pm.ret x6) fun x11 => Pm.of (qNi x10 x11)) fun x12 => Pm.of (dI x12)) fun x16 => if x16 = true then (Pm.bind (Pm.bind (Pm.ret x9) fun x13 => Pm.bind (Pm.ret []) fun x14 => Pm.ret (x13 :: x14)) fun x15 => Pm.exc 101 (((["place"] : List Str).zip x15).reverse)) else (Pm.ret (.nx ())))
def gE (pc : Nat -> List Q -> Pm Q) (a_0 a_1 : Q) : Pm (Fl Unit Unit) :=
 (Pm.bind (Pm.bind (Pm.bind (Pm.bind (Pm.bind (Pm.ret a_0) fun x1 => Pm.bind (Pm.ret []) fun x2 => Pm.ret (x1 :: x2)) (pc jS)) fun x3 => Pm.of (lE x3)) fun x5 => dcP kTQ Q.dT some (fun (x4 : Q) => (Pm.ret true)) (fun (x4 : Q) => (Pm.ret x4)) (fun (x4 : Q) => (Pm.ret (Q.bl true))) x5) fun (x6 : Q) => (Pm.seq (Pm.bind (Pm.bind (Pm.ret a_1) fun x8 => Pm.of (lE x8)) fun x17 => oM some (dU pc x6) x17 ()) (fun (x18 : Unit) => (Pm.bind (Pm.bind (Pm.bind (Pm.ret a_0) fun x27 => Pm.bind (Pm.bind (Pm.bind (Pm.ret []) fun x24 => Pm.ret (Q.tup x24)) fun x25 => Pm.bind (Pm.bind (Pm.bind (Pm.bind (Pm.ret a_1) fun x19 => Pm.of (lE x19)) fun x21 => dcP kTQ Q.dT some (fun (x20 : Q) => (Pm.ret true)) (fun (x20 : Q) => (Pm.ret x20)) (fun (x20 : Q) => (Pm.ret (Q.bl true))) x21) fun x22 => Pm.bind (Pm.ret []) fun x23 => Pm.ret (x22 :: x23)) fun x26 => Pm.ret (x25 :: x26)) fun x28 => Pm.ret (x27 :: x28)) (pc cB)) fun x29 => Pm.ret (.ret x29)))))
def lI (pc : Nat -> List Q -> Pm Q) (qs : List Q) : Pm (Fl Unit Unit) := match qs with
 | [a_0, a_1] => gE pc a_0 a_1
 | _ => .bad
theorem yJ {cl : Cll} {pc : Nat -> List Q -> Pm Q} (ih : ∀ f, FnS (frT f) (cl f) (pc f)) (a_0 a_1 : Q) : SS' false (fun _ : Unit => []) none [.fz a_0, .fz a_1, .no, .no] (eJ cl) (gE pc a_0 a_1) (fun _ : Unit => [.no, .no, .no, .no]) :=
 (fL (iK 2 trivial (aFW (vs := [3]) (i_e (cM (ih jS) (aB (aF 0 rfl) aU))).toW (tg1 3) (fun x4 => qX) (fun x4 => (aF 3 rfl)) (fun x4 => xK)).toS) (fun x6 => (lL (zV (Γ0 := fun (x7 : Unit) => [.fz a_0, .fz a_1, .fz x6, .no]) (z := ()) trivial (i_e (aF 1 rfl)) (.eq (.eq (.eq (.no .nil)))) (tg1 3) (fun x9 x7 => (pS trivial (t_b (bQ aIx (aF 3 rfl).toW (aF 2 rfl).toW).toW) (aGo rfl trivial (aB (aF 3 rfl) aU)) (lK (z := ()) (.eq (.eq (.eq (.no .nil)))))))) (fun x18 => (gN trivial (cM (ih cB) (aB (aF 0 rfl) (aB (bW (by decide) aU) (aB (aFW (vs := [3]) (i_e (aF 1 rfl)).toW (tg1 3) (fun x20 => qX) (fun x20 => (aF 3 rfl)) (fun x20 => xK)).toS aU)))))))))
theorem xP {cl : Cll} {pc : Nat -> List Q -> Pm Q} (ih : ∀ f, FnS (frT f) (cl f) (pc f)) : FnS false (fun ws h => if ws.length = 2 then fF (eJ cl (aV 4 ws) h) else .bad) (fun qs => if qs.length = 2 then (lI pc qs).bind cF else .bad) :=
 hM (P := lI pc) (ΓL := fun _ : Unit => []) (ΓN := fun _ : Unit => [.no, .no, .no, .no]) fun qs hq => match qs, hq with
  | [a_0, a_1], _ => yJ ih a_0 a_1
def lN (pc : Nat -> List Q -> Pm Q) (a_0 a_1 : Q) : Pm (Fl Unit Unit) :=
 (Pm.bind (Pm.bind (Pm.ret a_1) fun x6 => Pm.bind (Pm.bind (Pm.bind (Pm.ret a_0) fun x4 => Pm.bind (Pm.bind (Pm.bind (Pm.ret a_1) fun x1 => Pm.of (vF x1)) fun x2 => Pm.bind (Pm.ret []) fun x3 => Pm.ret (x2 :: x3)) fun x5 => Pm.ret (x4 :: x5)) (pc aZ)) fun x7 => Pm.of (qIx x6 x7)) fun x8 => Pm.ret (.ret x8))
def qY (pc : Nat -> List Q -> Pm Q) (qs : List Q) : Pm (Fl Unit Unit) := match qs with
 | [a_0, a_1] => lN pc a_0 a_1
 | _ => .bad
theorem aBU {cl : Cll} {pc : Nat -> List Q -> Pm Q} (ih : ∀ f, FnS (frT f) (cl f) (pc f)) (a_0 a_1 : Q) : SS' false (fun _ : Unit => []) none [.fz a_0, .fz a_1] (eQ cl) (lN pc a_0 a_1) (fun _ : Unit => [.no, .no]) :=
 (gN trivial (bQ vJ (aF 1 rfl).toW (cM (ih aZ) (aB (aF 0 rfl) (aB (fM aGb (aF 1 rfl).toW) aU))).toW))
theorem aBD {cl : Cll} {pc : Nat -> List Q -> Pm Q} (ih : ∀ f, FnS (frT f) (cl f) (pc f)) : FnS false (fun ws h => if ws.length = 2 then fF (eQ cl (aV 2 ws) h) else .bad) (fun qs => if qs.length = 2 then (qY pc qs).bind cF else .bad) :=
 hM (P := qY pc) (ΓL := fun _ : Unit => []) (ΓN := fun _ : Unit => [.no, .no]) fun qs hq => match qs, hq with
  | [a_0, a_1], _ => aBU ih a_0 a_1
def yX (pc : Nat -> List Q -> Pm Q) (a_0 : Q) : Pm (Fl Unit Unit) :=
 (Pm.bind (Pm.bind (Pm.bind (Pm.bind (Pm.bind (Pm.ret a_0) fun x12 => Pm.bind (Pm.ret (Q.int 0)) fun x13 => Pm.of (qIx x12 x13)) fun x19 => Pm.bind (Pm.bind (Pm.bind (Pm.ret (Q.str "infix")) fun x16 => Pm.bind (Pm.bind (Pm.ret (Q.str "postfix")) fun x14 => Pm.bind (Pm.ret []) fun x15 => Pm.ret (x14 :: x15)) fun x17 => Pm.ret (x16 :: x17)) fun x18 => Pm.ret (Q.tup x18)) fun x20 => Pm.of (qIn x19 x20)) fun x21 => Pm.bind (Pm.bind (Pm.bind (Pm.bind (Pm.ret a_0) fun x1 => Pm.bind (Pm.ret (Q.int 0)) fun x2 => Pm.of (qIx x1 x2)) fun x8 => Pm.bind (Pm.bind (Pm.bind (Pm.ret (Q.str "infix")) fun x5 => Pm.bind (Pm.bind (Pm.ret (Q.str "prefix")) fun x3 => Pm.bind (Pm.ret []) fun x4 => Pm.ret (x3 :: x4)) fun x6 => Pm.ret (x5 :: x6)) fun x7 => Pm.ret (Q.tup x7)) fun x9 => Pm.of (qIn x8 x9)) fun x10 => Pm.bind (Pm.ret []) fun x11 => Pm.ret (x10 :: x11)) fun x22 => Pm.ret (x21 :: x22)) fun x23 => Pm.ret (Q.tup x23)) fun x24 => Pm.ret (.ret x24))
def sO (pc : Nat -> List Q -> Pm Q) (qs : List Q) : Pm (Fl Unit Unit) := match qs with
 | [a_0] => yX pc a_0
 | _ => .bad
theorem aDj {cl : Cll} {pc : Nat -> List Q -> Pm Q} (ih : ∀ f, FnS (frT f) (cl f) (pc f)) (a_0 : Q) : SS' false (fun _ : Unit => []) none [.fz a_0] (fT cl) (yX pc a_0) (fun _ : Unit => [.no]) :=
 (gN trivial (bW (by decide) (aB (bQ aDa (bQ vJ (aF 0 rfl).toW cD.toW).toW (bW (by decide) (aB sZ (aB sZ aU))).toW) (aB (bQ aDa (bQ vJ (aF 0 rfl).toW cD.toW).toW (bW (by decide) (aB sZ (aB sZ aU))).toW) aU))))
theorem aCN {cl : Cll} {pc : Nat -> List Q -> Pm Q} (ih : ∀ f, FnS (frT f) (cl f) (pc f)) : FnS false (fun ws h => if ws.length = 1 then fF (fT cl (aV 1 ws) h) else .bad) (fun qs => if qs.length = 1 then (sO pc qs).bind cF else .bad) :=
 hM (P := sO pc) (ΓL := fun _ : Unit => []) (ΓN := fun _ : Unit => [.no]) fun qs hq => match qs, hq with
  | [a_0], _ => aDj ih a_0
def uH (pc : Nat -> List Q -> Pm Q) (a_0 : Q) : Pm (Fl Unit Unit) :=
 (Pm.bind (Pm.bind (Pm.bind (Pm.bind (Pm.bind (Pm.ret a_0) fun x1 => Pm.bind (Pm.ret (Q.int 1)) fun x2 => Pm.of (qIx x1 x2)) fun x3 => Pm.of (vF x3)) fun x4 => Pm.bind (Pm.ret (Q.int 1)) fun x5 => Pm.of (aC5 x4 x5)) fun x13 => Pm.bind (Pm.bind (Pm.bind (Pm.bind (Pm.bind (Pm.bind (Pm.ret a_0) fun x6 => Pm.bind (Pm.ret []) fun x7 => Pm.ret (x6 :: x7)) (pc iU)) fun x8 => Pm.of (lE x8)) fun x10 => lcP some (fun (x9 : Q) => (Pm.ret true)) (fun (x9 : Q) => (Pm.bind (Pm.ret x9) fun x11 => Pm.of (aAZ x11))) x10) fun x12 => Pm.of (aFu x12)) fun x14 => Pm.of (cL x13 x14)) fun x15 => Pm.ret (.ret x15))
def oS (pc : Nat -> List Q -> Pm Q) (qs : List Q) : Pm (Fl Unit Unit) := match qs with
 | [a_0] => uH pc a_0
 | _ => .bad
theorem aBp {cl : Cll} {pc : Nat -> List Q -> Pm Q} (ih : ∀ f, FnS (frT f) (cl f) (pc f)) (a_0 : Q) : SS' false (fun _ : Unit => []) none [.fz a_0, .no] (dJ cl) (uH pc a_0) (fun _ : Unit => [.no, .no]) :=
 (gN trivial (bQ iJ (bQ aKc (fM aGb (bQ vJ (aF 0 rfl).toW cD.toW).toW).toW cD.toW).toW (fM aKd (xL (vs := [1]) (i_e (cM (ih iU) (aB (aF 0 rfl) aU))).toW (tg1 1) (fun x9 => qX) (fun x9 => (fM aKa (aF 1 rfl).toW))).toW).toW))
theorem aAx {cl : Cll} {pc : Nat -> List Q -> Pm Q} (ih : ∀ f, FnS (frT f) (cl f) (pc f)) : FnS false (fun ws h => if ws.length = 1 then fF (dJ cl (aV 2 ws) h) else .bad) (fun qs => if qs.length = 1 then (oS pc qs).bind cF else .bad) :=
 hM (P := oS pc) (ΓL := fun _ : Unit => []) (ΓN := fun _ : Unit => [.no, .no]) fun qs hq => match qs, hq with
  | [a_0], _ => aBp ih a_0
def dB (pc : Nat -> List Q -> Pm Q) (a_0 a_1 a_2 : Q) : Pm (Fl Unit Unit) :=
 (Pm.seq (Pm.bind (Pm.bind (Pm.bind (Pm.ret a_0) fun x1 => Pm.bind (Pm.ret (Q.ty "tuple")) fun x2 => Pm.of (cS x1 x2)) fun x3 => Pm.of (dI x3)) fun x33 => if x33 = true then (Pm.bind (Pm.bind (Pm.bind (Pm.bind (Pm.ret a_0) fun x6 => Pm.bind (Pm.bind (Pm.ret (Q.int 1)) fun x4 => Pm.bind (Pm.of (kD x4)) fun x5 => Pm.ret (some x5)) fun x7 => Pm.bind (Pm.ret none) fun x8 => Pm.of (qSl x6 x7 x8)) fun x9 => Pm.of (iH x9)) fun x11 => lcP un2 (fun (x10 : Q × Q) => (Pm.ret true)) (fun (x10 : Q × Q) => (Pm.bind (Pm.bind (Pm.ret x10.2) fun x21 => Pm.bind (Pm.bind (Pm.ret a_1) fun x19 => Pm.bind (Pm.bind (Pm.bind (Pm.ret a_2) fun x15 => Pm.bind (Pm.bind (Pm.bind (Pm.ret x10.1) fun x12 => Pm.bind (Pm.ret []) fun x13 => Pm.ret (x12 :: x13)) fun x14 => Pm.ret (Q.tup x14)) fun x16 => Pm.of (cL x15 x16)) fun x17 => Pm.bind (Pm.ret []) fun x18 => Pm.ret (x17 :: x18)) fun x20 => Pm.ret (x19 :: x20)) fun x22 => Pm.ret (x21 :: x22)) (pc bP))) x11) fun (x23 : Q) => (Pm.bind (Pm.bind (Pm.bind (Pm.ret a_0) fun x26 => Pm.bind (Pm.ret none) fun x27 => Pm.bind (Pm.bind (Pm.ret (Q.int 1)) fun x24 => Pm.bind (Pm.of (kD x24)) fun x25 => Pm.ret (some x25)) fun x28 => Pm.of (qSl x26 x27 x28)) fun x30 => Pm.bind (Pm.bind (Pm.ret x23) fun x29 => Pm.of (hZ x29)) fun x31 => Pm.of (cL x30 x31)) fun (x32 : Q) => Pm.ret (.nx x32))) else (Pm.ret (.nx a_0))) (fun (x34 : Q) => (Pm.bind (Pm.bind (Pm.bind (Pm.bind (Pm.ret a_2) fun x35 => Pm.bind (Pm.ret a_1) fun x36 => Pm.of (qIn x35 x36)) fun x37 => Pm.of (dI x37)) fun x38 => if x38 = true then (Pm.bind (Pm.bind (Pm.ret (Q.str "(")) fun x46 => Pm.bind (Pm.bind (Pm.ret x34) fun x44 => Pm.bind (Pm.ret []) fun x45 => Pm.ret (x44 :: x45)) fun x47 => Pm.ret (x46 :: x47)) fun x48 => Pm.ret (Q.tup x48)) else (Pm.ret x34)) fun x49 => Pm.ret (.ret x49))))
def lH (pc : Nat -> List Q -> Pm Q) (qs : List Q) : Pm (Fl Unit Unit) := match qs with
 | [a_0, a_1, a_2] => dB pc a_0 a_1 a_2
 | _ => .bad
theorem yI {cl : Cll} {pc : Nat -> List Q -> Pm Q} (ih : ∀ f, FnS (frT f) (cl f) (pc f)) (a_0 a_1 a_2 : Q) : SS' false (fun _ : Unit => []) none [.fz a_0, .fz a_1, .fz a_2, .no, .no, .no] (eI cl) (dB pc a_0 a_1 a_2) (fun _ : Unit => [.no, .no, .no, .no, .no, .no]) :=
 (lL (ΓM := fun (x34 : Q) => [.fz x34, .fz a_1, .fz a_2, .no, .no, .no]) (pS trivial (t_b (bQ aAe (aF 0 rfl).toW aCK.toW).toW) (fL (iK 3 trivial (xL (vs := [4, 5]) (aCR (aAp (aF 0 rfl).toW (rY cD.toW) rX)).toW (tg2 4 5) (fun x10 => qX) (fun x10 => (cM (ih bP) (aB (aF 5 rfl) (aB (aF 1 rfl) (aB (bQ iJ (aF 2 rfl).toW (bW (by decide) (aB (aF 4 rfl) aU)).toW) aU)))))).toS) (fun x23 => (sW (f := fun (x32 : Q) => x32) (iK 0 trivial (bQ iJ (aAp (aF 0 rfl).toW rX (rY cD.toW)).toW (fM pL (aF 3 rfl).toW).toW)) (fun x32 => (.eq (.eq (.eq (.no (.no (.no .nil)))))))))) (lK (z := a_0) (.eq (.eq (.eq (.no (.no (.no .nil)))))))) (fun x34 => (gN trivial (aHH (t_b (bQ aDa (aF 2 rfl).toW (aF 1 rfl).toW).toW) (bW (by decide) (aB sZ (aB (aF 0 rfl) aU))) (aF 0 rfl)))))
theorem xO {cl : Cll} {pc : Nat -> List Q -> Pm Q} (ih : ∀ f, FnS (frT f) (cl f) (pc f)) : FnS false (fun ws h => if ws.length = 3 then fF (eI cl (aV 6 ws) h) else .bad) (fun qs => if qs.length = 3 then (lH pc qs).bind cF else .bad) :=
 hM (P := lH pc) (ΓL := fun _ : Unit => []) (ΓN := fun _ : Unit => [.no, .no, .no, .no, .no, .no]) fun qs hq => match qs, hq with
  | [a_0, a_1, a_2], _ => yI ih a_0 a_1 a_2
def jI (pc : Nat -> List Q -> Pm Q) (a_1 : Q) (x15 : Q × Q) (x8 : Q) : Pm (Fl (Q) (Q)) :=
 (Pm.bind (mT "list" x8 (Pm.bind (Pm.bind (Pm.bind (Pm.ret x15.2) fun x23 => Pm.bind (Pm.bind (Pm.bind (Pm.ret a_1) fun x19 => Pm.bind (Pm.bind (Pm.bind (Pm.ret x15.1) fun x16 => Pm.bind (Pm.ret []) fun x17 => Pm.ret (x16 :: x17)) fun x18 => Pm.ret (Q.tup x18)) fun x20 => Pm.of (cL x19 x20)) fun x21 => Pm.bind (Pm.ret []) fun x22 => Pm.ret (x21 :: x22)) fun x24 => Pm.ret (x23 :: x24)) (pc bU)) fun x25 => Pm.of (lW x8 x25))) fun (x26 : Q) => Pm.ret (.nx x26))
def dY (pc : Nat -> List Q -> Pm Q) (a_0 a_1 : Q) : Pm (Fl Unit Unit) :=
 (Pm.bind (Pm.bind (Pm.bind (Pm.ret a_1) fun x1 => Pm.bind (Pm.ret []) fun x2 => Pm.ret (x1 :: x2)) fun x3 => Pm.ret (Q.lst x3)) fun (x4 : Q) => (Pm.seq (Pm.bind (Pm.bind (Pm.bind (Pm.ret a_0) fun x5 => Pm.bind (Pm.ret (Q.ty "tuple")) fun x6 => Pm.of (cS x5 x6)) fun x7 => Pm.of (dI x7)) fun x29 => if x29 = true then (Pm.seq (Pm.bind (Pm.bind (Pm.bind (Pm.ret a_0) fun x11 => Pm.bind (Pm.bind (Pm.ret (Q.int 1)) fun x9 => Pm.bind (Pm.of (kD x9)) fun x10 => Pm.ret (some x10)) fun x12 => Pm.bind (Pm.ret none) fun x13 => Pm.of (qSl x11 x12 x13)) fun x14 => Pm.of (iH x14)) fun x27 => oM un2 (jI pc a_1) x27 x4) (fun (x28 : Q) => Pm.ret (.nx x28))) else (Pm.ret (.nx x4))) (fun (x30 : Q) => (Pm.ret (.ret x30)))))
def nE (pc : Nat -> List Q -> Pm Q) (qs : List Q) : Pm (Fl Unit Unit) := match qs with
 | [a_0, a_1] => dY pc a_0 a_1
 | _ => .bad
theorem zS {cl : Cll} {pc : Nat -> List Q -> Pm Q} (ih : ∀ f, FnS (frT f) (cl f) (pc f)) (a_0 a_1 : Q) : SS' true (fun _ : Unit => []) none [.fz a_0, .fz a_1, .no, .no, .no] (fQ cl) (dY pc a_0 a_1) (fun _ : Unit => [.no, .no, .no, .no, .no]) :=
 (fL (aEh 2 trivial (vY (by decide) (aB (aF 1 rfl) aU))) (fun x4 => (lL (ΓM := fun (x30 : Q) => [.no, .no, .ow x30, .no, .no]) (pS trivial (t_b (bQ aAe (aF 0 rfl).toW aCK.toW).toW) (aFT (f := fun (x28 : Q) => x28) (zV (Γ0 := fun (x8 : Q) => [.no, .fz a_1, .ow x8, .no, .no]) (z := x4) trivial (aCR (aAp (aF 0 rfl).toW (rY cD.toW) rX)) (.no (.eq (.eq (.no (.no .nil))))) (tg2 3 4) (fun x15 x8 => (sW (f := fun (x26 : Q) => x26) (aBc 2 rfl trivial (sX (ih bU) (aB (aF 4 rfl) (aB (bQ iJ (aF 1 rfl).toW (bW (by decide) (aB (aF 3 rfl) aU)).toW) aU))).toS) (fun x26 => (.no (.eq (.eq (.no (.no .nil))))))))) (fun x28 => (.no (.no (.eq (.no (.no .nil))))))) (lK (z := x4) (.no (.no (.eq (.no (.no .nil))))))) (fun x30 => (aDA 2 rfl)))))
theorem zJ {cl : Cll} {pc : Nat -> List Q -> Pm Q} (ih : ∀ f, FnS (frT f) (cl f) (pc f)) : FnS true (fun ws h => if ws.length = 2 then fF (fQ cl (aV 5 ws) h) else .bad) (fun qs => if qs.length = 2 then (nE pc qs).bind rM else .bad) :=
 aB2 (P := nE pc) (ΓL := fun _ : Unit => []) (ΓN := fun _ : Unit => [.no, .no, .no, .no, .no]) fun qs hq => match qs, hq with
  | [a_0, a_1], _ => zS ih a_0 a_1
def gB (pc : Nat -> List Q -> Pm Q) (a_0 a_1 a_2 : Q) : Pm (Fl Unit Unit) :=
 (Pm.bind (Pm.ret Q.non) fun (x1 : Q) => (Pm.seq (aBu (Pm.bind (Pm.bind (Pm.bind (Pm.bind (Pm.ret a_0) fun x4 => Pm.bind (Pm.bind (Pm.ret a_1) fun x2 => Pm.bind (Pm.ret []) fun x3 => Pm.ret (x2 :: x3)) fun x5 => Pm.ret (x4 :: x5)) (pc bD)) fun x6 => Pm.ret ()) fun (x7 : Unit) => Pm.ret (.nx x1)) [([100, 101, 102, 103, 104], fun x8 => (Pm.bind (Pm.ret x8) fun (x9 : Q) => Pm.ret (.nx x9)))]) (fun (x10 : Q) => (Pm.seq (Pm.bind (Pm.bind (Pm.bind (Pm.bind (Pm.bind (Pm.ret x10) fun x21 => Pm.bind (Pm.ret (Q.cls 101)) fun x22 => Pm.of (tR x21 x22)) fun x23 => Pm.of (dI x23)) fun x24 => Pm.ret (!x24)) fun x25 => if x25 = true then Pm.ret true else (Pm.bind (Pm.bind (Pm.ret x10) fun x18 => Pm.bind (Pm.bind (Pm.bind (Pm.ret (Q.cls 102)) fun x15 => Pm.bind (Pm.bind (Pm.ret (Q.cls 103)) fun x13 => Pm.bind (Pm.bind (Pm.ret (Q.cls 104)) fun x11 => Pm.bind (Pm.ret []) fun x12 => Pm.ret (x11 :: x12)) fun x14 => Pm.ret (x13 :: x14)) fun x16 => Pm.ret (x15 :: x16)) fun x17 => Pm.ret (Q.tup x17)) fun x19 => Pm.of (tR x18 x19)) fun x20 => Pm.of (dI x20))) fun x27 => if x27 = true then (Pm.bind (Pm.ret (Q.bl false)) fun x26 => Pm.ret (.ret x26)) else (Pm.ret (.nx ()))) (fun (x28 : Unit) => (Pm.bind (Pm.bind (Pm.bind (Pm.bind (Pm.ret x10) fun x29 => Pm.of (yB "place" x29)) fun x30 => Pm.of (gC x30)) fun x32 => Pm.bind (Pm.bind (Pm.ret a_2) fun x31 => Pm.of (gC x31)) fun x33 => Pm.of (qEq x32 x33)) fun x34 => Pm.ret (.ret x34)))))))
def iQ (pc : Nat -> List Q -> Pm Q) (qs : List Q) : Pm (Fl Unit Unit) := match qs with
 | [a_0, a_1, a_2] => gB pc a_0 a_1 a_2
 | _ => .bad
theorem uF {cl : Cll} {pc : Nat -> List Q -> Pm Q} (ih : ∀ f, FnS (frT f) (cl f) (pc f)) (a_0 a_1 a_2 : Q) : SS' false (fun _ : Unit => []) none [.fz a_0, .fz a_1, .fz a_2, .no, .no] (cP cl) (gB pc a_0 a_1 a_2) (fun _ : Unit => [.no, .no, .no, .no, .no]) :=
 (fL (iK 3 trivial aJF) (fun x1 => (lL (ΓM := fun (x10 : Q) => [.no, .no, .fz a_2, .fz x10, .no]) (aJC [.fz a_0, .fz a_1, .fz a_2, .fz x1, .no] trivial (sW (f := fun (x7 : Unit) => x1) (aIv (.eq (.eq (.eq (.eq (.no .nil))))) (cM (ih bD) (aB (aF 0 rfl) (aB (aF 1 rfl) aU))).toW) (fun x7 => (.no (.no (.eq (.eq (.no .nil))))))) (.as (fun x8 => (sW (f := fun (x9 : Q) => x9) (iK 3 trivial (aF 4 rfl)) (fun x9 => (.no (.no (.eq (.eq (.no .nil)))))))) (fun _ => rfl) (fun _ => rfl) .nil)) (fun x10 => (lL (ΓM := fun (x28 : Unit) => [.no, .no, .fz a_2, .fz x10, .no]) (pS trivial (aJg (xA (t_b (bQ aEj (aF 3 rfl).toW zZ.toW).toW)) (t_b (bQ aEj (aF 3 rfl).toW (bW (by decide) (aB zZ (aB zZ (aB zZ aU)))).toW).toW)) (gN trivial xK) (lK (z := ()) (.no (.no (.eq (.eq (.no .nil))))))) (fun x28 => (gN trivial (bQ aIu (fM mD (aJE (aF 3 rfl).toW).toW).toW (fM mD (aF 2 rfl).toW).toW))))))))
theorem uB {cl : Cll} {pc : Nat -> List Q -> Pm Q} (ih : ∀ f, FnS (frT f) (cl f) (pc f)) : FnS false (fun ws h => if ws.length = 3 then fF (cP cl (aV 5 ws) h) else .bad) (fun qs => if qs.length = 3 then (iQ pc qs).bind cF else .bad) :=
 hM (P := iQ pc) (ΓL := fun _ : Unit => []) (ΓN := fun _ : Unit => [.no, .no, .no, .no, .no]) fun qs hq => match qs, hq with
  | [a_0, a_1, a_2], _ => uF ih a_0 a_1 a_2
def gY (pc : Nat -> List Q -> Pm Q) (a_1 : Q) (x51 : Q) (x27 : Unit) : Pm (Fl (Unit) (Unit)) :=
 (Pm.bind (Pm.bind (Pm.bind (Pm.ret a_1) fun x57 => Pm.bind (Pm.bind (Pm.ret x51) fun x55 => Pm.bind (Pm.bind (Pm.bind (Pm.ret []) fun x52 => Pm.ret (Q.tup x52)) fun x53 => Pm.bind (Pm.ret []) fun x54 => Pm.ret (x53 :: x54)) fun x56 => Pm.ret (x55 :: x56)) fun x58 => Pm.ret (x57 :: x58)) (pc bP)) fun (x59 : Q) => (Pm.bind (Pm.bind (Pm.bind (Pm.bind (Pm.bind (Pm.bind (Pm.bind (Pm.bind (Pm.ret a_1) fun x69 => Pm.bind (Pm.bind (Pm.ret x51) fun x67 => Pm.bind (Pm.ret []) fun x68 => Pm.ret (x67 :: x68)) fun x70 => Pm.ret (x69 :: x70)) (pc bD)) fun x71 => Pm.bind (Pm.bind (Pm.bind (Pm.bind (Pm.ret x51) fun x62 => Pm.bind (Pm.bind (Pm.ret a_1) fun x60 => Pm.bind (Pm.ret []) fun x61 => Pm.ret (x60 :: x61)) fun x63 => Pm.ret (x62 :: x63)) fun x64 => Pm.bind (Pm.of (cY [1, 0] x64)) (pc bD)) fun x65 => Pm.bind (Pm.ret []) fun x66 => Pm.ret (x65 :: x66)) fun x72 => Pm.ret (x71 :: x72)) fun x73 => Pm.ret (Q.lst x73)) fun x74 => Pm.of (gC x74)) fun x81 => Pm.bind (Pm.bind (Pm.bind (Pm.bind (Pm.ret x59) fun x77 => Pm.bind (Pm.bind (Pm.ret x59) fun x75 => Pm.bind (Pm.ret []) fun x76 => Pm.ret (x75 :: x76)) fun x78 => Pm.ret (x77 :: x78)) fun x79 => Pm.ret (Q.lst x79)) fun x80 => Pm.of (gC x80)) fun x82 => Pm.of (qNe x81 x82)) fun x83 => Pm.of (dI x83)) fun x85 => if x85 = true then (Pm.bind (Pm.ret (Q.bl false)) fun x84 => Pm.ret (.ret x84)) else (Pm.ret (.nx ()))))
def kJ (pc : Nat -> List Q -> Pm Q) (a_0 a_1 : Q) : Pm (Fl Unit Unit) :=
 (Pm.bind (Pm.bind (Pm.bind (Pm.bind (Pm.bind (Pm.bind (Pm.ret a_1) fun x7 => Pm.bind (Pm.bind (Pm.bind (Pm.ret []) fun x4 => Pm.ret (Q.tup x4)) fun x5 => Pm.bind (Pm.ret []) fun x6 => Pm.ret (x5 :: x6)) fun x8 => Pm.ret (x7 :: x8)) (pc bU)) fun x9 => Pm.bind (Pm.bind (Pm.bind (Pm.ret a_1) fun x1 => Pm.of (gC x1)) fun x2 => Pm.bind (Pm.ret []) fun x3 => Pm.ret (x2 :: x3)) fun x10 => Pm.ret (x9 :: x10)) fun x11 => Pm.ret (Q.tup x11)) fun x12 => Pm.of (un2 x12)) fun (x13 : Q × Q) => (Pm.bind (Pm.bind (Pm.bind (Pm.bind (Pm.bind (Pm.bind (Pm.ret a_0) fun x16 => Pm.bind (Pm.bind (Pm.ret (Q.int 7)) fun x14 => Pm.bind (Pm.ret []) fun x15 => Pm.ret (x14 :: x15)) fun x17 => Pm.ret (x16 :: x17)) (pc aZ)) fun x18 => Pm.of (nU x18)) fun x20 => lcP some (fun (x19 : Q) => (Pm.ret true)) (fun (x19 : Q) => (Pm.bind (Pm.bind (Pm.ret a_0) fun x23 => Pm.bind (Pm.bind (Pm.ret x13.1) fun x21 => Pm.bind (Pm.ret []) fun x22 => Pm.ret (x21 :: x22)) fun x24 => Pm.ret (x23 :: x24)) (pc bA))) x20) fun x25 => Pm.of (hZ x25)) fun (x26 : Q) => (Pm.seq (Pm.bind (Pm.bind (Pm.bind (Pm.bind (Pm.bind (Pm.ret []) fun x46 => Pm.ret (Q.tup x46)) fun x47 => Pm.bind (Pm.bind (Pm.bind (Pm.ret x13.1) fun x43 => Pm.of (hZ x43)) fun x44 => Pm.bind (Pm.bind (Pm.ret x26) fun x41 => Pm.bind (Pm.bind (Pm.bind (Pm.bind (Pm.ret x26) fun x36 => Pm.of (aA2 x36)) fun x37 => Pm.bind (Pm.ret x26) fun x38 => Pm.of (cL x37 x38)) fun x39 => Pm.bind (Pm.bind (Pm.bind (Pm.bind (Pm.bind (Pm.ret x13.1) fun x29 => Pm.bind (Pm.bind (Pm.ret (Q.int 1)) fun x28 => Pm.of (aA0 x28)) fun x30 => Pm.of (qIx x29 x30)) fun x31 => Pm.bind (Pm.ret []) fun x32 => Pm.ret (x31 :: x32)) fun x33 => Pm.ret (Q.tup x33)) fun x34 => Pm.bind (Pm.ret []) fun x35 => Pm.ret (x34 :: x35)) fun x40 => Pm.ret (x39 :: x40)) fun x42 => Pm.ret (x41 :: x42)) fun x45 => Pm.ret (x44 :: x45)) fun x48 => Pm.ret (x47 :: x48)) fun x49 => Pm.ret (Q.tup x49)) fun x50 => Pm.of (lE x50)) fun x86 => oM some (gY pc a_1) x86 ()) (fun (x87 : Unit) => (Pm.bind (Pm.bind (Pm.bind (Pm.bind (Pm.bind (Pm.ret x13.1) fun x112 => Pm.bind (Pm.bind (Pm.ret (Q.int 1)) fun x111 => Pm.of (aA0 x111)) fun x113 => Pm.of (qIx x112 x113)) fun x117 => Pm.bind (Pm.bind (Pm.bind (Pm.ret (Q.int 0)) fun x114 => Pm.bind (Pm.ret []) fun x115 => Pm.ret (x114 :: x115)) fun x116 => Pm.ret (Q.tup x116)) fun x118 => Pm.of (cL x117 x118)) fun x119 => Pm.bind (Pm.bind (Pm.bind (Pm.bind (Pm.ret (Q.int 7)) fun x106 => Pm.bind (Pm.ret []) fun x107 => Pm.ret (x106 :: x107)) fun x108 => Pm.ret (Q.tup x108)) fun x109 => Pm.bind (Pm.bind (Pm.bind (Pm.bind (Pm.ret (Q.int 0)) fun x101 => Pm.bind (Pm.bind (Pm.ret (Q.int 0)) fun x99 => Pm.bind (Pm.bind (Pm.ret (Q.int 0)) fun x97 => Pm.bind (Pm.bind (Pm.ret (Q.int 9)) fun x95 => Pm.bind (Pm.ret []) fun x96 => Pm.ret (x95 :: x96)) fun x98 => Pm.ret (x97 :: x98)) fun x100 => Pm.ret (x99 :: x100)) fun x102 => Pm.ret (x101 :: x102)) fun x103 => Pm.ret (Q.tup x103)) fun x104 => Pm.bind (Pm.bind (Pm.bind (Pm.bind (Pm.bind (Pm.ret (Q.int 4)) fun x88 => Pm.bind (Pm.ret []) fun x89 => Pm.ret (x88 :: x89)) fun x90 => Pm.ret (Q.tup x90)) fun x91 => Pm.bind (Pm.ret (Q.int 30)) fun x92 => Pm.of (wQ x91 x92)) fun x93 => Pm.bind (Pm.ret []) fun x94 => Pm.ret (x93 :: x94)) fun x105 => Pm.ret (x104 :: x105)) fun x110 => Pm.ret (x109 :: x110)) fun x120 => Pm.ret (x119 :: x120)) fun x121 => Pm.ret (Q.lst x121)) fun (x122 : Q) => (Pm.bind (Pm.bind (Pm.bind (Pm.ret x122) fun x123 => Pm.of (lE x123)) fun x128 => lcP some (fun (x124 : Q) => (Pm.bind (Pm.bind (Pm.ret x124) fun x125 => Pm.bind (Pm.ret x13.1) fun x126 => Pm.of (qNi x125 x126)) fun x127 => Pm.of (dI x127))) (fun (x124 : Q) => (Pm.ret x124)) x128) fun (x129 : Q) => (Pm.bind (Pm.bind (Pm.bind (Pm.bind (Pm.bind (Pm.bind (Pm.ret a_0) fun x138 => Pm.bind (Pm.bind (Pm.ret x129) fun x136 => Pm.bind (Pm.ret []) fun x137 => Pm.ret (x136 :: x137)) fun x139 => Pm.ret (x138 :: x139)) (pc bA)) fun x140 => Pm.bind (Pm.bind (Pm.bind (Pm.bind (Pm.ret a_0) fun x132 => Pm.bind (Pm.bind (Pm.ret x129) fun x130 => Pm.bind (Pm.ret []) fun x131 => Pm.ret (x130 :: x131)) fun x133 => Pm.ret (x132 :: x133)) (pc bA)) fun x134 => Pm.bind (Pm.ret []) fun x135 => Pm.ret (x134 :: x135)) fun x141 => Pm.ret (x140 :: x141)) fun x142 => Pm.ret (Q.tup x142)) fun x143 => Pm.of (un2 x143)) fun (x144 : Q × Q) => (Pm.seq (Pm.bind (Pm.bind (Pm.bind (Pm.bind (Pm.bind (Pm.bind (Pm.ret a_1) fun x172 => Pm.bind (Pm.bind (Pm.bind (Pm.bind (Pm.bind (Pm.ret x26) fun x161 => Pm.bind (Pm.bind (Pm.bind (Pm.ret x144.1) fun x158 => Pm.bind (Pm.ret []) fun x159 => Pm.ret (x158 :: x159)) fun x160 => Pm.ret (Q.tup x160)) fun x162 => Pm.of (cL x161 x162)) fun x163 => Pm.bind (Pm.ret x26) fun x164 => Pm.of (cL x163 x164)) fun x168 => Pm.bind (Pm.bind (Pm.bind (Pm.ret x144.2) fun x165 => Pm.bind (Pm.ret []) fun x166 => Pm.ret (x165 :: x166)) fun x167 => Pm.ret (Q.tup x167)) fun x169 => Pm.of (cL x168 x169)) fun x170 => Pm.bind (Pm.bind (Pm.ret x144.1) fun x156 => Pm.bind (Pm.ret []) fun x157 => Pm.ret (x156 :: x157)) fun x171 => Pm.ret (x170 :: x171)) fun x173 => Pm.ret (x172 :: x173)) (pc bL)) fun x174 => Pm.of (dI x174)) fun x175 => Pm.ret (!x175)) fun x176 => if x176 = true then Pm.ret true else (Pm.bind (Pm.bind (Pm.bind (Pm.bind (Pm.ret a_1) fun x152 => Pm.bind (Pm.bind (Pm.bind (Pm.bind (Pm.ret x144.2) fun x147 => Pm.bind (Pm.ret []) fun x148 => Pm.ret (x147 :: x148)) fun x149 => Pm.ret (Q.tup x149)) fun x150 => Pm.bind (Pm.bind (Pm.ret x144.2) fun x145 => Pm.bind (Pm.ret []) fun x146 => Pm.ret (x145 :: x146)) fun x151 => Pm.ret (x150 :: x151)) fun x153 => Pm.ret (x152 :: x153)) (pc bL)) fun x154 => Pm.of (dI x154)) fun x155 => Pm.ret (!x155))) fun x178 => if x178 = true then (Pm.bind (Pm.ret (Q.bl false)) fun x177 => Pm.ret (.ret x177)) else (Pm.ret (.nx ()))) (fun (x179 : Unit) => (Pm.bind (Pm.bind (Pm.bind (Pm.ret a_1) fun x180 => Pm.of (gC x180)) fun x181 => Pm.bind (Pm.ret x13.2) fun x182 => Pm.of (qEq x181 x182)) fun x183 => Pm.ret (.ret x183)))))))))))
def oU (pc : Nat -> List Q -> Pm Q) (qs : List Q) : Pm (Fl Unit Unit) := match qs with
 | [a_0, a_1] => kJ pc a_0 a_1
 | _ => .bad
theorem aBq {cl : Cll} {pc : Nat -> List Q -> Pm Q} (ih : ∀ f, FnS (frT f) (cl f) (pc f)) (a_0 a_1 : Q) : SS' false (fun _ : Unit => []) none [.fz a_0, .fz a_1, .no, .no, .no, .no, .no, .no, .no, .no, .no, .no] (gJ cl) (kJ pc a_0 a_1) (fun _ : Unit => [.no, .no, .no, .no, .no, .no, .no, .no, .no, .no, .no, .no]) :=
 (fL (aEi (tg2 2 3) trivial (bW (by decide) (aB (sX (ih bU) (aB (aF 1 rfl) (aB (bW (by decide) aU) aU))).toS (aB (fM mD (aF 1 rfl).toW) aU)))) (fun x13 => (fL (iK 4 trivial (fM pL (xL (vs := [5]) (aHT (cM (ih aZ) (aB (aF 0 rfl) (aB cD aU))).toW).toW (tg1 5) (fun x19 => qX) (fun x19 => (cM (ih bA) (aB (aF 0 rfl) (aB (aF 2 rfl) aU))))).toW)) (fun x26 => (lL (zV (Γ0 := fun (x27 : Unit) => [.fz a_0, .fz a_1, .fz x13.1, .fz x13.2, .fz x26, .no, .no, .no, .no, .no, .no, .no]) (z := ()) trivial (i_e (bW (by decide) (aB (bW (by decide) aU) (aB (fM pL (aF 2 rfl).toW) (aB (aF 4 rfl) (aB (bQ iJ (fM aKb (aF 4 rfl).toW).toW (aF 4 rfl).toW) (aB (bW (by decide) (aB (bQ vJ (aF 2 rfl).toW (fM aGc cD.toW).toW) aU)) aU))))))) (.eq (.eq (.eq (.eq (.eq (.no (.no (.no (.no (.no (.no (.no .nil)))))))))))) (tg1 6) (fun x51 x27 => (fL (iK 7 trivial (cM (ih bP) (aB (aF 1 rfl) (aB (aF 6 rfl) (aB (bW (by decide) aU) aU))))) (fun x59 => (pS trivial (t_b (bQ aLV (fM mD (vY (by decide) (aB (cM (ih bD) (aB (aF 1 rfl) (aB (aF 6 rfl) aU))) (aB (aGt (ih bD) (aB (aF 6 rfl) (aB (aF 1 rfl) aU))) aU))).toW).toW (fM mD (vY (by decide) (aB (aF 7 rfl) (aB (aF 7 rfl) aU))).toW).toW).toW) (gN trivial xK) (lK (z := ()) (.eq (.eq (.eq (.eq (.eq (.no (.no (.no (.no (.no (.no (.no .nil)))))))))))))))))) (fun x87 => (fL (iK 8 trivial (vY (by decide) (aB (bQ iJ (bQ vJ (aF 2 rfl).toW (fM aGc cD.toW).toW).toW (bW (by decide) (aB cD aU)).toW) (aB (bW (by decide) (aB cD aU)) (aB (bW (by decide) (aB cD (aB cD (aB cD (aB cD aU))))) (aB (bQ aIw (bW (by decide) (aB cD aU)).toW cD.toW) aU))))).toS) (fun x122 => (fL (iK 8 trivial (xL (vs := [9]) (i_e (aF 8 rfl)).toW (tg1 9) (fun x124 => (t_b (bQ aIx (aF 9 rfl).toW (aF 2 rfl).toW).toW)) (fun x124 => (aF 9 rfl))).toS) (fun x129 => (fL (aEi (tg2 10 11) trivial (bW (by decide) (aB (cM (ih bA) (aB (aF 0 rfl) (aB (aF 8 rfl) aU))) (aB (cM (ih bA) (aB (aF 0 rfl) (aB (aF 8 rfl) aU))) aU)))) (fun x144 => (lL (ΓM := fun (x179 : Unit) => [.no, .fz a_1, .no, .fz x13.2, .no, .no, .no, .no, .no, .no, .no, .no]) (pS trivial (aJg (xA (t_b (cM (ih bL) (aB (aF 1 rfl) (aB (bQ iJ (bQ iJ (bQ iJ (aF 4 rfl).toW (bW (by decide) (aB (aF 10 rfl) aU)).toW).toW (aF 4 rfl).toW).toW (bW (by decide) (aB (aF 11 rfl) aU)).toW) (aB (aF 10 rfl) aU)))).toW)) (xA (t_b (cM (ih bL) (aB (aF 1 rfl) (aB (bW (by decide) (aB (aF 11 rfl) aU)) (aB (aF 11 rfl) aU)))).toW))) (gN trivial xK) (lK (z := ()) (.no (.eq (.no (.eq (.no (.no (.no (.no (.no (.no (.no (.no .nil)))))))))))))) (fun x179 => (gN trivial (bQ aIu (fM mD (aF 1 rfl).toW).toW (aF 3 rfl).toW))))))))))))))))
theorem aAy {cl : Cll} {pc : Nat -> List Q -> Pm Q} (ih : ∀ f, FnS (frT f) (cl f) (pc f)) : FnS false (fun ws h => if ws.length = 2 then fF (gJ cl (aV 12 ws) h) else .bad) (fun qs => if qs.length = 2 then (oU pc qs).bind cF else .bad) :=
 hM (P := oU pc) (ΓL := fun _ : Unit => []) (ΓN := fun _ : Unit => [.no, .no, .no, .no, .no, .no, .no, .no, .no, .no, .no, .no]) fun qs hq => match qs, hq with
  | [a_0, a_1], _ => aBq ih a_0 a_1
def PT : xG := fun f => match f with
 | 0 => some (fun pc _ qs => if qs.length = 1 then (sN pc qs).bind cF else .bad)
 | 1 => some (fun pc _ qs => if qs.length = 2 then (yL pc qs).bind rM else .bad)
 | 2 => some (fun pc _ qs => if qs.length = 1 then (vT pc qs).bind cF else .bad)
 | 3 => some (fun pc _ qs => if qs.length = 3 then (nB pc qs).bind cF else .bad)
 | 4 => some (fun pc _ qs => if qs.length = 2 then (lI pc qs).bind cF else .bad)
 | 6 => some (fun _ => iF)
 | 7 => some (fun pc _ qs => if qs.length = 2 then (qY pc qs).bind cF else .bad)
 | 10 => some (fun _ => eS)
 | 11 => some (fun pc _ qs => if qs.length = 1 then (sO pc qs).bind cF else .bad)
 | 12 => some (fun pc _ qs => if qs.length = 1 then (oS pc qs).bind cF else .bad)
 | 13 => some (fun _ => iG)
 | 15 => some (fun pc _ qs => if qs.length = 3 then (lH pc qs).bind cF else .bad)
 | 16 => some (fun pc _ qs => if qs.length = 2 then (nE pc qs).bind rM else .bad)
 | 17 => some (fun pc _ qs => if qs.length = 3 then (iQ pc qs).bind cF else .bad)
 | 18 => some (fun pc _ qs => if qs.length = 2 then (oU pc qs).bind cF else .bad)
 | _ => none
theorem jY : ∀ (k f : Nat), FnS (frT f) (aL T k f) (aR PT k f)
 | 0, f => aEV
 | k + 1, f => match f with
  | 0 => dA (d := ⟨1, 1, iV⟩) rfl rfl (aCM (jY k))
  | 1 => dA (d := ⟨5, 2, lT⟩) rfl rfl (aEX (jY k))
  | 2 => dA (d := ⟨1, 1, jU⟩) rfl rfl (aDK (jY k))
  | 3 => dA (d := ⟨6, 3, fP⟩) rfl rfl (zI (jY k))
  | 4 => dA (d := ⟨4, 2, eJ⟩) rfl rfl (xP (jY k))
  | 5 => jR rfl
  | 6 => uR rfl (aBS k)
  | 7 => dA (d := ⟨2, 2, eQ⟩) rfl rfl (aBD (jY k))
  | 8 => jR rfl
  | 9 => jR rfl
  | 10 => uR rfl (vP k)
  | 11 => dA (d := ⟨1, 1, fT⟩) rfl rfl (aCN (jY k))
  | 12 => dA (d := ⟨2, 1, dJ⟩) rfl rfl (aAx (jY k))
  | 13 => uR rfl (aBT k)
  | 14 => jR rfl
  | 15 => dA (d := ⟨6, 3, eI⟩) rfl rfl (xO (jY k))
  | 16 => dA (d := ⟨5, 2, fQ⟩) rfl rfl (zJ (jY k))
  | 17 => dA (d := ⟨5, 3, cP⟩) rfl rfl (uB (jY k))
  | 18 => dA (d := ⟨12, 2, gJ⟩) rfl rfl (aAy (jY k))
  | 19 => jR rfl
  | f + 20 => jR rfl
theorem aCH {k : Nat} {a_0 : Q} : aR PT (k + 1) iT [a_0] = (nP (aR PT k) a_0).bind cF := rfl
theorem aAl {k : Nat} {a_0 a_1 : Q} : aR PT (k + 1) gX [a_0, a_1] = (jW (aR PT k) a_0 a_1).bind rM := rfl
theorem aDC {k : Nat} {a_0 : Q} : aR PT (k + 1) jS [a_0] = (qM (aR PT k) a_0).bind cF := rfl
theorem rD {k : Nat} {a_0 a_1 a_2 : Q} : aR PT (k + 1) cB [a_0, a_1, a_2] = (dX (aR PT k) a_0 a_1 a_2).bind cF := rfl
theorem oZ {k : Nat} {a_0 a_1 : Q} : aR PT (k + 1) bD [a_0, a_1] = (gE (aR PT k) a_0 a_1).bind cF := rfl
theorem aBA {k : Nat} {a_0 a_1 : Q} : aR PT (k + 1) bA [a_0, a_1] = (lN (aR PT k) a_0 a_1).bind cF := rfl
theorem oY {k : Nat} {a_0 a_1 a_2 : Q} : aR PT (k + 1) bP [a_0, a_1, a_2] = (dB (aR PT k) a_0 a_1 a_2).bind cF := rfl
theorem rE {k : Nat} {a_0 a_1 : Q} : aR PT (k + 1) bU [a_0, a_1] = (dY (aR PT k) a_0 a_1).bind rM := rfl
theorem uA {k : Nat} {a_0 a_1 a_2 : Q} : aR PT (k + 1) bL [a_0, a_1, a_2] = (gB (aR PT k) a_0 a_1 a_2).bind cF := rfl
theorem aAm {k : Nat} {a_0 a_1 : Q} : aR PT (k + 1) fD [a_0, a_1] = (kJ (aR PT k) a_0 a_1).bind cF := rfl
theorem aBz {k : Nat} {qs : List Q} : aR PT (k + 1) aZ qs = iF k qs := rfl
theorem uO {k : Nat} {qs : List Q} : aR PT (k + 1) bZ qs = eS k qs := rfl
theorem aBB {k : Nat} {qs : List Q} : aR PT (k + 1) eO qs = iG k qs := rfl
def wJ (pc : Nat -> List Q -> Pm Q) (a_1 a_2 : Q) : Pm (Fl Unit Unit) :=
 (Pm.bind (Pm.bind (Pm.bind (Pm.ret a_2) fun x3 => Pm.bind (Pm.bind (Pm.ret (Q.int 5)) fun x1 => Pm.bind (Pm.ret []) fun x2 => Pm.ret (x1 :: x2)) fun x4 => Pm.ret (x3 :: x4)) (pc bZ)) fun (x5 : Q) => (Pm.bind (Pm.bind (Pm.bind (Pm.bind (Pm.bind (Pm.bind (Pm.ret (Q.int 3)) fun x6 => Pm.of (nU x6)) fun x8 => lcP some (fun (x7 : Q) => (Pm.ret true)) (fun (x7 : Q) => (Pm.bind (Pm.bind (Pm.ret a_2) fun x19 => Pm.bind (Pm.bind (Pm.bind (Pm.bind (Pm.ret a_2) fun x15 => Pm.bind (Pm.bind (Pm.ret x5) fun x13 => Pm.bind (Pm.bind (Pm.ret (Q.int 10)) fun x11 => Pm.bind (Pm.bind (Pm.ret (Q.int 3)) fun x9 => Pm.bind (Pm.ret []) fun x10 => Pm.ret (x9 :: x10)) fun x12 => Pm.ret (x11 :: x12)) fun x14 => Pm.ret (x13 :: x14)) fun x16 => Pm.ret (x15 :: x16)) (pc eO)) fun x17 => Pm.bind (Pm.ret []) fun x18 => Pm.ret (x17 :: x18)) fun x20 => Pm.ret (x19 :: x20)) (pc fD))) x8) fun x21 => Pm.of (yA x21)) fun x22 => Pm.of (dI x22)) fun x23 => Pm.ret (!x23)) fun x25 => if x25 = true then (Pm.bind (Pm.ret (Q.bl false)) fun x24 => Pm.ret (.ret x24)) else (Pm.ret (.nx ()))))
theorem aHm {cl : Cll} {pc : Nat -> List Q -> Pm Q} (ih : ∀ f, FnS (frT f) (cl f) (pc f)) (w : D) (a_1 a_2 : Q) : SS' false (fun _ : Unit => [.eqd w, .no, .no, .no, .no]) none [.eqd w, .fz a_1, .fz a_2, .no, .no] (aM (aS (.nm 3) (aK cl bZ (aA [(mV 2), (mC (.int 5))])))
  (fE (kH (mB (mF1 uL (mLc (gM (mC (.int 3))) (.nm 4) (fun _ h => .ok true h) (aK cl fD (aA [(mV 2), (aK cl eO (aA [(mV 2), (mV 3), (mC (.int 10)), (mC (.int 3))]))])) [4])))) (bF (mC (.bl false))) dF)) (wJ pc a_1 a_2) (fun _ : Unit => [.eqd w, .no, .no, .no, .no]) :=
 (fL (iK 3 trivial (cM (ih bZ) (aB (aF 2 rfl) (aB cD aU)))) (fun x5 => (pS trivial (xA (t_b (fM aJ8 (xL (vs := [4]) (aHT cD.toW).toW (tg1 4) (fun x7 => qX) (fun x7 => (cM (ih fD) (aB (aF 2 rfl) (aB (cM (ih eO) (aB (aF 2 rfl) (aB (aF 3 rfl) (aB cD (aB cD aU))))) aU))))).toW).toW)) (gN trivial xK) (lK (z := ()) (.eq (.no (.no (.no (.no .nil)))))))))
theorem aFl (hp : ∀ j : Nat, j <= 3 -> wJ (aR PT 199) (.int j) .src (fun r _ => (∃ x, r = .ok (.nx x)) \/ ∃ x, r = .ok (.cont x)) 0) : aCy := fun ns _ =>
 aJJ (N := 2) (isrc := jH) (p := fun j => wJ (aR PT 199) (.int j) .src) (ΓL := fun _ : Unit => [.eqd (.fl (ns.map .int)), .no, .no, .no, .no]) (ΓN := fun _ : Unit => [.eqd (.fl (ns.map .int)), .no, .no, .no, .no]) (il := wC) (m := wH) rfl rfl (aGZ (a := 3) (by decide)) (fun j hj h => aEN 198 hj) (fun j => aHm (jY 199) _ _ _) hp (fun _ => ⟨rfl, rfl⟩) (fun _ => ⟨rfl, rfl⟩)
end LW
end
section
namespace LW
open PV PySem PySem.Spec PyProof.Rows L2
theorem aEb (k : Nat) {n : Int} {K : Rs Q -> Nat -> Prop} {c : Nat} (h1 : 0 < n) (h2 : n < 1073741824) (hc : c < 1000000000) (h : ∀ r : Nat, (r : Int) < n -> K (.ok (.int r)) (c + 1)) : aR PT (k + 1) aZ [.src, .int n] K c := by
 rw [aBz]
 exact ⟨⟨h1, h2, hc⟩, h⟩
theorem aA4 (k : Nat) {l : List Q} {K : Rs Q -> Nat -> Prop} {c : Nat} (h1 : 0 < l.length) (h2 : l.length < 1073741824) (hc : c < 1000000000) (h : ∀ x ∈ l, K (.ok x) (c + 1)) : aR PT (k + 2) bA [.src, .lst l] K c := by
 rw [aBA]
 simp only [lN, aH, aI, aFr, aP]
 refine aEb k (by omega) (by omega) hc fun r hr => ?_
 have hr' : r < l.length := by omega
 simp only [nG, aIk (List.getElem?_eq_getElem hr'), aP, aH, aAt]
 exact h _ (List.getElem_mem hr')
end LW
end
section
namespace LW
open PV PySem PySem.Spec PyProof.Rows L2
theorem zB (k : Nat) {t : Tr} : aR PT (k + 1) iT [t.q] = .ret (.bl t.isLeaf) := by
 rw [aCH]; simp [nP]
end LW
end
section
namespace LW
open PV PySem PySem.Spec PyProof.Rows L2
theorem aGW {ops : List Opr} (O : OpsOk ops) {p : Str -> Prop} : ∀ (d k : Nat) (t : Tr) (pl : Pl), t.ok ops p -> t.depth <= d -> pl.length + d <= 1000 -> t.size <= 100000 -> aR PT (k + 2 + d) gX [t.q, plN pl] = .ret (.lst ((aG t).map fun q => plN (pl ++ q))) := by
 intro d
 induction d with
 | zero =>
  intro k t pl ok hd _ _
  cases t with
  | leaf s => rw [show k + 2 + 0 = k + 1 + 1 from rfl, aAl]; simp [jW, zB, Tr.isLeaf, aG] <;> rfl
  | grp t => simp [Tr.depth] at hd
  | nd n ts => simp [Tr.depth] at hd
 | succ d ih =>
  intro k t pl ok hd hpl hsz
  rw [show k + 2 + (d + 1) = k + 2 + d + 1 by omega, aAl]
  have l1 := zB (k + 1 + d) (t := t)
  rw [show k + 1 + d + 1 = k + 2 + d by omega] at l1
  -- the children
  have key : ∀ (ts : List Tr) (j : Nat) (acc : List Q), Tr.oks ops p ts -> Tr.depths ts <= d -> ts.length <= 100 -> Tr.sizes ts <= 100000 -> acc.length + Tr.sizes ts <= 200000 -> dZ (β := Unit) (L := Unit) un2 (qE (aR PT (k + 2 + d)) (plN pl)) ((ts.map Tr.q).mapIdx fun i q => .tup [.int ((j + i : Nat) : Int), q]) (.lst acc) = .ret (.nx (.lst (acc ++ (placesTs ts j).map fun q => plN (pl ++ q)))) := by
   intro ts
   induction ts with
   | nil => intro j acc _ _ _ _ _; simp [dZ, placesTs]
   | cons t ts iht =>
    intro j acc hok hdp hlen hs1 hs2
    simp only [Tr.depths, Tr.sizes, List.length_cons] at hdp hlen hs1 hs2
    have e := ih k t (pl ++ [j]) hok.1 (by omega) (by simp; omega) (by omega)
    have pl1 := fH (t := t)
    have ad := lV (p := pl) (n := j) (by omega)
    have sh : ((ts.map Tr.q).mapIdx fun i q => Q.tup [.int ((j + (i + 1) : Nat) : Int), q]) = (ts.map Tr.q).mapIdx fun i q => Q.tup [.int ((j + 1 + i : Nat) : Int), q] := by
     congr 1; funext i q; rw [show j + (i + 1) = j + 1 + i by omega]
    have mm : ((aG t).map fun q => plN (pl ++ [j] ++ q)) = ((aG t).map fun q => plN (pl ++ j :: q)) := by
     congr 1; funext q; rw [List.append_assoc]; rfl
    have iht' := iht (j + 1) (acc ++ (aG t).map fun q => plN (pl ++ j :: q)) hok.2 (by omega) (by omega) (by omega) (by simp; omega)
    simp only [List.map_cons, List.mapIdx_cons, dZ, mF, aP, aH, Nat.add_zero]
    simp only [qE, aH, aI, ad, aP, e, aAR, mm]
    rw [zA (by simp only [List.length_map]; omega)]
    simp only [aP, aH, tT, sh]
    rw [iht']
    simp [placesTs, Function.comp_def]
  cases t with
  | leaf s => simp [jW, l1, Tr.isLeaf, aG] <;> rfl
  | grp t =>
   simp only [Tr.depth] at hd
   simp only [Tr.size] at hsz
   have kk := key [t] 0 [plN pl] ⟨ok, trivial⟩ (by simp [Tr.depths]; omega) (by simp) (by simp [Tr.sizes]; omega) (by simp [Tr.sizes]; omega)
   have sl1 : qSl (.tup [.str "(", t.q]) (some 1) none = some (.tup [t.q]) := kQ
   have en : iH (.tup [t.q]) = some (([t].map Tr.q).mapIdx fun i q => .tup [.int ((0 + i : Nat) : Int), q]) := by simp [fW]
   simp only [Tr.isLeaf] at l1
   rw [eM] at l1 ⊢
   unfold jW
   simp only [aH, aI, l1, aP, dR, Bool.not_false, if_true, kS, sl1, en]
   rw [lR (by simp), kk]
   simp [aG, placesTs]
  | nd n ts =>
   simp only [Tr.depth] at hd
   simp only [Tr.size] at hsz
   obtain ⟨⟨o, eo, hl⟩, hs⟩ := ok
   have h4 := gP (O.ok o (List.mem_of_getElem? eo))
   have kk := key ts 0 [plN pl] hs (by omega) (by omega) (by omega) (by simp; omega)
   have sl1 : qSl (.tup (.int n :: Tr.qs ts)) (some 1) none = some (.tup (Tr.qs ts)) := kQ
   have en : iH (.tup (Tr.qs ts)) = some ((ts.map Tr.q).mapIdx fun i q => .tup [.int ((0 + i : Nat) : Int), q]) := by simp [fW, jL]
   simp only [Tr.isLeaf] at l1
   rw [tM] at l1 ⊢
   unfold jW
   simp only [aH, aI, l1, aP, dR, Bool.not_false, if_true, kS, sl1, en]
   rw [lR (by simp; omega), kk]
   simp [aG]
theorem aA5 {ops : List Opr} (O : OpsOk ops) {p : Str -> Prop} (d k : Nat) (t : Tr) (ok : t.ok ops p) (hd : t.depth <= d) (h1 : d <= 900) (h2 : t.size <= 100000) : aR PT (k + 3 + d) jS [t.q] = .ret (.tup ((aG t).map plN)) := by
 have e := aGW O d k t [] ok hd (by simp; omega) h2
 have e0 : plN [] = .tup [] := rfl
 rw [e0] at e
 rw [show k + 3 + d = k + 2 + d + 1 by omega, aDC]
 simp [qM, e]
end LW
end
section
namespace LW
open PV PySem PySem.Spec PyProof.Rows L2
/-- what the dict of wanted places tells -/
def eE (kvs : List (List Key × Q)) (pl : Pl) : Pl -> Bool := fun q => (bX kvs (plK (pl ++ q))).isSome
theorem aA3 {ops : List Opr} (O : OpsOk ops) {p : Str -> Prop} {kvs : List (List Key × Q)} : ∀ (d k : Nat) (t : Tr) (pl : Pl), t.ok ops p -> t.depth <= d -> pl.length + d <= 1000 -> aR PT (k + 1 + d) cB [t.q, plN pl, .dT kvs] = .ret (bG t (eE kvs pl)).q := by
 intro d
 have w0 : ∀ pl, eE kvs pl [] = (bX kvs (plK pl)).isSome := fun pl => by simp [eE]
 have w1 : ∀ pl c, (fun q => eE kvs pl (c :: q)) = eE kvs (pl ++ [c]) := fun pl c => by funext q; simp [eE]
 induction d with
 | zero =>
  intro k t pl ok hd _
  cases t with
  | leaf s =>
   rw [show k + 1 + 0 = k + 1 from rfl, rD, qZ, w0]
   cases h : (bX kvs (plK pl)).isSome <;> simp [dX, Tr.isLeaf, wP, h, inP, eM]
  | grp t => simp [Tr.depth] at hd
  | nd n ts => simp [Tr.depth] at hd
 | succ d ih =>
  intro k t pl ok hd hpl
  rw [show k + 1 + (d + 1) = k + 1 + d + 1 by omega, rD, qZ, w0]
  -- the children
  have key : ∀ (ts : List Tr), Tr.oks ops p ts -> Tr.depths ts <= d -> ts.length <= 100 -> lcP un2 (fun (_ : Q × Q) => Pm.ret true) (fun (x10 : Q × Q) => (((Pm.ret x10.2).bind fun x21 => (((Pm.ret (plN pl)).bind fun x17 => (((Pm.ret x10.1).bind fun x14 => (Pm.ret []).bind fun x15 => Pm.ret (x14 :: x15)).bind fun x16 => Pm.ret (Q.tup x16)).bind fun x18 => Pm.of (cL x17 x18)).bind fun x19 => ((Pm.ret (Q.dT kvs)).bind fun x12 => (Pm.ret []).bind fun x13 => Pm.ret (x12 :: x13)).bind fun x20 => Pm.ret (x19 :: x20)).bind fun x22 => Pm.ret (x21 :: x22)).bind (aR PT (k + 1 + d) cB))) (fW (ts.map Tr.q)) = .ret (.lst ((withPs ts 0 (eE kvs pl)).map Tr.q)) := by
   intro ts hok hdp hlen
   rw [yO, aCe (xs := ts.zipIdx) (fun q => Q.tup [.int (q.2 : Nat), q.1.q]) (fun q => (bG q.1 (eE kvs (pl ++ [q.2]))).q) (by simp; omega) fun q hq => by
    have eq := pB hq
    have ho := pH.mp hok q.1 (List.mem_of_getElem? eq)
    have hdq := iR.mp hdp q.1 (List.mem_of_getElem? eq)
    have e := ih k q.1 (pl ++ [q.2]) ho hdq (by simp; omega)
    have ad := lV (p := pl) (n := q.2) (by omega)
    exact ⟨_, mF, rfl, by simp [ad, e]⟩]
   congr 2
   apply List.ext_getElem?
   intro i
   simp only [List.getElem?_map, List.getElem?_zipIdx, rA, Nat.zero_add, Option.map_map]
   cases ts[i]? with
   | none => rfl
   | some t => simp [w1]
  cases t with
  | leaf s =>
   cases h : (bX kvs (plK pl)).isSome <;> simp [dX, Tr.isLeaf, wP, h, inP, eM]
  | grp t =>
   simp only [Tr.depth] at hd
   have kk := key [t] ⟨ok, trivial⟩ (by simp [Tr.depths]; omega) (by simp)
   have sl1 : qSl (.tup [.str "(", t.q]) (some 1) none = some (.tup [t.q]) := kQ
   have ad : cL (.tup [.str "("]) (.tup [(bG t (eE kvs (pl ++ [0]))).q]) = some (.tup [.str "(", (bG t (eE kvs (pl ++ [0]))).q]) := jK (by simp)
   have is1 : cS (Tr.grp t).q (.ty "tuple") = some (.bl true) := by simp [Tr.isLeaf]
   have fin : (inP (.grp t) (eE kvs pl)).q = .tup [.str "(", (bG t (eE kvs (pl ++ [0]))).q] := by simp only [inP, eM, w1]
   rw [eM] at is1 ⊢
   unfold dX
   simp only [List.map_cons, List.map_nil, withPs, w1] at kk
   simp only [aH, aI, is1, aP, dR, if_true, kS, sl1, nS] at kk ⊢
   rw [kk]
   cases h : (bX kvs (plK pl)).isSome <;> simp [ad, wP, h, fin, eM]
  | nd n ts =>
   simp only [Tr.depth] at hd
   obtain ⟨⟨o, eo, hl⟩, hs⟩ := ok
   have h4 := gP (O.ok o (List.mem_of_getElem? eo))
   have kk := key ts hs (by omega) (by omega)
   have sl1 : qSl (.tup (.int n :: Tr.qs ts)) (some 1) none = some (.tup (Tr.qs ts)) := kQ
   have ad : cL (.tup [.int n]) (.tup ((withPs ts 0 (eE kvs pl)).map Tr.q)) = some (.tup (.int n :: (withPs ts 0 (eE kvs pl)).map Tr.q)) := jK (by simp [lP]; omega)
   have is1 : cS (Tr.nd n ts).q (.ty "tuple") = some (.bl true) := by simp [Tr.isLeaf]
   have fin : (inP (.nd n ts) (eE kvs pl)).q = .tup (.int n :: (withPs ts 0 (eE kvs pl)).map Tr.q) := by simp only [inP, tM, jL]
   rw [tM] at is1 ⊢
   simp only [jL] at is1 sl1
   unfold dX
   simp only [aH, aI, is1, aP, dR, if_true, kS, sl1, nS, jL] at kk ⊢
   rw [kk]
   cases h : (bX kvs (plK pl)).isSome <;> simp [ad, wP, h, fin, eM]
theorem zK {ops : List Opr} (O : OpsOk ops) {p : Str -> Prop} (d k : Nat) (t : Tr) (ps : List Pl) (ok : t.ok ops p) (hd : t.depth <= d) (h1 : d <= 900) (h2 : t.size <= 100000) (hps : ∀ q ∈ ps, q ∈ aG t) (hl : ps.length <= 100000) : aR PT (k + 4 + d) bD [t.q, .tup (ps.map plN)] = .ret (bG t fun q => decide (q ∈ ps)).q := by
 have e1 := aA5 O d k t ok hd h1 h2
 have e2 := aA3 O (kvs := vL (ps.map plK)) d (k + 2) t [] ok hd (by simp; omega)
 rw [show k + 2 + 1 + d = k + 3 + d by omega] at e2
 have e0 : plN [] = .tup [] := rfl
 rw [e0] at e2
 have we : eE (vL (ps.map plK)) [] = fun q => decide (q ∈ ps) := by
  funext q
  simp only [eE, List.nil_append, vM, List.mem_map, aCj, exists_eq_right]
 rw [we] at e2
 have pl := fH (t := t)
 rw [show k + 4 + d = k + 3 + d + 1 by omega, oZ]
 unfold gE
 simp only [aH, aI, e1, vH, aP]
 rw [rL (ps := aG t) (by omega) (fun _ => rfl) (fun _ => rfl) fun _ => rfl]
 simp only [aH]
 rw [aAw (xs := ps) plN (fun _ => true) .non (by omega) fun q hq => ⟨_, rfl, by
  have hm : plK q ∈ (aG t).map plK := List.mem_map.mpr ⟨q, hps q hq, rfl⟩
  simp [dU, aA1, vM, hm]⟩]
 have ha : (ps.all fun _ => true) = true := by simp
 rw [if_pos ha]
 simp only [seq_nx, aH]
 rw [rL (ps := ps) (by omega) (fun _ => rfl) (fun _ => rfl) fun _ => rfl]
 simp [e2]
end LW
end
section
namespace LW
open PV PySem PySem.Spec PyProof.Rows L2
theorem qQ {p : Pl} {ps : List Pl} : qIn (plN p) (.tup (ps.map plN)) = some (.bl (decide (p ∈ ps))) := by
 have e1 : aY bJ (plN p) = some (cG p) := kE
 have e2 : aY bJ (.tup (ps.map plN)) = some (.tuple (ps.map cG)) := aEC (n := 63)
 have e3 : ((ps.map cG).any fun z => PyData.eqv z (cG p)) = decide (p ∈ ps) := by
  rw [Bool.eq_iff_iff]
  simp only [List.any_map, List.any_eq_true, Function.comp_apply, decide_eq_true_eq]
  constructor
  ·rintro ⟨x, hx, e⟩
   rw [gW kK kK, vD] at e
   exact e ▸ hx
  ·intro h
   exact ⟨p, h, (gW kK kK).mpr rfl⟩
 have h1 := dE (ds := ps.map cG) fun d hd => by
  obtain ⟨s, hs', rfl⟩ := List.mem_map.mp hd
  exact kO.1
 have h2 := eK (ds := ps.map cG) (n := 1) fun d hd => by
  obtain ⟨s, hs', rfl⟩ := List.mem_map.mp hd
  exact kO.2
 have sh : SeqAt.shaped (.tuple (ps.map cG)) = true := by
  simp [SeqAt.shaped, PyData.canLay0, PyData.depth, h1]
  omega
 have e4 : gT (plN p) (.tup (ps.map plN)) = some (decide (p ∈ ps)) := by
  simp only [gT, e1, e2, nY, sh, Bool.and_self, if_true, e3]
 simp [qIn, e4]
def inT (ps : List Pl) (pl : Pl) : Pl -> Bool := fun q => decide (pl ++ q ∈ ps)
theorem aEa {x : Q} {qs : List Q} : qSl (.tup (x :: qs)) none (some 1) = some (.tup [x]) := by
 have := aIn (qs := x :: qs) (n := 1) (by simp)
 simpa using this
theorem aC7 {ops : List Opr} (O : OpsOk ops) {p : Str -> Prop} {ps : List Pl} : ∀ (d k : Nat) (t : Tr) (pl : Pl), t.ok ops p -> t.depth <= d -> pl.length + d <= 1000 -> aR PT (k + 1 + d) bP [t.q, .tup (ps.map plN), plN pl] = .ret (bG t (inT ps pl)).q := by
 intro d
 have w0 : ∀ pl, inT ps pl [] = decide (pl ∈ ps) := fun pl => by simp [inT]
 have w1 : ∀ pl c, (fun q => inT ps pl (c :: q)) = inT ps (pl ++ [c]) := fun pl c => by funext q; simp [inT]
 induction d with
 | zero =>
  intro k t pl ok hd _
  cases t with
  | leaf s =>
   rw [show k + 1 + 0 = k + 1 from rfl, oY, qZ, w0]
   by_cases h : pl ∈ ps <;> simp [dB, Tr.isLeaf, qQ, h, inP, eM]
  | grp t => simp [Tr.depth] at hd
  | nd n ts => simp [Tr.depth] at hd
 | succ d ih =>
  intro k t pl ok hd hpl
  rw [show k + 1 + (d + 1) = k + 1 + d + 1 by omega, oY, qZ, w0]
  have key : ∀ (ts : List Tr) {pe : Q × Q -> Pm Q}, (∀ (i : Nat) (t : Tr), i < 100 -> t.ok ops p -> t.depth <= d -> pe (.int (i : Nat), t.q) = .ret (bG t (inT ps (pl ++ [i]))).q) -> Tr.oks ops p ts -> Tr.depths ts <= d -> ts.length <= 100 -> lcP un2 (fun (_ : Q × Q) => Pm.ret true) pe (fW (ts.map Tr.q)) = .ret (.lst ((withPs ts 0 (inT ps pl)).map Tr.q)) := by
   intro ts pe hpe hok hdp hlen
   rw [yO, aCe (xs := ts.zipIdx) (fun q => Q.tup [.int (q.2 : Nat), q.1.q]) (fun q => (bG q.1 (inT ps (pl ++ [q.2]))).q) (by simp; omega) fun q hq => by
    have eq := pB hq
    have ho := pH.mp hok q.1 (List.mem_of_getElem? eq)
    have hdq := iR.mp hdp q.1 (List.mem_of_getElem? eq)
    have := aE eq
    exact ⟨_, mF, rfl, hpe q.2 q.1 (by omega) ho hdq⟩]
   congr 2
   apply List.ext_getElem?
   intro i
   simp only [List.getElem?_map, List.getElem?_zipIdx, rA, Nat.zero_add, Option.map_map]
   cases ts[i]? with
   | none => rfl
   | some t => simp [w1]
  have stp : ∀ (i : Nat) (t : Tr), i < 100 -> t.ok ops p -> t.depth <= d -> aR PT (k + 1 + d) bP [t.q, .tup (ps.map plN), plN (pl ++ [i])] = .ret (bG t (inT ps (pl ++ [i]))).q := fun i t _ ho hdq => ih k t (pl ++ [i]) ho hdq (by simp; omega)
  cases t with
  | leaf s =>
   by_cases h : pl ∈ ps <;> simp [dB, Tr.isLeaf, qQ, h, inP, eM]
  | grp t =>
   simp only [Tr.depth] at hd
   have sl1 : qSl (.tup [.str "(", t.q]) (some 1) none = some (.tup [t.q]) := kQ
   have ad : cL (.tup [.str "("]) (.tup [(bG t (inT ps (pl ++ [0]))).q]) = some (.tup [.str "(", (bG t (inT ps (pl ++ [0]))).q]) := jK (by simp)
   have is1 : cS (Tr.grp t).q (.ty "tuple") = some (.bl true) := by simp [Tr.isLeaf]
   have fin : (inP (.grp t) (inT ps pl)).q = .tup [.str "(", (bG t (inT ps (pl ++ [0]))).q] := by simp only [inP, eM, w1]
   have ad0 : ∀ i : Nat, cL (plN pl) (.tup [.int (i : Nat)]) = some (plN (pl ++ [i])) := fun i => lV (by omega)
   have kk := fun {pe : Q × Q -> Pm Q} hpe => key [t] (pe := pe) hpe ⟨ok, trivial⟩ (by simp [Tr.depths]; omega) (by simp)
   simp only [List.map_cons, List.map_nil, withPs, w1] at kk
   rw [eM] at is1 ⊢
   unfold dB
   simp only [aH, aI, is1, aP, dR, if_true, kS, sl1, nS]
   rw [kk fun i t hi ho hdq => by simp only [aH, aI, ad0, aP, stp i t hi ho hdq]]
   by_cases h : pl ∈ ps <;> simp [aEa, ad, qQ, h, fin, eM]
  | nd n ts =>
   simp only [Tr.depth] at hd
   obtain ⟨⟨o, eo, hl⟩, hs⟩ := ok
   have h4 := gP (O.ok o (List.mem_of_getElem? eo))
   have sl1 : qSl (.tup (.int n :: Tr.qs ts)) (some 1) none = some (.tup (Tr.qs ts)) := kQ
   have ad : cL (.tup [.int n]) (.tup ((withPs ts 0 (inT ps pl)).map Tr.q)) = some (.tup (.int n :: (withPs ts 0 (inT ps pl)).map Tr.q)) := jK (by simp [lP]; omega)
   have is1 : cS (Tr.nd n ts).q (.ty "tuple") = some (.bl true) := by simp [Tr.isLeaf]
   have fin : (inP (.nd n ts) (inT ps pl)).q = .tup (.int n :: (withPs ts 0 (inT ps pl)).map Tr.q) := by simp only [inP, tM, jL]
   have ad0 : ∀ i : Nat, cL (plN pl) (.tup [.int (i : Nat)]) = some (plN (pl ++ [i])) := fun i => lV (by omega)
   rw [tM] at is1 ⊢
   simp only [jL] at is1 sl1
   unfold dB
   simp only [aH, aI, is1, aP, dR, if_true, kS, sl1, nS, jL]
   rw [key ts (fun i t hi ho hdq => by simp only [aH, aI, ad0, aP, stp i t hi ho hdq]) hs (by omega) (by omega)]
   by_cases h : pl ∈ ps <;> simp [aEa, ad, qQ, h, fin, eM]
end LW
end
section
namespace LW
open PV PySem PySem.Spec PyProof.Rows L2
theorem aEc {ops : List Opr} (O : OpsOk ops) {p : Str -> Prop} : ∀ (d k : Nat) (t : Tr) (pl : Pl), t.ok ops p -> t.depth <= d -> pl.length + d <= 1000 -> t.size <= 100000 -> aR PT (k + 2 + d) bU [t.q, plN pl] = .ret (.lst ((aG t).map fun q => plN (pl ++ q))) := by
 intro d
 induction d with
 | zero =>
  intro k t pl ok hd _ _
  cases t with
  | leaf s => rw [show k + 2 + 0 = k + 1 + 1 from rfl, rE]; simp [dY, Tr.isLeaf, aG] <;> rfl
  | grp t => simp [Tr.depth] at hd
  | nd n ts => simp [Tr.depth] at hd
 | succ d ih =>
  intro k t pl ok hd hpl hsz
  rw [show k + 2 + (d + 1) = k + 2 + d + 1 by omega, rE]
  have key : ∀ (ts : List Tr) (j : Nat) (acc : List Q), Tr.oks ops p ts -> Tr.depths ts <= d -> ts.length <= 100 -> Tr.sizes ts <= 100000 -> acc.length + Tr.sizes ts <= 200000 -> dZ (β := Unit) (L := Unit) un2 (jI (aR PT (k + 2 + d)) (plN pl)) ((ts.map Tr.q).mapIdx fun i q => .tup [.int ((j + i : Nat) : Int), q]) (.lst acc) = .ret (.nx (.lst (acc ++ (placesTs ts j).map fun q => plN (pl ++ q)))) := by
   intro ts
   induction ts with
   | nil => intro j acc _ _ _ _ _; simp [dZ, placesTs]
   | cons t ts iht =>
    intro j acc hok hdp hlen hs1 hs2
    simp only [Tr.depths, Tr.sizes, List.length_cons] at hdp hlen hs1 hs2
    have e := ih k t (pl ++ [j]) hok.1 (by omega) (by simp; omega) (by omega)
    have pl1 := fH (t := t)
    have ad := lV (p := pl) (n := j) (by omega)
    have sh : ((ts.map Tr.q).mapIdx fun i q => Q.tup [.int ((j + (i + 1) : Nat) : Int), q]) = (ts.map Tr.q).mapIdx fun i q => Q.tup [.int ((j + 1 + i : Nat) : Int), q] := by
     congr 1; funext i q; rw [show j + (i + 1) = j + 1 + i by omega]
    have mm : ((aG t).map fun q => plN (pl ++ [j] ++ q)) = ((aG t).map fun q => plN (pl ++ j :: q)) := by
     congr 1; funext q; rw [List.append_assoc]; rfl
    have iht' := iht (j + 1) (acc ++ (aG t).map fun q => plN (pl ++ j :: q)) hok.2 (by omega) (by omega) (by omega) (by simp; omega)
    simp only [List.map_cons, List.mapIdx_cons, dZ, mF, aP, aH, Nat.add_zero]
    simp only [jI, aH, aI, ad, aP, e, aAR, mm]
    rw [zA (by simp only [List.length_map]; omega)]
    simp only [aP, aH, tT, sh]
    rw [iht']
    simp [placesTs, Function.comp_def]
  cases t with
  | leaf s => simp [dY, Tr.isLeaf, aG] <;> rfl
  | grp t =>
   simp only [Tr.depth] at hd
   simp only [Tr.size] at hsz
   have kk := key [t] 0 [plN pl] ⟨ok, trivial⟩ (by simp [Tr.depths]; omega) (by simp) (by simp [Tr.sizes]; omega) (by simp [Tr.sizes]; omega)
   have sl1 : qSl (.tup [.str "(", t.q]) (some 1) none = some (.tup [t.q]) := kQ
   have en : iH (.tup [t.q]) = some (([t].map Tr.q).mapIdx fun i q => .tup [.int ((0 + i : Nat) : Int), q]) := by simp [fW]
   have is1 : cS (Tr.grp t).q (.ty "tuple") = some (.bl true) := by simp [Tr.isLeaf]
   rw [eM] at is1 ⊢
   unfold dY
   simp only [aH, aI, is1, aP, dR, if_true, kS, sl1, en]
   rw [lR (by simp), kk]
   simp [aG, placesTs]
  | nd n ts =>
   simp only [Tr.depth] at hd
   simp only [Tr.size] at hsz
   obtain ⟨⟨o, eo, hl⟩, hs⟩ := ok
   have h4 := gP (O.ok o (List.mem_of_getElem? eo))
   have kk := key ts 0 [plN pl] hs (by omega) (by omega) (by omega) (by simp; omega)
   have sl1 : qSl (.tup (.int n :: Tr.qs ts)) (some 1) none = some (.tup (Tr.qs ts)) := kQ
   have en : iH (.tup (Tr.qs ts)) = some ((ts.map Tr.q).mapIdx fun i q => .tup [.int ((0 + i : Nat) : Int), q]) := by simp [fW, jL]
   have is1 : cS (Tr.nd n ts).q (.ty "tuple") = some (.bl true) := by simp [Tr.isLeaf]
   rw [tM] at is1 ⊢
   unfold dY
   simp only [aH, aI, is1, aP, dR, if_true, kS, sl1, en]
   rw [lR (by simp; omega), kk]
   simp [aG]
theorem aC8 {ops : List Opr} (O : OpsOk ops) {p : Str -> Prop} (d k : Nat) {t : Tr} (ok : t.ok ops p) (hd : t.depth <= d) (h1 : d <= 900) (h2 : t.size <= 100000) : aR PT (k + 2 + d) bU [t.q, .tup []] = .ret (.lst ((aG t).map plN)) := by
 have h := aEc O d k t [] ok hd (by simp; omega) h2
 simp only [List.nil_append] at h
 exact h
end LW
end
section
namespace LW
open PV PySem PySem.Spec PyProof.Rows L2
theorem aD9 {acc : List Q} (h : ∀ q ∈ acc, q = .bl true) : yA (.lst acc) = some (.bl true) := by
 have e : acc = acc.map fun x => Q.bl ((fun _ => true) x) := by
  induction acc with
  | nil => rfl
  | cons q acc ih => rw [List.map_cons, <- ih fun x hx => h x (by simp [hx]), h q (by simp)]
 rw [e, aFq]
 simp
theorem aIl {qs : List Q} {q : Q} (h : qs[qs.length - 1]? = some q) (h0 : 0 < qs.length) : qIx (.lst qs) (.int (-1)) = some q := by
 have e : ixN qs.length (-1) = some (qs.length - 1) := by
  unfold ixN
  have : ¬ (0 : Int) <= -1 := by omega
  simp
  omega
 simp [qIx, atI, e, h]
theorem aGV {p : Pl} {ps : List Pl} : qNi (plN p) (.lst (ps.map plN)) = some (.bl (!decide (p ∈ ps))) := by
 have h := aGT (p := p) (ps := ps)
 unfold qIn at h
 unfold qNi
 cases e : gT (plN p) (.lst (ps.map plN)) with
 | none => rw [e] at h; cases h
 | some b =>
  rw [e] at h
  simp only [Option.map_some, Option.some.injEq, Q.bl.injEq] at h ⊢
  rw [h]
theorem aGj (k : Nat) {kvs : List (List Key × Q)} {p : Pl} {rest : List Pl} (hp : (bX kvs (plK p)).isSome = false) : ∀ {ps : List Pl}, (∀ q ∈ ps, (bX kvs (plK q)).isSome = true) -> dZ (β := Unit) (L := Unit) some (dU (aR PT k) (.dT kvs)) ((ps ++ p :: rest).map plN) () = .exc 101 [("place", plN p)]
 | [], _ => by simp [dZ, dU, aA1, hp]
 | q :: ps, h => by
  have ih := aGj k (rest := rest) hp (ps := ps) fun x hx => h x (by simp [hx])
  have hq := h q (by simp)
  simp only [List.cons_append, List.map_cons, dZ, aP, aH, dU, aI, aA1, hq, Bool.not_true, dR, Bool.false_eq_true, if_false, tT]
  exact ih
theorem aC9 {ops : List Opr} (O : OpsOk ops) {pr : Str -> Prop} (d k : Nat) {t : Tr} {ps rest : List Pl} {p : Pl} (ok : t.ok ops pr) (hd : t.depth <= d) (h1 : d <= 900) (h2 : t.size <= 100000) (hps : ∀ q ∈ ps, q ∈ aG t) (hp : p ∉ aG t) (hl : (ps ++ p :: rest).length <= 100000) : aR PT (k + 4 + d) bD [t.q, .tup ((ps ++ p :: rest).map plN)] = .exc 101 [("place", plN p)] := by
 have e1 := aA5 O d k t ok hd h1 h2
 have pl := fH (t := t)
 have mem : ∀ q : Pl, (bX (vL ((aG t).map plK)) (plK q)).isSome = decide (q ∈ aG t) := fun q => by
  rw [vM]
  simp only [List.mem_map, aCj, exists_eq_right]
 rw [show k + 4 + d = k + 3 + d + 1 by omega, oZ]
 unfold gE
 simp only [aH, aI, e1, vH, aP]
 rw [rL (ps := aG t) (by omega) (fun _ => rfl) (fun _ => rfl) fun _ => rfl]
 simp only [aH]
 rw [lR (by rw [List.length_map]; omega), aGj (k + 3 + d) (by rw [mem]; simpa using hp) fun q hq => by rw [mem]; simpa using hps q hq]
 rfl
theorem zC {ops : List Opr} (O : OpsOk ops) {pr : Str -> Prop} {t : Tr} {ps rest : List Pl} {p : Pl} (ok : t.ok ops pr) (hd : t.depth <= 12) (h2 : t.size <= 100000) (hps : ∀ q ∈ ps, q ∈ aG t) (hp : p ∉ aG t) (hl : (ps ++ p :: rest).length <= 100000) (hsm : SmP 100 p) : aR PT 198 bL [t.q, .tup ((ps ++ p :: rest).map plN), plN p] = .ret (.bl true) := by
 have w := aC9 O 12 181 (rest := rest) ok hd (by omega) h2 hps hp hl
 have w : aR PT 197 bD [t.q, .tup ((ps ++ p :: rest).map plN)] = _ := w
 have rp : gC (plN p) = some (.str (cG p).shown) := vG (kE (n := 64)) (aIf hsm.1 hsm.2) (by omega) (by omega)
 have i1 : tR (Q.xc 101 [("place" : Str)] [plN p]) (.cls 101) = some (.bl true) := rfl
 have i2 : tR (Q.xc 101 [("place" : Str)] [plN p]) (.tup [.cls 102, .cls 103, .cls 104]) = some (.bl false) := rfl
 have f1 : yB "place" (Q.xc 101 [("place" : Str)] [plN p]) = some (plN p) := rfl
 rw [show (198 : Nat) = 197 + 1 from rfl, uA]
 unfold gB
 simp only [aH, aI, w, aBG]
 rw [aFS (by decide)]
 simp only [rO, List.contains_cons, List.contains_nil, List.map_cons, List.map_nil]
 simp [i1, i2, f1, rp]
theorem aCX {ops : List Opr} (O : OpsOk ops) {pr : Str -> Prop} {t : Tr} (ok : t.ok ops pr) : [7] ∉ aG t := fun h => by
 have := nQ O ok h 7 (by simp)
 omega
theorem aDS {ops : List Opr} (O : OpsOk ops) (hol : ops.length <= 12) {t : Tr} (ok : t.okG ops 10 3) (hd : t.depth <= 12) {K : Rs Q -> Nat -> Prop} {c : Nat} (hc : c < 500000000) (hk : ∀ c', c' <= c + 20 -> K (.ok (.bl true)) c') : aR PT 199 fD [.src, t.q] K c := by
 have okt := ok.1
 have hsz := yF O okt
 have h1 := ok.2.1
 have h2 := ok.2.2
 have hs : t.size <= 54 := by omega
 have sm : t.sm := ⟨by omega, by omega⟩
 have pl := fH (t := t)
 have rT := aFs O (by omega) okt (by omega) sm
 have lp := aC8 O 12 184 okt hd (by omega) (by omega)
 have lp : aR PT 198 bU [t.q, .tup []] = _ := lp
 rw [show (199 : Nat) = 198 + 1 from rfl, aAm]
 unfold kJ
 simp only [aH, aI, lp, rT, aP, mF]
 rw [jO]
 refine aEb 197 (by omega) (by omega) (by omega) fun r hr => ?_
 have rg : nU (.int (r : Nat)) = some ((List.range r).map fun i : Nat => Q.int i) := by simp [nU]; omega
 simp only [nG, rg, aP, aH, aI]
 rw [jO]
 have p0 : 0 < (aG t).length := by rw [pl]; cases t <;> simp [Tr.size]
 refine aDV (xs := List.range r) (fun i : Nat => Q.int i) (fun acc c' => ∃ ps : List Pl, acc = ps.map plN /\ (∀ q ∈ ps, q ∈ aG t) /\ ps.length <= acc.length /\ c' <= c + 1 + acc.length) (by simp; omega) ⟨[], rfl, by simp, by simp, by simp⟩ ?_ ?_
 ·rintro x hx acc c2 hacc ⟨ps, rfl, i1, i2, i3⟩
  simp only [List.length_range, List.length_map] at hacc i3
  refine ⟨_, rfl, rfl, fun K' hK' => ?_⟩
  refine aA4 196 (l := (aG t).map plN) (by rw [List.length_map]; exact p0) (by rw [List.length_map]; omega) (by omega) fun y hy => ?_
  obtain ⟨q, hq, rfl⟩ := List.mem_map.mp hy
  exact hK' _ _ ⟨ps ++ [q], by simp, fun x hx => by
   rcases List.mem_append.mp hx with hx | hx
   ·exact i1 x hx
   ·rw [List.mem_singleton.mp hx]; exact hq, by simp, by simp; omega⟩
 rintro acc c2 hlen ⟨ps, rfl, i1, _, i3⟩
 simp only [List.length_range, List.length_map] at hlen i3
 have hps : ps.length <= 6 := by omega
 obtain ⟨ql, eql, eqm⟩ : ∃ ql : Pl, qIx (.lst ((aG t).map plN)) (.int (-1)) = some (plN ql) /\ ql ∈ aG t := by
  have hlast : (aG t)[(aG t).length - 1]? = some ((aG t)[(aG t).length - 1]'(by omega)) := List.getElem?_eq_getElem _
  refine ⟨(aG t)[(aG t).length - 1]'(by omega), ?_, List.getElem_mem _⟩
  have := aIl (qs := (aG t).map plN) (q := plN ((aG t)[(aG t).length - 1]'(by omega))) (by rw [List.length_map, List.getElem?_map, hlast]; rfl) (by rw [List.length_map]; omega)
  exact this
 have rv : aA2 (.tup (ps.map plN)) = some (.tup (ps.reverse.map plN)) := by simp [aA2, List.map_reverse]
 have ad1 : cL (.tup (ps.reverse.map plN)) (.tup (ps.map plN)) = some (.tup ((ps.reverse ++ ps).map plN)) := by
  rw [jK (by simp; omega), List.map_append]
 have e0 : (Q.tup []) = .tup (([] : List Pl).map plN) := rfl
 have eL : Q.tup [plN ql] = .tup (([ql] : List Pl).map plN) := rfl
 have lst : ([Q.tup [], .tup ((aG t).map plN), .tup (ps.map plN), .tup ((ps.reverse ++ ps).map plN), .tup [plN ql]] : List Q) = ([[], aG t, ps, ps.reverse ++ ps, [ql]] : List (List Pl)).map fun x => .tup (x.map plN) := rfl
 have all5 : ∀ x ∈ ([[], aG t, ps, ps.reverse ++ ps, [ql]] : List (List Pl)), (∀ q ∈ x, q ∈ aG t) /\ x.length <= 100 := by
  intro x hx
  simp only [List.mem_cons, List.not_mem_nil, or_false] at hx
  rcases hx with rfl | rfl | rfl | rfl | rfl
  ·exact ⟨fun q hq => (by cases hq), by simp⟩
  ·exact ⟨fun q hq => hq, by omega⟩
  ·exact ⟨i1, by omega⟩
  ·exact ⟨fun q hq => (List.mem_append.mp hq).elim (fun h => i1 q (List.mem_reverse.mp h)) (i1 q), by simp; omega⟩
  ·exact ⟨fun q hq => by rw [List.mem_singleton.mp hq]; exact eqm, by simp⟩
 have turn : ∀ x ∈ ([[], aG t, ps, ps.reverse ++ ps, [ql]] : List (List Pl)), gY (aR PT 198) t.q (.tup (x.map plN)) () = .ret (.nx ()) := fun x hx => by
  obtain ⟨a1, a2⟩ := all5 x hx
  have wg := zK O 12 182 t x okt hd (by omega) (by omega) a1 (by omega)
  have wg : aR PT 198 bD [t.q, .tup (x.map plN)] = _ := wg
  have gr := aC7 O (ps := x) 12 185 t [] okt hd (by simp)
  have fe : inT x [] = fun q => decide (q ∈ x) := by funext q; simp [inT]
  rw [fe] at gr
  have gr : aR PT 198 bP [t.q, .tup (x.map plN), .tup []] = _ := gr
  have wd := oV (t := t) (f := fun q => decide (q ∈ x))
  have wn := sR (t := t) (f := fun q => decide (q ∈ x))
  have wr := sQ (t := t) (f := fun q => decide (q ∈ x))
  have wo := vU (f := fun q => decide (q ∈ x)) okt
  generalize (bG t fun q => decide (q ∈ x)) = u at *
  have pu := (aAd O (by omega) u 25 wo (by omega)).pn
  obtain ⟨S, rS⟩ := aEg (m := 2) (tW u 65 (by omega)) pu (by omega) (by omega)
  have r2 : ∀ x : Q, List.replicate 2 x = [x, x] := fun x => rfl
  rw [r2] at rS
  have pm : cY [1, 0] [.tup (x.map plN), t.q] = some [t.q, .tup (x.map plN)] := rfl
  simp only [gY, aH, aI, gr, wg, pm, aP, rS, aGU, decide_true, Bool.not_true, dR, Bool.false_eq_true, if_false]
 have ft : oM (L := Unit) some (gY (aR PT 198) t.q) ([Q.tup [], .tup ((aG t).map plN), .tup (ps.map plN), .tup ((ps.reverse ++ ps).map plN), .tup [plN ql]]) () = .ret (.nx ()) := by
  rw [lst, aAw (xs := ([[], aG t, ps, ps.reverse ++ ps, [ql]] : List (List Pl))) (fun x => .tup (x.map plN)) (fun _ => true) .non (by simp) fun x hx => ⟨_, rfl, by rw [if_pos rfl]; exact turn x hx⟩]
  rw [if_pos (by simp)]
 -- the missing places
 have ad2 : cL (plN ql) (.tup [.int 0]) = some (plN (ql ++ [0])) := lV (n := 0) (by have := iB eqm; omega)
 have m4 : wQ (.tup [.int 4]) (.int 30) = some (plN (List.replicate 30 4)) := by
  simp [wQ, plN, List.map_replicate]
 have e7 : Q.tup [.int 7] = plN [7] := rfl
 have e9 : Q.tup [.int 0, .int 0, .int 0, .int 9] = plN [0, 0, 0, 9] := rfl
 have lf : ∀ ms : List Pl, ms.length <= 100 -> ∀ {pe : Q -> Pm Q}, (∀ a, pe a = .ret a) -> lcP some (fun x => (Pm.of (qNi x (.lst ((aG t).map plN)))).bind fun x => Pm.of (dI x)) pe (ms.map plN) = .ret (.lst ((ms.filter fun q => !decide (q ∈ aG t)).map plN)) := fun ms hm pe hpe =>
  wF (xs := ms) plN (fun q => !decide (q ∈ aG t)) plN (by omega) fun x _ => ⟨_, rfl, by simp only [aGV, aP, aH, dR], fun _ => hpe _⟩
 have lms : ([plN (ql ++ [0]), plN [7], plN [0, 0, 0, 9], plN (List.replicate 30 4)] : List Q) = ([ql ++ [0], [7], [0, 0, 0, 9], List.replicate 30 4] : List Pl).map plN := rfl
 have qlS : ql.length <= 12 := by have := iB eqm; omega
 have ql4 := nQ O okt eqm
 have msm : ∀ q ∈ ([ql ++ [0], [7], [0, 0, 0, 9], List.replicate 30 4] : List Pl), SmP 100 q := by
  intro q hq
  simp only [List.mem_cons, List.not_mem_nil, or_false] at hq
  rcases hq with rfl | rfl | rfl | rfl
  ·exact ⟨by simp; omega, fun c hc => by
    rcases List.mem_append.mp hc with hc | hc
    ·have := ql4 c hc; omega
    ·rw [List.mem_singleton.mp hc]; decide⟩
  ·exact ⟨by simp, fun c hc => by rw [List.mem_singleton.mp hc]; decide⟩
  ·exact ⟨by simp, fun c hc => by
    simp only [List.mem_cons, List.not_mem_nil, or_false] at hc
    rcases hc with rfl | rfl | rfl | rfl <;> decide⟩
  ·exact ⟨by simp, fun c hc => by rw [(List.mem_replicate.mp hc).2]; decide⟩
 have hmiss := aCX O okt
 have mm : ∀ q ∈ ([ql ++ [0], [7], [0, 0, 0, 9], List.replicate 30 4] : List Pl).filter fun q => !decide (q ∈ aG t), q ∉ aG t /\ SmP 100 q := fun q hq => by
  obtain ⟨a, b⟩ := List.mem_filter.mp hq
  exact ⟨by simpa using b, msm q a⟩
 have ml : 0 < (([ql ++ [0], [7], [0, 0, 0, 9], List.replicate 30 4] : List Pl).filter fun q => !decide (q ∈ aG t)).length :=
  List.length_pos_of_mem (a := [7]) (List.mem_filter.mpr ⟨by simp, by simpa using hmiss⟩)
 have ml2 : (([ql ++ [0], [7], [0, 0, 0, 9], List.replicate 30 4] : List Pl).filter fun q => !decide (q ∈ aG t)).length <= 4 := by
  have := List.length_filter_le (fun q => !decide (q ∈ aG t)) ([ql ++ [0], [7], [0, 0, 0, 9], List.replicate 30 4] : List Pl)
  simpa using this
 have lf1 := lf ([ql ++ [0], [7], [0, 0, 0, 9], List.replicate 30 4] : List Pl) (by simp) (pe := fun x => Pm.ret x) fun _ => rfl
 rw [<- lms] at lf1
 generalize ([ql ++ [0], [7], [0, 0, 0, 9], List.replicate 30 4] : List Pl).filter (fun q => !decide (q ∈ aG t)) = ms at *
 have tp : hZ (.lst ((aG t).map plN)) = some (.tup ((aG t).map plN)) := rfl
 simp only [nG, aC6, aP, aH, aI, rv, ad1, eql, aIm, vH, ft, seq_nx, ad2, m4, e7, e9, aFt, lf1]
 rw [jO]
 refine aA4 196 (l := ms.map plN) (by rw [List.length_map]; exact ml) (by rw [List.length_map]; omega) (by omega) fun x hx => ?_
 obtain ⟨q1, hq1, rfl⟩ := List.mem_map.mp hx
 simp only [nG, aH, aI]
 rw [jO]
 refine aA4 196 (l := ms.map plN) (by rw [List.length_map]; exact ml) (by rw [List.length_map]; omega) (by omega) fun x hx => ?_
 obtain ⟨q2, hq2, rfl⟩ := List.mem_map.mp hx
 obtain ⟨n1, s1⟩ := mm q1 hq1
 obtain ⟨n2, s2⟩ := mm q2 hq2
 have a1 : cL (.tup (ps.map plN)) (.tup [plN q1]) = some (.tup ((ps ++ [q1]).map plN)) := by
  rw [jK (by simp; omega), List.map_append]; rfl
 have a2 : cL (.tup ((ps ++ [q1]).map plN)) (.tup (ps.map plN)) = some (.tup ((ps ++ [q1] ++ ps).map plN)) := by
  rw [jK (by simp; omega), List.map_append (l₂ := ps)]
 have a3 : cL (.tup ((ps ++ [q1] ++ ps).map plN)) (.tup [plN q2]) = some (.tup ((ps ++ q1 :: (ps ++ [q2])).map plN)) := by
  rw [jK (by simp; omega), show ps ++ q1 :: (ps ++ [q2]) = ps ++ [q1] ++ ps ++ [q2] by simp, List.map_append (l₂ := [q2])]
  rfl
 have r1 := zC O (rest := ps ++ [q2]) okt hd (by omega) i1 n1 (by simp; omega) s1
 have r2 := zC O (ps := []) (rest := []) okt hd (by omega) (fun q hq => by cases hq) n2 (by simp) s2
 have r2 : aR PT 198 bL [t.q, .tup [plN q2], plN q2] = _ := r2
 simp only [nG, aH, aI, mF, aP, a1, a2, a3, r1, r2, dR, Bool.not_true, Bool.false_eq_true, if_false, seq_nx, rT, aGS, decide_true, aAt]
 exact hk _ (by omega)
theorem plain : aCy := aFl fun j hj => by
 unfold wJ
 simp only [aH, aI, jO, uO]
 refine ⟨⟨by decide, by decide, by decide, by decide⟩, fun ops _ O hl => ?_⟩
 have hol : ops.length <= 12 := by omega
 have rg : nU (.int 3) = some ((List.range 3).map fun i : Nat => Q.int i) := by simp [nU]
 simp only [nG, aH, aI, rg, aP]
 rw [jO]
 refine aDV (xs := List.range 3) (fun i : Nat => Q.int i) (fun acc c' => c' <= 10000 + 1000 * acc.length /\ ∀ q ∈ acc, q = .bl true) (by simp) ⟨by simp, by simp⟩ ?_ ?_
 ·rintro x hx acc c2 hacc ⟨i1, i2⟩
  simp only [List.length_range] at hacc
  refine ⟨_, rfl, rfl, fun K' hK' => ?_⟩
  simp only [aH, aI, aBB]
  rw [jO]
  refine aIp 183 O hol (N := 10) (G := 3) (by omega) fun t ok hd => ?_
  simp only [nG, aH, aI]
  refine aDS O hol ok hd (by omega) fun c' hc' => hK' _ _ ⟨?_, fun q hq => ?_⟩
  ·simp only [List.length_append, List.length_cons, List.length_nil]; omega
  ·rcases List.mem_append.mp hq with hq | hq
   ·exact i2 q hq
   ·exact List.mem_singleton.mp hq
 ·rintro acc c2 hl ⟨i1, i2⟩
  simp [nG, aD9 i2, dR]
end LW
end
section
namespace LW
open PV PySem PySem.Spec PyProof.Rows L2
def gx (K : PySem.W.Frag) : Gx := ⟨K, fun f => match f with
 | 0 => some (He.ga K "is_leaf")
 | 1 => some (He.ga K "below")
 | 2 => some (He.ga K "places")
 | 3 => some (He.ga K "grouped_at")
 | 4 => some (He.ga K "with_groups")
 | 5 => some (He.ga K "_law_source")
 | 6 => some (He.ga K "_law_draw")
 | 7 => some (He.ga K "_law_pick")
 | 8 => some (He.ga K "_law_words")
 | 9 => some (He.ga K "_law_operator")
 | 10 => some (He.ga K "_law_operators")
 | 11 => some (He.ga K "_law_has")
 | 12 => some (He.ga K "_law_holes")
 | 13 => some (He.ga K "_law_tree")
 | 14 => some (He.ga K "_law_grown")
 | 15 => some (He.ga K "_law_grouped")
 | 16 => some (He.ga K "_law_places")
 | 17 => some (He.ga K "_law_is_refused")
 | 18 => some (He.ga K "_law_right")
 | 19 => some (He.ga K "law")
 | _ => none, fun c => (caL K).lookup c, []⟩
theorem aDJ {P : Program} {w : World} {K : PySem.W.Frag} {h : Heap} {mg : Str -> Option Value} (base : Heap) (X : K.In h) (G : h.Ns mainGlobals mg) (c : He.SaysD fa fn K) (d : ck K = true) : ∀ k, FS P w K mg base (gx K) k (aL T k)
 | 0 => by
  obtain ⟨_, F0⟩ := c.def_ 0 (d := rJ) rfl
  obtain ⟨_, F1⟩ := c.def_ 1 (d := xJ) rfl
  obtain ⟨_, F2⟩ := c.def_ 2 (d := uP) rfl
  obtain ⟨_, F3⟩ := c.def_ 3 (d := mN) rfl
  obtain ⟨_, F4⟩ := c.def_ 4 (d := kY) rfl
  obtain ⟨_, F5⟩ := c.def_ 5 (d := mP) rfl
  obtain ⟨_, F6⟩ := c.def_ 6 (d := pT) rfl
  obtain ⟨_, F7⟩ := c.def_ 7 (d := pU) rfl
  obtain ⟨_, F8⟩ := c.def_ 8 (d := oK) rfl
  obtain ⟨_, F9⟩ := c.def_ 9 (d := jP) rfl
  obtain ⟨_, F10⟩ := c.def_ 10 (d := jE) rfl
  obtain ⟨_, F11⟩ := c.def_ 11 (d := rK) rfl
  obtain ⟨_, F12⟩ := c.def_ 12 (d := oI) rfl
  obtain ⟨_, F13⟩ := c.def_ 13 (d := pV) rfl
  obtain ⟨_, F14⟩ := c.def_ 14 (d := oH) rfl
  obtain ⟨_, F15⟩ := c.def_ 15 (d := kX) rfl
  obtain ⟨_, F16⟩ := c.def_ 16 (d := mO) rfl
  obtain ⟨_, F17⟩ := c.def_ 17 (d := iM) rfl
  obtain ⟨_, F18⟩ := c.def_ 18 (d := oJ) rfl
  obtain ⟨_, F19⟩ := c.def_ 19 (d := zY) rfl
  obtain ⟨_, X0⟩ := c.def_ 20 (d := oL) rfl
  exact ⟨bN F0 (He.glo_ok X G (c.fact 0 (f := .glo "is_leaf") rfl)) rfl,
   bN F1 (He.glo_ok X G (c.fact 1 (f := .glo "below") rfl)) rfl,
   bN F2 (He.glo_ok X G (c.fact 2 (f := .glo "places") rfl)) rfl,
   bN F3 (He.glo_ok X G (c.fact 3 (f := .glo "grouped_at") rfl)) rfl,
   bN F4 (He.glo_ok X G (c.fact 4 (f := .glo "with_groups") rfl)) rfl,
   bN F5 (He.glo_ok X G (c.fact 5 (f := .glo "_law_source") rfl)) rfl,
   bN F6 (He.glo_ok X G (c.fact 6 (f := .glo "_law_draw") rfl)) rfl,
   bN F7 (He.glo_ok X G (c.fact 7 (f := .glo "_law_pick") rfl)) rfl,
   bN F8 (He.glo_ok X G (c.fact 8 (f := .glo "_law_words") rfl)) rfl,
   bN F9 (He.glo_ok X G (c.fact 9 (f := .glo "_law_operator") rfl)) rfl,
   bN F10 (He.glo_ok X G (c.fact 10 (f := .glo "_law_operators") rfl)) rfl,
   bN F11 (He.glo_ok X G (c.fact 11 (f := .glo "_law_has") rfl)) rfl,
   bN F12 (He.glo_ok X G (c.fact 12 (f := .glo "_law_holes") rfl)) rfl,
   bN F13 (He.glo_ok X G (c.fact 13 (f := .glo "_law_tree") rfl)) rfl,
   bN F14 (He.glo_ok X G (c.fact 14 (f := .glo "_law_grown") rfl)) rfl,
   bN F15 (He.glo_ok X G (c.fact 15 (f := .glo "_law_grouped") rfl)) rfl,
   bN F16 (He.glo_ok X G (c.fact 16 (f := .glo "_law_places") rfl)) rfl,
   bN F17 (He.glo_ok X G (c.fact 17 (f := .glo "_law_is_refused") rfl)) rfl,
   bN F18 (He.glo_ok X G (c.fact 18 (f := .glo "_law_right") rfl)) rfl,
   bN F19 (He.glo_ok X G (c.fact 19 (f := .glo "law") rfl)) rfl,
   (aBx (l := caL K) rfl (He.ba (He.ba (He.ba (He.ba d).2).2).2).1),
   aEF (st := dP) (C := He.ga K "NoPlace") (G := He.ga K "GroupingError") rfl (He.glo_ok X G (c.fact 35 (f := .glo "NoPlace") rfl)) (He.glo_ok X G (c.fact 36 (f := .glo "GroupingError") rfl)) (He.ba d).1 X0 vX wZ wE (by decide +kernel) (by decide +kernel) (by decide +kernel) (by decide +kernel),
   aDH (l := caL K) (C := He.ga K "GroupingError") rfl (He.glo_ok X G (c.fact 36 (f := .glo "GroupingError") rfl)) (He.ba (He.ba d).2).1,
   ⟨He.ga K "BadText", (He.glo_ok X G (c.fact 37 (f := .glo "BadText") rfl)), rfl⟩,
   ⟨He.ga K "InUse", (He.glo_ok X G (c.fact 38 (f := .glo "InUse") rfl)), rfl⟩,
   ⟨He.ga K "NoName", (He.glo_ok X G (c.fact 39 (f := .glo "NoName") rfl)), rfl⟩,
   ⟨He.ga K "NoPlace", (He.glo_ok X G (c.fact 35 (f := .glo "NoPlace") rfl)), rfl⟩,
   aDT (l := caL K) rfl (He.ba (He.ba (He.ba d).2).2).1,
   He.str_ok X G (c.fact 20 (f := .str "GROUP" "(") rfl),
   He.free_ok X G (c.fact 21 (f := .free "abs") rfl),
   He.free_ok X G (c.fact 22 (f := .free "all") rfl),
   He.free_ok X G (c.fact 23 (f := .free "enumerate") rfl),
   He.free_ok X G (c.fact 24 (f := .free "int") rfl),
   He.free_ok X G (c.fact 25 (f := .free "isinstance") rfl),
   He.free_ok X G (c.fact 26 (f := .free "len") rfl),
   He.free_ok X G (c.fact 27 (f := .free "list") rfl),
   He.free_ok X G (c.fact 28 (f := .free "max") rfl),
   He.free_ok X G (c.fact 29 (f := .free "min") rfl),
   He.free_ok X G (c.fact 30 (f := .free "range") rfl),
   He.free_ok X G (c.fact 31 (f := .free "repr") rfl),
   He.free_ok X G (c.fact 32 (f := .free "str") rfl),
   He.free_ok X G (c.fact 33 (f := .free "sum") rfl),
   He.free_ok X G (c.fact 34 (f := .free "tuple") rfl)⟩
 | k + 1 => by
  have ih := aDJ (P := P) (w := w) base X G c d k
  obtain ⟨_, F0⟩ := c.def_ 0 (d := rJ) rfl
  obtain ⟨_, F1⟩ := c.def_ 1 (d := xJ) rfl
  obtain ⟨_, F2⟩ := c.def_ 2 (d := uP) rfl
  obtain ⟨_, F3⟩ := c.def_ 3 (d := mN) rfl
  obtain ⟨_, F4⟩ := c.def_ 4 (d := kY) rfl
  obtain ⟨_, F5⟩ := c.def_ 5 (d := mP) rfl
  obtain ⟨_, F6⟩ := c.def_ 6 (d := pT) rfl
  obtain ⟨_, F7⟩ := c.def_ 7 (d := pU) rfl
  obtain ⟨_, F8⟩ := c.def_ 8 (d := oK) rfl
  obtain ⟨_, F9⟩ := c.def_ 9 (d := jP) rfl
  obtain ⟨_, F10⟩ := c.def_ 10 (d := jE) rfl
  obtain ⟨_, F11⟩ := c.def_ 11 (d := rK) rfl
  obtain ⟨_, F12⟩ := c.def_ 12 (d := oI) rfl
  obtain ⟨_, F13⟩ := c.def_ 13 (d := pV) rfl
  obtain ⟨_, F14⟩ := c.def_ 14 (d := oH) rfl
  obtain ⟨_, F15⟩ := c.def_ 15 (d := kX) rfl
  obtain ⟨_, F16⟩ := c.def_ 16 (d := mO) rfl
  obtain ⟨_, F17⟩ := c.def_ 17 (d := iM) rfl
  obtain ⟨_, F18⟩ := c.def_ 18 (d := oJ) rfl
  obtain ⟨_, F19⟩ := c.def_ 19 (d := zY) rfl
  obtain ⟨_, X0⟩ := c.def_ 20 (d := oL) rfl
  exact ⟨bI (N := rF) (mm := iV) F0 (He.glo_ok X G (c.fact 0 (f := .glo "is_leaf") rfl)) rfl aDb rfl ih rfl (by decide) aDg,
   bI (N := xF) (mm := lT) F1 (He.glo_ok X G (c.fact 1 (f := .glo "below") rfl)) rfl aFA rfl ih rfl (by decide) aFE,
   bI (N := uJ) (mm := jU) F2 (He.glo_ok X G (c.fact 2 (f := .glo "places") rfl)) rfl aEl rfl ih rfl (by decide) aEq,
   bI (N := mG) (mm := fP) F3 (He.glo_ok X G (c.fact 3 (f := .glo "grouped_at") rfl)) rfl zL rfl ih rfl (by decide) zO,
   bI (N := kW) (mm := eJ) F4 (He.glo_ok X G (c.fact 4 (f := .glo "with_groups") rfl)) rfl yD rfl ih rfl (by decide) yH,
   bI (N := mJ) (mm := gQ) F5 (He.glo_ok X G (c.fact 5 (f := .glo "_law_source") rfl)) rfl zN rfl ih rfl (by decide) zQ,
   bI (N := pM) (mm := fY) F6 (He.glo_ok X G (c.fact 6 (f := .glo "_law_draw") rfl)) rfl aBK rfl ih rfl (by decide) aBP,
   bI (N := pN) (mm := eQ) F7 (He.glo_ok X G (c.fact 7 (f := .glo "_law_pick") rfl)) rfl aBL rfl ih rfl (by decide) aBQ,
   bI (N := oF) (mm := hX) F8 (He.glo_ok X G (c.fact 8 (f := .glo "_law_words") rfl)) rfl aBg rfl ih rfl (by decide) aBm,
   bI (N := jN) (mm := cH) F9 (He.glo_ok X G (c.fact 9 (f := .glo "_law_operator") rfl)) rfl wV rfl ih rfl (by decide) wY,
   bI (N := jB) (mm := eP) F10 (He.glo_ok X G (c.fact 10 (f := .glo "_law_operators") rfl)) rfl vK rfl ih rfl (by decide) vN,
   bI (N := rG) (mm := fT) F11 (He.glo_ok X G (c.fact 11 (f := .glo "_law_has") rfl)) rfl aDc rfl ih rfl (by decide) aDh,
   bI (N := oD) (mm := dJ) F12 (He.glo_ok X G (c.fact 12 (f := .glo "_law_holes") rfl)) rfl aBe rfl ih rfl (by decide) aBk,
   bI (N := pO) (mm := jJ) F13 (He.glo_ok X G (c.fact 13 (f := .glo "_law_tree") rfl)) rfl aBM rfl ih rfl (by decide) aBR,
   bI (N := oC) (mm := gI) F14 (He.glo_ok X G (c.fact 14 (f := .glo "_law_grown") rfl)) rfl aBd rfl ih rfl (by decide) aBj,
   bI (N := kU) (mm := eI) F15 (He.glo_ok X G (c.fact 15 (f := .glo "_law_grouped") rfl)) rfl yC rfl ih rfl (by decide) yG,
   bI (N := mH) (mm := fQ) F16 (He.glo_ok X G (c.fact 16 (f := .glo "_law_places") rfl)) rfl zM rfl ih rfl (by decide) zP,
   bI (N := iL) (mm := cP) F17 (He.glo_ok X G (c.fact 17 (f := .glo "_law_is_refused") rfl)) rfl uD rfl ih rfl (by decide) uE,
   bI (N := oE) (mm := gJ) F18 (He.glo_ok X G (c.fact 18 (f := .glo "_law_right") rfl)) rfl aBf rfl ih rfl (by decide) aBl,
   bI (N := zU) (mm := wH) F19 (He.glo_ok X G (c.fact 19 (f := .glo "law") rfl)) rfl aEk rfl ih rfl (by decide) aEp,
   (aBx (l := caL K) rfl (He.ba (He.ba (He.ba (He.ba d).2).2).2).1),
   aEF (st := dP) (C := He.ga K "NoPlace") (G := He.ga K "GroupingError") rfl (He.glo_ok X G (c.fact 35 (f := .glo "NoPlace") rfl)) (He.glo_ok X G (c.fact 36 (f := .glo "GroupingError") rfl)) (He.ba d).1 X0 vX wZ wE (by decide +kernel) (by decide +kernel) (by decide +kernel) (by decide +kernel),
   aDH (l := caL K) (C := He.ga K "GroupingError") rfl (He.glo_ok X G (c.fact 36 (f := .glo "GroupingError") rfl)) (He.ba (He.ba d).2).1,
   ⟨He.ga K "BadText", (He.glo_ok X G (c.fact 37 (f := .glo "BadText") rfl)), rfl⟩,
   ⟨He.ga K "InUse", (He.glo_ok X G (c.fact 38 (f := .glo "InUse") rfl)), rfl⟩,
   ⟨He.ga K "NoName", (He.glo_ok X G (c.fact 39 (f := .glo "NoName") rfl)), rfl⟩,
   ⟨He.ga K "NoPlace", (He.glo_ok X G (c.fact 35 (f := .glo "NoPlace") rfl)), rfl⟩,
   aDT (l := caL K) rfl (He.ba (He.ba (He.ba d).2).2).1,
   He.str_ok X G (c.fact 20 (f := .str "GROUP" "(") rfl),
   He.free_ok X G (c.fact 21 (f := .free "abs") rfl),
   He.free_ok X G (c.fact 22 (f := .free "all") rfl),
   He.free_ok X G (c.fact 23 (f := .free "enumerate") rfl),
   He.free_ok X G (c.fact 24 (f := .free "int") rfl),
   He.free_ok X G (c.fact 25 (f := .free "isinstance") rfl),
   He.free_ok X G (c.fact 26 (f := .free "len") rfl),
   He.free_ok X G (c.fact 27 (f := .free "list") rfl),
   He.free_ok X G (c.fact 28 (f := .free "max") rfl),
   He.free_ok X G (c.fact 29 (f := .free "min") rfl),
   He.free_ok X G (c.fact 30 (f := .free "range") rfl),
   He.free_ok X G (c.fact 31 (f := .free "repr") rfl),
   He.free_ok X G (c.fact 32 (f := .free "str") rfl),
   He.free_ok X G (c.fact 33 (f := .free "sum") rfl),
   He.free_ok X G (c.fact 34 (f := .free "tuple") rfl)⟩
theorem facts {P : Program} {w : World} {K : PySem.W.Frag} {h : Heap} {mg : Str -> Option Value} {f : Addr} (X : K.In h) (G : h.Ns mainGlobals mg) (hfa : mg ("law" : Str) = some (.ref f)) (c : He.SaysD fa fn K) (d : ck K = true) :
  ∃ fd : FuncData, (∀ (s : Shared) (v : Value), BindsTo s fd ⟨[v], []⟩ [("_law_script", v)]) /\ ∀ base : Heap, K.In base -> base.Ns mainGlobals mg -> FnG P w K mg base (CX P w) 203 f fd ["_law_script"] (qT (gx K) 1 (aL T 200 wC)) := by
 obtain ⟨fd, F⟩ := c.def_ 19 (d := zY) rfl
 have e := hfa.symm.trans (He.glo_ok X G (c.fact 19 (f := .glo "law") rfl))
 cases e
 have b := FunD.bindsA (ps := ["_law_script"]) F aHB
 refine ⟨fd, fun s v => b s [v] rfl, fun base _ _ => ?_⟩
 exact aDI (N := zU) (mm := wH) F aEk rfl (aDJ base X G c d 199) rfl (by decide) aEp
theorem law_sp (pl : aCy) {K : PySem.W.Frag} (H : Hp) (a : Addr) (ns : List Int) (hl : ns.length <= 63) (hS : SqF K H a (ns.map V.int)) : qT (gx K) 1 (aL T 200 wC) [.ref a] H (fun v _ => v = .bl true) fun _ _ _ => False := by
 obtain ⟨h, e⟩ := pl ns hl
 refine ⟨[.fl (ns.map D.int)], [], [], [], rfl, ⟨.ref a, [], rfl, rfl, ⟨a, ns.map V.int, rfl, hS, aAD ns⟩, rfl⟩, ⟨rfl, List.nodup_nil, fun i c e => (by cases e), fun p hp => (by cases hp)⟩, ?_⟩
 rw [e]
 exact fun _ _ _ _ v q _ => q
end LW
end
section
open PySem PySem.W PySem.Calls PyProof.Rows
theorem LW.walk : WalkO LW.HH.vw LW.HH.names (XL LW.HH.vw []) (PV.hookY LW.HH.nH LW.lamN LW.fa LW.fn LW.ck).says LW.RW.toRowW LW.HH.dd [] fun f vs => PySem.call f vs := by
 refine PV.walkG (l := PySem.Challenge.rw_operatortables_k29_groups_at_places) (n := 63) (k := 203) (x := "_law_script") rfl (by decide) LW.HH.h_df ⟨rfl, by decide, by decide⟩ ?F
 intro w mg fa h Y G hmg0
 obtain ⟨K, KX, c, cd⟩ := Y
 have hmg : mg ("law" : PySem.Str) = some (.ref fa) := LW.HH.h_n ▸ hmg0
 obtain ⟨fd, hb, hF⟩ := LW.facts (P := LW.RW.prog) (w := w) KX G hmg c cd
 exact ⟨K, fd, _, KX, hb, fun H a ns hl hS => LW.law_sp LW.plain H a ns hl hS, hF⟩
theorem PySem.Challenge.cw_operatortables_k29_groups_at_places_holds : PySem.Challenge.rw_operatortables_k29_groups_at_places.Holds := by
 w_on; o_law
 refine LW.HH.head ?hw LW.walk
 case hw => w_witness2
end
