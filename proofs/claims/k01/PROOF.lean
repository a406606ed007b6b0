import PyProof.Rows.All
import Wide.All
import OpenK.AllK
import Wide.FinOn
import KE.KStateDown
import HandS.Head0
import HandS.Head1
import HandS.Head2
import HandS.HeadEnd
import HandS.HeadHook1
import HandS.HeadHook2
import HandS.ForMost
import HandS.Defaults
import HandS.Walk
import HandS.TupAny
import HandS.TupMul
import HandS.Deep
import KE.KDictKeyed
import HandS.Lambda
import HandS.TryOnly
import HandS.Style
import HandS.Wide
import HandS.WideBits
import HandS.Star
import HandS.Strs
import HandS.Conv
import HandS.IsInst
import KE.GoesEnumKw
import KE.GoesZip
import HandS.SortKw
import HandS.TupSets
import HandS.SetKeys
import KE.KRevSl
import KE.SortData
import HandS.Codes
import HandS.ExcInit
import HandS.Nested
import KE.KExcSuper
import HandS.ExcOwn
import HandS.ExcField
import HandS.ExcIs
import KE.KExcIs
import PyProof.ReprRoads
import PyProof.ReprLen
import PyProof.InstNe
import HandS.MakeKwOnly
import KE.KDictDisplayH
import HandS.Set
import HandS.SetFor
import HandS.ExcValue
import HandS.DictComp
import KE.KIndexOf
import HandS.Text
import HandS.StrMore
import PyProof.EqAt
import HandS.TryMany
import HandS.RaiseMore
import PyProof.ExcBaseAll.ValueError
import PyProof.EqKinds
import HandS.More
import HandS.Dict
import KE.KAssignIn
import HandS.HotCalls
import HandS.SuiteRaise
import HandS.OwnEq
import KE.KEqDict
import PyProof.P3Eq
import HandS.OwnIter
import KE.KDictList
import KE.KDictIter
import PySem.Challenge.RW_hushedasks_k01_errors
set_option Elab.async false
set_option linter.all false
set_option maxRecDepth 100000
set_option maxHeartbeats 1000000
namespace VmH
open PySem PySem.Spec PyProof.Rows L2 He
def insB (K : PySem.W.Frag) (x : Str) : Bool :=
  eqO (PySem.W.findIn K (.ref (ga K x)) "__class__") (some (some (.builtin "object.__class__"))) && (eqO (PySem.W.specialIn K (.builtin "object.__class__") "__get__") (some (some (.builtin "getset_descriptor.__get__"))) &&
    (decide (PySem.W.takesIn K (.builtin "object.__class__") = some true) && (decide (PySem.W.mroIn K (ga K x) (.type "object") = some true) &&
      ["NoneType", "bool", "int", "str", "tuple", "list", "dict"].all fun t => decide (PySem.W.kitOne K (.type t) (.ref (ga K x)) = some false))))
def obsI (n : Nat) (fa : List Fa) (fn : List DefD) (cs : List Str) (g : Addr → Option Obj) : AlD × Bool := (obsD fa fn (frG g (asD g n)), cs.all (insB (frG g (asD g n))))
def SaysI (fa : List Fa) (fn : List DefD) (cs : List Str) (K : PySem.W.Frag) : Prop := SaysD fa fn K ∧ cs.all (insB K) = true
def hookI (n : Nat) (fa : List Fa) (fn : List DefD) (cs : List Str) : PySem.W.Hook where
  α := AlD × Bool
  obs := fun s => obsI n fa fn cs s.heap.get?
  val := fun _ => (valD fn, true)
  says := fun _ h => ∃ K : PySem.W.Frag, K.In h ∧ SaysI fa fn cs K
  of := fun _ _ e => ⟨_, frG_in, congrArg (fun z : AlD × Bool => z.1) e, congrArg (fun z : AlD × Bool => z.2) e⟩
  keeps := fun _ _ _ ⟨K, hK, c⟩ k => ⟨K, PySem.W.Frag.In.keeps hK k, c⟩
end VmH

set_option maxHeartbeats 1000000
namespace VmH
open PySem PySem.Spec PyProof.Rows L2 He
structure XD where
  x : Str
  fld : Str
  st : Stmt
abbrev FnV2 : Type := Option (Str × Str × Arguments × FuncBody × Scope × Addr × List Str × Addr)
def fnX (K : PySem.W.Frag) (d : XD) : FnV2 := match K.lookup (ma K (ga K d.x) "__init__") with
  | some ⟨_, _, .func fd, _⟩ => some (fd.name, fd.qualname, fd.params, fd.body, fd.scope, fd.globals, fd.closure.map (·.1), fd.builtins)
  | _ => none
def XD.val (d : XD) : FnV2 := some ("__init__", d.x ++ ".__init__", defArgs d.st, .stmts (defBody d.st), defScope d.st, mainGlobals, ["__class__"], builtinsNs)
def oexB (K : PySem.W.Frag) (C : Addr) : Bool := match K.lookup C with
  | some ⟨.type t, _, .cls ⟨_, _, .ref C' :: bm, _, _, true, _, _, _, _, false⟩, ⟨[_, _, _, _, some (.builtin n), _]⟩⟩ => t == "type" && (C' == C && (n == "ValueError.__new__" && PySem.HandSPX.refsVE bm))
  | _ => false
def cloB (file : Str) (K : PySem.W.Frag) (d : XD) : Bool := match K.lookup (ma K (ga K d.x) "__init__") with
  | some ⟨_, _, .func fd, _⟩ => (match fd.closure, fd.code with
    | [(_, cc)], .ref c => (match K.lookup cc, K.lookup c with
      | some ⟨_, _, .cell (some (.ref C')), _⟩, some ⟨_, _, .fields vs, _⟩ => (match (vs[2]? : Option Value) with
        | some (Value.str f _) => C' == ga K d.x && (decide (f = file) && PySem.W.codeIn K fd.code (d.x ++ ".__init__"))
        | _ => false)
      | _, _ => false)
    | _, _ => false)
  | _ => false
def dflB (K : PySem.W.Frag) (d : XD) : Bool := match K.lookup (ma K (ga K d.x) "__init__") with
  | some ⟨_, _, .func fd, _⟩ => (match fd.defaults with
    | .ref T => (match K.lookup T with
      | some ⟨_, _, .seq its _, _⟩ => its.size == 1
      | _ => false)
    | _ => false)
  | _ => false
def subB (K : PySem.W.Frag) (C : Addr) : Bool := (PySem.W.clsIn K C).isSome && (decide (PySem.W.mroIn K C (.ref C) = some true) && (eqO (PySem.W.ks_superIn K C C "__init__") (some (some (.builtin "ValueError.__init__"))) && (eqO (PySem.W.nsIn K cStatics "thirdparty.any") (some none) && decide (PySem.W.subIn K (.ref C) (.type "ValueError") = some true))))
def isB (K : PySem.W.Frag) (C : Addr) : Bool := eqO (PySem.W.findIn K (.ref C) "__class__") (some (some (.builtin "object.__class__"))) && (eqO (PySem.W.specialIn K (.builtin "object.__class__") "__get__") (some (some (.builtin "getset_descriptor.__get__"))) && (decide (PySem.W.takesIn K (.builtin "object.__class__") = some true) && decide (PySem.W.mroIn K C (.type "object") = some true)))
def notB (K : PySem.W.Frag) (C : Addr) : Bool := ["NoneType", "bool", "int", "str", "tuple", "list", "dict"].all fun t => decide (PySem.W.kitOne K (.type t) (.ref C) = some false)
def excB (file : Str) (K : PySem.W.Frag) (xs : List XD) (d : XD) : Bool :=
  xfB K (ga K d.x) && (isB K (ga K d.x) && (notB K (ga K d.x) && (oexB K (ga K d.x) && (cloB file K d && (subB K (ga K d.x) && (eqO (PySem.W.findIn K (.ref (ga K d.x)) "__init__") (some (some (.ref (ma K (ga K d.x) "__init__")))) &&
    (decide (PySem.W.typeIn K (.ref (ma K (ga K d.x) "__init__")) = some (.type "function")) && (eqO (PySem.W.findIn K (.ref (ga K d.x)) d.fld) (some none) && (eqO (PySem.W.findIn K (.ref (ga K d.x)) "__setattr__") (some (some (.builtin "object.__setattr__"))) &&
      (decide (PySem.W.subIn K (.ref (ga K d.x)) (.type "BaseException") = some true) && (decide (PySem.W.typeIn K (.ref (ga K d.x)) = some (.type "type")) && (PySem.W.keepIn K (.ref (ga K d.x)) &&
        (decide (PySem.W.exmOne K (.ref (ga K d.x)) (.ref (ga K "HushError")) = some true) && (dflB K d && ((xs.all fun d' => decide (PySem.W.kitOne K (.ref (ga K d'.x)) (.ref (ga K d.x)) = some (decide (d'.x = d.x)))) && xs.all fun d' => decide (PySem.W.exmOne K (.ref (ga K d.x)) (.ref (ga K d'.x)) = some (decide (d'.x = d.x))))))))))))))))))
def neB0 (K : PySem.W.Frag) (x : Str) : Bool := match K.lookup (ga K x) with
  | some ⟨.type t, _, .cls ⟨_, _, [.ref C', .type o], N, _, _, _, _, _, _, false⟩, ⟨[_, _, _, _, some (.builtin _), _]⟩⟩ => t == "type" && (o == "object" && (C' == ga K x && (match K.lookup N with
    | some ⟨_, _, .dict es _, _⟩ => (es.all fun e => match e.key with
      | .str _ _ => true
      | _ => false) && (eqO (some (nsFind es "__eq__")) (some (some (.ref (ma K (ga K x) "__eq__")))) && ((nsFind es "__ne__").isNone && PySem.W.isFn K (.ref (ma K (ga K x) "__eq__"))))
    | _ => false)))
  | _ => false
def rolsOf (x : Str) : Option (List Str) := if x == ("HEADS" : Str) then some ["houses", "stands", "deed", "hear", "lost"] else none
def rolB (K : PySem.W.Frag) (x : Str) (ss : List Str) : Bool := match K.lookup (ga K x) with
  | some ⟨.type t, none, .seq its _, _⟩ => t == "list" && (decide (its.size ≤ 1000) && decide ((its.toList.map fun v => match v with
    | .str a _ => some a
    | _ => none) = ss.map some))
  | _ => false
def neB (K : PySem.W.Frag) (x : Str) : Bool := match rolsOf x with
  | some ss => rolB K x ss
  | none => neB0 K x
def asX (g : Addr → Option Obj) (n : Nat) : List Addr := cStatics :: asD g n
abbrev AlX : Type := (AlD × Bool) × Bool × List FnV2
def obsX (n : Nat) (file : Str) (fa : List Fa) (fn : List DefD) (cs : List Str) (xs : List XD) (ns : List Str) (g : Addr → Option Obj) : AlX := ((obsD fa fn (frG g (asX g n)), cs.all (insB (frG g (asX g n)))), xs.all (excB file (frG g (asX g n)) xs) && ns.all (neB (frG g (asX g n))), xs.map (fnX (frG g (asX g n))))
def SaysX (file : Str) (fa : List Fa) (fn : List DefD) (cs : List Str) (xs : List XD) (ns : List Str) (K : PySem.W.Frag) : Prop := SaysI fa fn cs K ∧ (xs.all (excB file K xs) && ns.all (neB K)) = true ∧ xs.map (fnX K) = xs.map XD.val
def hookX (n : Nat) (file : Str) (fa : List Fa) (fn : List DefD) (cs : List Str) (xs : List XD) (ns : List Str) : PySem.W.Hook where
  α := AlX
  obs := fun s => obsX n file fa fn cs xs ns s.heap.get?
  val := fun _ => ((valD fn, true), true, xs.map XD.val)
  says := fun _ h => ∃ K : PySem.W.Frag, K.In h ∧ SaysX file fa fn cs xs ns K
  of := fun _ _ e => ⟨_, frG_in, ⟨congrArg (fun z : AlX => z.1.1) e, congrArg (fun z : AlX => z.1.2) e⟩, congrArg (fun z : AlX => z.2.1) e, congrArg (fun z : AlX => z.2.2) e⟩
  keeps := fun _ _ _ ⟨K, hK, c⟩ k => ⟨K, PySem.W.Frag.In.keeps hK k, c⟩
theorem SaysX.at_ {file : Str} {fa : List Fa} {fn : List DefD} {cs : List Str} {xs : List XD} {ns : List Str} {K : PySem.W.Frag} (c : SaysX file fa fn cs xs ns K) (i : Nat) {d : XD} (h : xs[i]? = some d := by rfl) : excB file K xs d = true ∧ fnX K d = d.val := by
  refine ⟨List.all_eq_true.mp (Bool.and_eq_true_iff.mp c.2.1).1 d (List.mem_of_getElem? h), ?_⟩
  have e : (xs.map (fnX K))[i]? = (xs.map XD.val)[i]? := by rw [c.2.2]
  rw [List.getElem?_map, List.getElem?_map, h] at e
  exact Option.some.inj e
end VmH

set_option maxHeartbeats 1000000
namespace VmH
open PySem PySem.Spec PyProof.Rows L2 He
inductive CF where
  | apart (c d : Str)
  | kit (d c : Str)
  | exn (x : Str)
  | exz (x : Str)
  | kto (d c : Str) (r : Bool)
def cfB (K : PySem.W.Frag) : CF → Bool
  | .apart c d => decide (ga K d ≠ ga K c) && decide (PySem.W.subIn K (.ref (ga K d)) (.ref (ga K c)) = some false)
  | .kit d c => decide (PySem.W.kitOne K (.ref (ga K d)) (.ref (ga K c)) = some false)
  | .exn x => PySem.W.excIn K (ga K x) [.type "ValueError", .type "Exception", .type "BaseException", .type "object"] "ValueError.__new__" && (PySem.W.keepIn K (.ref (ga K x)) && (decide (PySem.W.subIn K (.ref (ga K x)) (.type "BaseException") = some true) && (decide (PySem.W.typeIn K (.ref (ga K x)) = some (.type "type")) && decide (PySem.W.exmOne K (.ref (ga K x)) (.ref (ga K x)) = some true))))
  | .exz x => xfB K (ga K x) && (isB K (ga K x) && (notB K (ga K x) && decide (PySem.W.exmOne K (.ref (ga K x)) (.ref (ga K "HushError")) = some true)))
  | .kto d c r => decide (PySem.W.kitOne K (.ref (ga K d)) (.ref (ga K c)) = some r)
abbrev AlC : Type := AlX × Bool
def obsC (n : Nat) (file : Str) (fa : List Fa) (fn : List DefD) (cs : List Str) (xs : List XD) (ns : List Str) (ps : List CF) (g : Addr → Option Obj) : AlC := (obsX n file fa fn cs xs ns g, ps.all (cfB (frG g (asX g n))))
def hookC (n : Nat) (file : Str) (fa : List Fa) (fn : List DefD) (cs : List Str) (xs : List XD) (ns : List Str) (ps : List CF) : PySem.W.Hook where
  α := AlC
  obs := fun s => obsC n file fa fn cs xs ns ps s.heap.get?
  val := fun _ => (((valD fn, true), true, xs.map XD.val), true)
  says := fun _ h => ∃ K : PySem.W.Frag, K.In h ∧ SaysX file fa fn cs xs ns K ∧ ps.all (cfB K) = true
  of := fun _ _ e => ⟨_, frG_in, ⟨⟨congrArg (fun z : AlC => z.1.1.1) e, congrArg (fun z : AlC => z.1.1.2) e⟩, congrArg (fun z : AlC => z.1.2.1) e, congrArg (fun z : AlC => z.1.2.2) e⟩, congrArg (fun z : AlC => z.2) e⟩
  keeps := fun _ _ _ ⟨K, hK, c⟩ k => ⟨K, PySem.W.Frag.In.keeps hK k, c⟩
end VmH

set_option maxHeartbeats 1000000
namespace VmH
open PySem PySem.Spec PyProof.Rows L2 He
def dfnB (K : PySem.W.Frag) (d : XD) : Bool := match K.lookup (ma K (ga K d.x) "__init__") with
  | some ⟨_, _, .func fd, _⟩ => (match fd.defaults with
    | .ref T => (match K.lookup T with
      | some ⟨_, _, .seq ⟨[.none]⟩ _, _⟩ => true
      | _ => false)
    | _ => false)
  | _ => false
def ktB (K : PySem.W.Frag) (q : Str × String) : Bool := decide (PySem.W.kitOne K (.ref (ga K q.1)) (.type q.2) = some true)
abbrev AlG : Type := AlX × Bool
def frS (g : Addr → Option Obj) (n : Nat) : PySem.W.Frag := frG g (sysModules :: asX g n)
def gB (xs : List XD) (ps : List CF) (qs : List (Str × String)) (K : PySem.W.Frag) : Bool := (K.lookup sysModules).isSome && (ps.all (cfB K) && (qs.all (ktB K) && xs.all (dfnB K)))
def obsG (n : Nat) (file : Str) (fa : List Fa) (fn : List DefD) (cs : List Str) (xs : List XD) (ns : List Str) (ps : List CF) (qs : List (Str × String)) (g : Addr → Option Obj) : AlG := (((obsD fa fn (frS g n), cs.all (insB (frS g n))), xs.all (excB file (frS g n) xs) && ns.all (neB (frS g n)), xs.map (fnX (frS g n))), gB xs ps qs (frS g n))
def hookG (n : Nat) (file : Str) (fa : List Fa) (fn : List DefD) (cs : List Str) (xs : List XD) (ns : List Str) (ps : List CF) (qs : List (Str × String)) : PySem.W.Hook where
  α := AlG
  obs := fun s => obsG n file fa fn cs xs ns ps qs s.heap.get?
  val := fun _ => (((valD fn, true), true, xs.map XD.val), true)
  says := fun _ h => ∃ K : PySem.W.Frag, K.In h ∧ SaysX file fa fn cs xs ns K ∧ gB xs ps qs K = true
  of := fun _ _ e => ⟨_, frG_in, ⟨⟨congrArg (fun z : AlG => z.1.1.1) e, congrArg (fun z : AlG => z.1.1.2) e⟩, congrArg (fun z : AlG => z.1.2.1) e, congrArg (fun z : AlG => z.1.2.2) e⟩, congrArg (fun z : AlG => z.2) e⟩
  keeps := fun _ _ _ ⟨K, hK, c⟩ k => ⟨K, PySem.W.Frag.In.keeps hK k, c⟩
theorem obsG_eq {n : Nat} {file : Str} {fa : List Fa} {fn : List DefD} {cs : List Str} {xs : List XD} {ns : List Str} {ps : List CF} {qs : List (Str × String)} {g : Addr → Option Obj} {s : Shared} (h : ∀ a, g a = s.heap.get? a) : obsG n file fa fn cs xs ns ps qs g = (hookG n file fa fn cs xs ns ps qs).obs s := by
  have e : g = s.heap.get? := funext h
  rw [e] <;> rfl
section
variable {K : PySem.W.Frag} {xs : List XD} {ps : List CF} {qs : List (Str × String)}
theorem gB_sys (h : gB xs ps qs K = true) : (K.lookup sysModules).isSome = true := (Bool.and_eq_true_iff.mp h).1
theorem gB_ps (h : gB xs ps qs K = true) : ps.all (cfB K) = true := (Bool.and_eq_true_iff.mp (Bool.and_eq_true_iff.mp h).2).1
theorem gB_kt (h : gB xs ps qs K = true) {c : Str} {t : String} (m : (c, t) ∈ qs) : PySem.W.kitOne K (.ref (ga K c)) (.type t) = some true := of_decide_eq_true (List.all_eq_true.mp (Bool.and_eq_true_iff.mp (Bool.and_eq_true_iff.mp (Bool.and_eq_true_iff.mp h).2).2).1 _ m)
theorem gB_df (h : gB xs ps qs K = true) (i : Nat) {d : XD} (m : xs[i]? = some d := by rfl) : dfnB K d = true := List.all_eq_true.mp (Bool.and_eq_true_iff.mp (Bool.and_eq_true_iff.mp (Bool.and_eq_true_iff.mp h).2).2).2 _ (List.mem_of_getElem? m)
end
end VmH

set_option maxHeartbeats 0
namespace Hd
open PySem PySem.Spec PyProof.Rows L2
def top (i : Nat) : Stmt := PySem.Challenge.pw_hushedasks_k01_errors.main.body.getD i (.Pass ⟨0, 0, 0, 0⟩)
abbrev s0 : Stmt := top 15  -- _law_cell
abbrev s1 : Stmt := top 17  -- _law_generator
abbrev s2 : Stmt := top 16  -- _law_hash
abbrev s3 : Stmt := top 19  -- _law_kinds
abbrev s4 : Stmt := top 22  -- _law_named
abbrev s5 : Stmt := top 21  -- _law_placed
abbrev s6 : Stmt := top 18  -- _law_random
abbrev s7 : Stmt := top 20  -- _law_right
abbrev s8 : Stmt := top 23  -- _law_unset
abbrev s9 : Stmt := top 24  -- law
set_option maxHeartbeats 0
def d0 : He.DefD := ⟨("_law_cell", none), "_law_cell", "_law_cell", defArgs s0, defBody s0, defScope s0, [], []⟩
def d1 : He.DefD := ⟨("_law_generator", none), "_law_generator", "_law_generator", defArgs s1, defBody s1, defScope s1, [], []⟩
def d2 : He.DefD := ⟨("_law_hash", none), "_law_hash", "_law_hash", defArgs s2, defBody s2, defScope s2, [], []⟩
def d3 : He.DefD := ⟨("_law_kinds", none), "_law_kinds", "_law_kinds", defArgs s3, defBody s3, defScope s3, [], []⟩
def d4 : He.DefD := ⟨("_law_named", none), "_law_named", "_law_named", defArgs s4, defBody s4, defScope s4, [], []⟩
def d5 : He.DefD := ⟨("_law_placed", none), "_law_placed", "_law_placed", defArgs s5, defBody s5, defScope s5, [], []⟩
def d6 : He.DefD := ⟨("_law_random", none), "_law_random", "_law_random", defArgs s6, defBody s6, defScope s6, [], []⟩
def d7 : He.DefD := ⟨("_law_right", none), "_law_right", "_law_right", defArgs s7, defBody s7, defScope s7, [], []⟩
def d8 : He.DefD := ⟨("_law_unset", none), "_law_unset", "_law_unset", defArgs s8, defBody s8, defScope s8, [], []⟩
def d9 : He.DefD := ⟨("law", none), "law", "law", defArgs s9, defBody s9, defScope s9, [], []⟩
def fn : List He.DefD := [d0, d1, d2, d3, d4, d5, d6, d7, d8, d9]
def fa0 : List He.Fa := [.glo "_law_cell", .glo "_law_generator", .glo "_law_hash", .glo "_law_kinds", .glo "_law_named", .glo "_law_placed", .glo "_law_random", .glo "_law_right", .glo "_law_unset", .glo "law", .free "ValueError", .free "dict", .free "int", .free "isinstance", .free "len", .free "list", .free "max", .free "range", .free "repr", .glo "InvalidList", .glo "InvalidItem", .glo "InvalidBook", .glo "InvalidLot", .glo "InvalidRun", .glo "InvalidGoal", .glo "InvalidNumber", .glo "InvalidText", .glo "InvalidName", .glo "TakenName", .glo "UnknownName"]
def fa1 : List He.Fa := [.glo "NothingToUndo", .glo "HushError", .free "super"]
def fa : List He.Fa := fa0 ++ fa1
def lo0 : List Str := ["HushError", "InvalidList", "InvalidItem", "InvalidBook", "InvalidLot", "InvalidRun", "InvalidGoal", "InvalidNumber", "InvalidText", "InvalidName", "TakenName", "UnknownName", "NothingToUndo", "_law_cell", "_law_hash", "_law_generator", "_law_random", "_law_kinds", "_law_right", "_law_placed", "_law_named", "_law_unset"]
def loose : List Str := lo0
def x0 : VmH.XD := ⟨"InvalidList", "value", inClass (top 2) 0⟩
def x1 : VmH.XD := ⟨"InvalidItem", "value", inClass (top 3) 0⟩
def x2 : VmH.XD := ⟨"InvalidBook", "value", inClass (top 4) 0⟩
def x3 : VmH.XD := ⟨"InvalidLot", "value", inClass (top 5) 0⟩
def x4 : VmH.XD := ⟨"InvalidRun", "value", inClass (top 6) 0⟩
def x5 : VmH.XD := ⟨"InvalidGoal", "value", inClass (top 7) 0⟩
def x6 : VmH.XD := ⟨"InvalidNumber", "value", inClass (top 8) 0⟩
def x7 : VmH.XD := ⟨"InvalidText", "value", inClass (top 9) 0⟩
def x8 : VmH.XD := ⟨"InvalidName", "name", inClass (top 10) 0⟩
def x9 : VmH.XD := ⟨"TakenName", "name", inClass (top 11) 0⟩
def x10 : VmH.XD := ⟨"UnknownName", "name", inClass (top 12) 0⟩
def xs : List VmH.XD := [x0, x1, x2, x3, x4, x5, x6, x7, x8, x9, x10]
def ns : List Str := []
def ps : List VmH.CF := [.exn "HushError", .exn "NothingToUndo", .exz "NothingToUndo", .kto "NothingToUndo" "NothingToUndo" true, .kto "NothingToUndo" "InvalidList" false, .kto "InvalidList" "NothingToUndo" false, .kto "NothingToUndo" "InvalidItem" false, .kto "InvalidItem" "NothingToUndo" false, .kto "NothingToUndo" "InvalidBook" false, .kto "InvalidBook" "NothingToUndo" false, .kto "NothingToUndo" "InvalidLot" false, .kto "InvalidLot" "NothingToUndo" false, .kto "NothingToUndo" "InvalidRun" false, .kto "InvalidRun" "NothingToUndo" false, .kto "NothingToUndo" "InvalidGoal" false, .kto "InvalidGoal" "NothingToUndo" false, .kto "NothingToUndo" "InvalidNumber" false, .kto "InvalidNumber" "NothingToUndo" false, .kto "NothingToUndo" "InvalidText" false, .kto "InvalidText" "NothingToUndo" false, .kto "NothingToUndo" "InvalidName" false, .kto "InvalidName" "NothingToUndo" false, .kto "NothingToUndo" "TakenName" false, .kto "TakenName" "NothingToUndo" false, .kto "NothingToUndo" "UnknownName" false, .kto "UnknownName" "NothingToUndo" false, .exz "HushError", .kto "InvalidList" "HushError" true, .kto "InvalidItem" "HushError" true, .kto "InvalidBook" "HushError" true, .kto "InvalidLot" "HushError" true, .kto "InvalidRun" "HushError" true, .kto "InvalidGoal" "HushError" true, .kto "InvalidNumber" "HushError" true, .kto "InvalidText" "HushError" true, .kto "InvalidName" "HushError" true, .kto "TakenName" "HushError" true, .kto "UnknownName" "HushError" true, .kto "NothingToUndo" "HushError" true]
def qs : List (Str × String) := [("InvalidList", "ValueError"), ("InvalidItem", "ValueError"), ("InvalidBook", "ValueError"), ("InvalidLot", "ValueError"), ("InvalidRun", "ValueError"), ("InvalidGoal", "ValueError"), ("InvalidNumber", "ValueError"), ("InvalidText", "ValueError"), ("InvalidName", "ValueError"), ("TakenName", "ValueError"), ("UnknownName", "ValueError"), ("NothingToUndo", "ValueError"), ("HushError", "ValueError")]
abbrev R : PySem.W.OpenRow := PySem.W.OpenLaw.row PySem.Challenge.rw_hushedasks_k01_errors
def cs : List Str := []
abbrev hk : PySem.W.Hook := VmH.hookG 5 "/claim/cut.py" fa fn cs xs ns ps qs
def ob (s : PySem.W.SharedT) : VmH.AlG := VmH.obsG 5 "/claim/cut.py" fa fn cs xs ns ps qs (HandSHeadRun.getT s)
theorem ob_eq (s : PySem.W.SharedT) : ob s = hk.obs s.abs := VmH.obsG_eq (HandSHeadRun.getT_eq s)
theorem run (w : World) : HandSHeadRun.RunEq R (PySem.W.view R.prog [24]) hk ob 20000 loose w := by
  intro os
  kernel_rfl
end Hd

set_option maxHeartbeats 1000000
namespace Vm
open PySem L2

inductive D where
  | non | bl (b : Bool) | int (i : Int) | str (x : Str)
  | tup (xs : List D) | tux (xs : List D) | lst (xs : List D) | rol (xs : List D)
  | dic (kvs : List (D × D)) | dix (kvs : List (D × D)) | ins (c : Nat) (fs : List D)
  | olst (xs : List D) | odic (kvs : List (D × D)) | odix (kvs : List (D × D)) | oins (c : Nat) (t : Bool) (fs : List D)
  | loc (n : Nat)
  | exn (c : Nat) (ds : List D)
  | fn (ds : List D) | otbl (q : Str) | otup (xs : List D)

abbrev Mu := List (Option D)
structure En where
  sl : List (Option D)
  mu : Mu
inductive Ix where
  | s (i : Nat) | m (n : Nat)
  deriving DecidableEq
def En.at (e : En) : Ix → Option D
  | .s i => e.sl[i]?.getD none
  | .m n => e.mu[n]?.getD none
def En.put (e : En) : Ix → Option D → En
  | .s i, d => ⟨e.sl.set i d, e.mu⟩
  | .m n, d => ⟨e.sl, e.mu.set n d⟩
inductive Rs (α : Type) where
  | ok (a : α) (e : En)
  | exc (c : Nat) (x : Option D) (e : En)
  | stuck
def Rs.bind {α β : Type} (r : Rs α) (k : α → En → Rs β) : Rs β := match r with
  | .ok a e => k a e
  | .exc c x e => .exc c x e
  | .stuck => .stuck
abbrev EM := En → Rs D
abbrev TM := En → Rs Bool
abbrev LM := En → Rs (List D)
def lift {α : Type} (o : Option α) (e : En) : Rs α := match o with
  | some a => .ok a e
  | none => .stuck

structure Wd where
  P : Program
  W : World
  K : PySem.W.Frag
  cls : Nat → Addr
  flds : Nat → List Str
  self : Option Addr
  lam : Option (Addr × Addr × Str × List V)
structure Gs where
  F : Hp
  ρ : Nat → Option Addr
structure Gs.le (G G' : Gs) : Prop where
  f : ∀ a u, G.F a = some u → G'.F a = some u
  r : ∀ n a, G.ρ n = some a → G'.ρ n = some a
theorem Gs.le.refl (G : Gs) : G.le G := ⟨fun _ _ h => h, fun _ _ h => h⟩
theorem Gs.le.trans {G G' G'' : Gs} (a : G.le G') (b : G'.le G'') : G.le G'' := ⟨fun x u h => b.f x u (a.f x u h), fun n x h => b.r n x (a.r n x h)⟩

def dkey : D → Option Key
  | .int i => some (.inl i)
  | .str x => if PyData.strOk x then some (.inr x) else none
  | _ => none
mutual
def dnest : D → Option NestedKey
  | .non => some .none
  | .bl b => some (.num (if b then 1 else 0))
  | .int i => some (.num i)
  | .str x => some (.text x)
  | .tup xs => (dnestL xs).map .tup
  | .tux xs => (dnestL xs).map .tup
  | _ => none
def dnestL : List D → Option (List NestedKey)
  | [] => some []
  | x :: xs => (dnest x).bind fun k => (dnestL xs).map (k :: ·)
end
def nst (w : Wd) (d : Addr) (es : List (NestedKey × Addr × V)) : HO := .ext fun h => (d == sysModules) = false ∧ ∃ (xs : List (NestedKey × Addr × Value)) (o : Obj) (ea : Array DictEntry) (ep : Nat),
  Paired (fun (p : NestedKey × Addr × V) (q : NestedKey × Addr × Value) => p.1 = q.1 ∧ p.2.1 = q.2.1 ∧ RelV p.2.2 q.2.2) es xs ∧ h.get? d = some o ∧ o.ExactDict ∧ o.data = .dict ea ep ∧ ea.toList = xs.map (entryOfKey (nestedKind w.P w.W)) ∧ (xs.map (·.1)).Nodup

def exH (C d a : Addr) : HO := .ext fun h => ∃ (oe : Obj) (vs : Array Value), h.get? a = some oe ∧ oe.cls = .ref C ∧ oe.dict = some d ∧ oe.data = .fields vs
def exZ (C a : Addr) : HO := .ext fun h => ∃ (oe : Obj) (vs : Array Value), h.get? a = some oe ∧ oe.cls = .ref C ∧ oe.dict = none ∧ oe.data = .fields vs
def XAt (F : Hp) (C a d : Addr) (ns : List Str) (vs : List V) : Prop := (F a = some (exH C d a) ∧ F d = some (.xd (ns.zip vs))) ∨ (ns = [] ∧ F a = some (exZ C a))
theorem XAt.mono {F F' : Hp} {C a d : Addr} {ns : List Str} {vs : List V} (h : XAt F C a d ns vs) (k : ∀ b u, F b = some u → F' b = some u) : XAt F' C a d ns vs := h.elim (fun ⟨h1, h2⟩ => .inl ⟨k _ _ h1, k _ _ h2⟩) fun ⟨h1, h2⟩ => .inr ⟨h1, k _ _ h2⟩
mutual
def Fz (w : Wd) (G : Gs) : D → V → Prop
  | .non, v => v = .non
  | .bl b, v => v = .bl b
  | .int i, v => v = .int i
  | .str x, v => v = .str x ∧ PyData.strOk x = true
  | .tup ds, v => ∃ a vs, v = .ref a ∧ G.F a = some (.tup vs) ∧ ds.length ≤ sizeLine ∧ FzL w G ds vs
  | .tux ds, v => ∃ a o vs, v = .ref a ∧ G.F a = some (.frz o (.tup vs)) ∧ o.dict = none ∧ ds.length ≤ sizeLine ∧ FzL w G ds vs
  | .lst ds, v => ∃ a vs, v = .ref a ∧ G.F a = some (.lst vs) ∧ ds.length ≤ sizeLine ∧ FzL w G ds vs
  | .rol ds, v => ∃ a vs, v = .ref a ∧ SqL w.K G.F a vs ∧ ds.length ≤ sizeLine ∧ FzL w G ds vs
  | .dic kvs, v => ∃ a o ks, v = .ref a ∧ G.F a = some (.frz o (.dK ks)) ∧ kvs.length ≤ sizeLine ∧ FzK w G kvs ks
  | .dix kvs, v => ∃ a o es, v = .ref a ∧ G.F a = some (.frz o (nst w a es)) ∧ kvs.length ≤ sizeLine ∧ FzN w G kvs es
  | .ins c ds, v => ∃ a dx vs, v = .ref a ∧ G.F a = some (.ins (w.cls c) dx ((w.flds c).zip vs)) ∧ ds.length = (w.flds c).length ∧ FzL w G ds vs
  | .olst _, _ => False
  | .odic _, _ => False
  | .odix _, _ => False
  | .oins _ _ _, _ => False
  | .loc n, v => ∃ a, v = .ref a ∧ G.ρ n = some a
  | .exn c ds, v => ∃ a d vs, v = .ref a ∧ XAt G.F (w.cls c) a d (w.flds c) vs ∧ ds.length = (w.flds c).length ∧ FzL w G ds vs
  | .fn ds, v => ∃ a c q vs, w.lam = some (a, c, q, vs) ∧ v = .ref a ∧ G.F c = some (LamX.CodeO c q) ∧ FzL w G ds vs
  | .otbl _, _ => False
  | .otup _, _ => False
def FzL (w : Wd) (G : Gs) : List D → List V → Prop
  | [], vs => vs = []
  | d :: ds, vs => ∃ v r, vs = v :: r ∧ Fz w G d v ∧ FzL w G ds r
def FzK (w : Wd) (G : Gs) : List (D × D) → List (Key × V) → Prop
  | [], ks => ks = []
  | (k, d) :: r, ks => ∃ key v t, ks = (key, v) :: t ∧ dkey k = some key ∧ Fz w G d v ∧ FzK w G r t
def FzN (w : Wd) (G : Gs) : List (D × D) → List (NestedKey × Addr × V) → Prop
  | [], es => es = []
  | (k, d) :: r, es => ∃ nk a v t, es = (nk, a, v) :: t ∧ dnest k = some nk ∧ nk.depth ≤ 8 ∧ Fz w G k (.ref a) ∧ Fz w G d v ∧ FzN w G r t
end
section
variable {w : Wd} {G G' : Gs}
theorem fz_non {v : V} : Fz w G .non v ↔ v = .non := by simp [Fz]
theorem fz_bl {x : Bool} {v : V} : Fz w G (.bl x) v ↔ v = .bl x := by simp [Fz]
theorem fz_int {x : Int} {v : V} : Fz w G (.int x) v ↔ v = .int x := by simp [Fz]
theorem fz_str {x : Str} {v : V} : Fz w G (.str x) v ↔ v = .str x ∧ PyData.strOk x = true := by simp [Fz]
theorem fz_tup {ds : List D} {v : V} : Fz w G (.tup ds) v ↔ ∃ a vs, v = .ref a ∧ G.F a = some (.tup vs) ∧ ds.length ≤ sizeLine ∧ FzL w G ds vs := by simp [Fz]
theorem fz_tux {ds : List D} {v : V} : Fz w G (.tux ds) v ↔ ∃ a o vs, v = .ref a ∧ G.F a = some (.frz o (.tup vs)) ∧ o.dict = none ∧ ds.length ≤ sizeLine ∧ FzL w G ds vs := by simp [Fz]
theorem fz_lst {ds : List D} {v : V} : Fz w G (.lst ds) v ↔ ∃ a vs, v = .ref a ∧ G.F a = some (.lst vs) ∧ ds.length ≤ sizeLine ∧ FzL w G ds vs := by simp [Fz]
theorem fz_rol {ds : List D} {v : V} : Fz w G (.rol ds) v ↔ ∃ a vs, v = .ref a ∧ SqL w.K G.F a vs ∧ ds.length ≤ sizeLine ∧ FzL w G ds vs := by simp [Fz]
theorem fz_dic {kvs : List (D × D)} {v : V} : Fz w G (.dic kvs) v ↔ ∃ a o ks, v = .ref a ∧ G.F a = some (.frz o (.dK ks)) ∧ kvs.length ≤ sizeLine ∧ FzK w G kvs ks := by simp [Fz]
theorem fz_dix {kvs : List (D × D)} {v : V} : Fz w G (.dix kvs) v ↔ ∃ a o es, v = .ref a ∧ G.F a = some (.frz o (nst w a es)) ∧ kvs.length ≤ sizeLine ∧ FzN w G kvs es := by simp [Fz]
theorem fz_ins {c : Nat} {ds : List D} {v : V} : Fz w G (.ins c ds) v ↔ ∃ a dx vs, v = .ref a ∧ G.F a = some (.ins (w.cls c) dx ((w.flds c).zip vs)) ∧ ds.length = (w.flds c).length ∧ FzL w G ds vs := by simp [Fz]
theorem fz_loc {n : Nat} {v : V} : Fz w G (.loc n) v ↔ ∃ a, v = .ref a ∧ G.ρ n = some a := by simp [Fz]
theorem fz_fn {ds : List D} {v : V} : Fz w G (.fn ds) v ↔ ∃ a c q vs, w.lam = some (a, c, q, vs) ∧ v = .ref a ∧ G.F c = some (LamX.CodeO c q) ∧ FzL w G ds vs := by simp only [Fz]
theorem fz_exn {c : Nat} {ds : List D} {v : V} : Fz w G (.exn c ds) v ↔ ∃ a d vs, v = .ref a ∧ XAt G.F (w.cls c) a d (w.flds c) vs ∧ ds.length = (w.flds c).length ∧ FzL w G ds vs := by simp [Fz]
theorem fzl_nil {vs : List V} : FzL w G [] vs ↔ vs = [] := by simp [FzL]
theorem fzl_cons {d : D} {ds : List D} {vs : List V} : FzL w G (d :: ds) vs ↔ ∃ v r, vs = v :: r ∧ Fz w G d v ∧ FzL w G ds r := by simp [FzL]
theorem fzk_nil {vs : List (Key × V)} : FzK w G [] vs ↔ vs = [] := by simp [FzK]
theorem fzk_cons {k d : D} {r : List (D × D)} {ks : List (Key × V)} : FzK w G ((k, d) :: r) ks ↔ ∃ key v t, ks = (key, v) :: t ∧ dkey k = some key ∧ Fz w G d v ∧ FzK w G r t := by simp [FzK]
theorem fzn_nil {vs : List (NestedKey × Addr × V)} : FzN w G [] vs ↔ vs = [] := by simp [FzN]
theorem fzn_cons {k d : D} {r : List (D × D)} {es : List (NestedKey × Addr × V)} : FzN w G ((k, d) :: r) es ↔ ∃ nk a v t, es = (nk, a, v) :: t ∧ dnest k = some nk ∧ nk.depth ≤ 8 ∧ Fz w G k (.ref a) ∧ Fz w G d v ∧ FzN w G r t := by simp [FzN]
theorem FzL.length : ∀ {ds : List D} {vs : List V}, FzL w G ds vs → vs.length = ds.length
  | [], vs, h => by
    rw [fzl_nil.mp h]
    rfl
  | d :: ds, vs, h => by
    obtain ⟨v, r, rfl, _, h2⟩ := fzl_cons.mp h
    simp [FzL.length h2]
theorem FzL.get : ∀ {ds : List D} {vs : List V} {i : Nat} {d : D}, FzL w G ds vs → ds[i]? = some d → ∃ v, vs[i]? = some v ∧ Fz w G d v
  | [], vs, i, d, h, e => by simp at e
  | d :: ds, vs, 0, d', h, e => by
    obtain ⟨v, r, rfl, h1, _⟩ := fzl_cons.mp h
    simp at e
    subst e
    exact ⟨v, rfl, h1⟩
  | d :: ds, vs, i + 1, d', h, e => by
    obtain ⟨v, r, rfl, _, h2⟩ := fzl_cons.mp h
    obtain ⟨v', e', z⟩ := FzL.get (i := i) h2 (by simpa using e)
    exact ⟨v', by simpa using e', z⟩
theorem FzL.append : ∀ {ds ds' : List D} {vs vs' : List V}, FzL w G ds vs → FzL w G ds' vs' → FzL w G (ds ++ ds') (vs ++ vs')
  | [], ds', vs, vs', h, h' => by
    rw [fzl_nil.mp h]
    exact h'
  | d :: ds, ds', vs, vs', h, h' => by
    obtain ⟨v, r, rfl, h1, h2⟩ := fzl_cons.mp h
    exact fzl_cons.mpr ⟨v, r ++ vs', rfl, h1, FzL.append h2 h'⟩
theorem FzL.one {d : D} {v : V} (h : Fz w G d v) : FzL w G [d] [v] := fzl_cons.mpr ⟨v, [], rfl, h, fzl_nil.mpr rfl⟩
theorem FzL.take : ∀ {ds : List D} {vs : List V} (n : Nat), FzL w G ds vs → FzL w G (ds.take n) (vs.take n)
  | [], vs, n, h => by
    rw [fzl_nil.mp h]
    simp [FzL]
  | d :: ds, vs, 0, h => by simp [FzL]
  | d :: ds, vs, n + 1, h => by
    obtain ⟨v, r, rfl, h1, h2⟩ := fzl_cons.mp h
    exact fzl_cons.mpr ⟨v, r.take n, rfl, h1, h2.take n⟩
theorem FzL.drop : ∀ {ds : List D} {vs : List V} (n : Nat), FzL w G ds vs → FzL w G (ds.drop n) (vs.drop n)
  | [], vs, n, h => by
    rw [fzl_nil.mp h]
    simp [FzL]
  | d :: ds, vs, 0, h => h
  | d :: ds, vs, n + 1, h => by
    obtain ⟨v, r, rfl, h1, h2⟩ := fzl_cons.mp h
    exact h2.drop n
theorem FzL.set : ∀ {ds : List D} {vs : List V} (n : Nat) {d : D} {v : V}, FzL w G ds vs → Fz w G d v → FzL w G (ds.set n d) (vs.set n v)
  | [], vs, n, d, v, h, z => by
    rw [fzl_nil.mp h]
    simp [FzL]
  | d' :: ds, vs, 0, d, v, h, z => by
    obtain ⟨v', r, rfl, h1, h2⟩ := fzl_cons.mp h
    exact fzl_cons.mpr ⟨v, r, rfl, z, h2⟩
  | d' :: ds, vs, n + 1, d, v, h, z => by
    obtain ⟨v', r, rfl, h1, h2⟩ := fzl_cons.mp h
    exact fzl_cons.mpr ⟨v', r.set n v, rfl, h1, FzL.set n h2 z⟩
theorem FzL.of : ∀ {ds : List D} {vs : List V}, vs.length = ds.length → (∀ (i : Nat) (d : D) (v : V), ds[i]? = some d → vs[i]? = some v → Fz w G d v) → FzL w G ds vs
  | [], [], _, _ => fzl_nil.mpr rfl
  | [], _ :: _, h, _ => by simp at h
  | _ :: _, [], h, _ => by simp at h
  | d :: ds, v :: vs, h, k => fzl_cons.mpr ⟨v, vs, rfl, k 0 d v rfl rfl, FzL.of (by simpa using h) fun i d' v' h1 h2 => k (i + 1) d' v' (by simpa using h1) (by simpa using h2)⟩
theorem FzK.length : ∀ {ds : List (D × D)} {vs : List (Key × V)}, FzK w G ds vs → vs.length = ds.length
  | [], vs, h => by
    rw [fzk_nil.mp h]
    rfl
  | (k, d) :: ds, vs, h => by
    obtain ⟨key, v, r, rfl, _, _, h2⟩ := fzk_cons.mp h
    simp [FzK.length h2]
theorem FzN.length : ∀ {ds : List (D × D)} {vs : List (NestedKey × Addr × V)}, FzN w G ds vs → vs.length = ds.length
  | [], vs, h => by
    rw [fzn_nil.mp h]
    rfl
  | (k, d) :: ds, vs, h => by
    obtain ⟨_, _, _, r, rfl, _, _, _, _, h2⟩ := fzn_cons.mp h
    simp [FzN.length h2]
theorem SqL.mono {K : PySem.W.Frag} {F F' : Hp} {a : Addr} {xs : List V} (k : ∀ a u, F a = some u → F' a = some u) (h : SqL K F a xs) : SqL K F' a xs := by
  rcases h with (h | ⟨o, h⟩) | h
  · exact .inl (.inl (k _ _ h))
  · exact .inl (.inr ⟨o, k _ _ h⟩)
  · exact .inr h
mutual
theorem Fz.mono (k : G.le G') : ∀ {d : D} {v : V}, Fz w G d v → Fz w G' d v
  | .non, v, h => by simpa [Fz] using h
  | .bl b, v, h => by simpa [Fz] using h
  | .int i, v, h => by simpa [Fz] using h
  | .str x, v, h => by simpa [Fz] using h
  | .tup ds, v, h => by
    unfold Fz at h ⊢
    obtain ⟨a, vs, rfl, h1, h2, h3⟩ := h
    exact ⟨a, vs, rfl, k.f _ _ h1, h2, FzL.mono k h3⟩
  | .tux ds, v, h => by
    unfold Fz at h ⊢
    obtain ⟨a, o, vs, rfl, h1, hd, h2, h3⟩ := h
    exact ⟨a, o, vs, rfl, k.f _ _ h1, hd, h2, FzL.mono k h3⟩
  | .lst ds, v, h => by
    unfold Fz at h ⊢
    obtain ⟨a, vs, rfl, h1, h2, h3⟩ := h
    exact ⟨a, vs, rfl, k.f _ _ h1, h2, FzL.mono k h3⟩
  | .rol ds, v, h => by
    unfold Fz at h ⊢
    obtain ⟨a, vs, rfl, h1, h2, h3⟩ := h
    exact ⟨a, vs, rfl, SqL.mono k.f h1, h2, FzL.mono k h3⟩
  | .dic ds, v, h => by
    unfold Fz at h ⊢
    obtain ⟨a, o, vs, rfl, h1, h2, h3⟩ := h
    exact ⟨a, o, vs, rfl, k.f _ _ h1, h2, FzK.mono k h3⟩
  | .dix ds, v, h => by
    unfold Fz at h ⊢
    obtain ⟨a, o, vs, rfl, h1, h2, h3⟩ := h
    exact ⟨a, o, vs, rfl, k.f _ _ h1, h2, FzN.mono k h3⟩
  | .ins c ds, v, h => by
    unfold Fz at h ⊢
    obtain ⟨a, dx, vs, rfl, h1, h2, h3⟩ := h
    exact ⟨a, dx, vs, rfl, k.f _ _ h1, h2, FzL.mono k h3⟩
  | .olst _, v, h => by simp [Fz] at h
  | .odic _, v, h => by simp [Fz] at h
  | .odix _, v, h => by simp [Fz] at h
  | .oins _ _ _, v, h => by simp [Fz] at h
  | .loc n, v, h => by
    unfold Fz at h ⊢
    obtain ⟨a, rfl, h1⟩ := h
    exact ⟨a, rfl, k.r _ _ h1⟩
  | .exn c ds, v, h => by
    unfold Fz at h ⊢
    obtain ⟨a, d, vs, rfl, h1, h3, h4⟩ := h
    exact ⟨a, d, vs, rfl, h1.mono k.f, h3, FzL.mono k h4⟩
  | .fn ds, v, h => by
    unfold Fz at h ⊢
    obtain ⟨a, c, q, vs, h1, h2, h3, h4⟩ := h
    exact ⟨a, c, q, vs, h1, h2, k.f _ _ h3, FzL.mono k h4⟩
  | .otbl _, v, h => by simp [Fz] at h
  | .otup _, v, h => by simp [Fz] at h
theorem FzL.mono (k : G.le G') : ∀ {ds : List D} {vs : List V}, FzL w G ds vs → FzL w G' ds vs
  | [], vs, h => fzl_nil.mpr (fzl_nil.mp h)
  | d :: ds, vs, h => by
    obtain ⟨v, r, rfl, h1, h2⟩ := fzl_cons.mp h
    exact fzl_cons.mpr ⟨v, r, rfl, Fz.mono k h1, FzL.mono k h2⟩
theorem FzK.mono (k : G.le G') : ∀ {ds : List (D × D)} {vs : List (Key × V)}, FzK w G ds vs → FzK w G' ds vs
  | [], vs, h => fzk_nil.mpr (fzk_nil.mp h)
  | (_, d) :: ds, vs, h => by
    obtain ⟨key, v, r, rfl, h0, h1, h2⟩ := fzk_cons.mp h
    exact fzk_cons.mpr ⟨key, v, r, rfl, h0, Fz.mono k h1, FzK.mono k h2⟩
theorem FzN.mono (k : G.le G') : ∀ {ds : List (D × D)} {vs : List (NestedKey × Addr × V)}, FzN w G ds vs → FzN w G' ds vs
  | [], vs, h => fzn_nil.mpr (fzn_nil.mp h)
  | (kd, d) :: ds, vs, h => by
    obtain ⟨key, a, v, r, rfl, h0, hd, h1, h3, h2⟩ := fzn_cons.mp h
    exact fzn_cons.mpr ⟨key, a, v, r, rfl, h0, hd, Fz.mono k h1, Fz.mono k h3, FzN.mono k h2⟩
end
end

mutual
def Own (w : Wd) (G : Gs) (H : Hp) : D → V → List Addr → Prop
  | .olst ds, v, l => ∃ a vs l', v = .ref a ∧ H a = some (.lst vs) ∧ ds.length ≤ sizeLine ∧ OwnL w G H ds vs l' ∧ l = a :: l'
  | .odic kvs, v, l => ∃ a ks l', v = .ref a ∧ H a = some (.dK ks) ∧ kvs.length ≤ sizeLine ∧ OwnK w G H kvs ks l' ∧ l = a :: l'
  | .odix kvs, v, l => ∃ a es l', v = .ref a ∧ H a = some (nst w a es) ∧ kvs.length ≤ sizeLine ∧ OwnN w G H kvs es l' ∧ l = a :: l'
  | .oins c t ds, v, l => ∃ a dx vs l', v = .ref a ∧ (t = true → w.self = some a) ∧ H a = some (.ins (w.cls c) dx (((w.flds c).take ds.length).zip vs)) ∧ ds.length ≤ (w.flds c).length ∧ OwnL w G H ds vs l' ∧ l = a :: l'
  | .non, v, l => v = .non ∧ l = []
  | .bl b, v, l => v = .bl b ∧ l = []
  | .int i, v, l => v = .int i ∧ l = []
  | .str x, v, l => (v = .str x ∧ PyData.strOk x = true) ∧ l = []
  | .tup ds, v, l => Fz w G (.tup ds) v ∧ l = []
  | .tux ds, v, l => Fz w G (.tux ds) v ∧ l = []
  | .lst ds, v, l => Fz w G (.lst ds) v ∧ l = []
  | .rol ds, v, l => Fz w G (.rol ds) v ∧ l = []
  | .dic kvs, v, l => Fz w G (.dic kvs) v ∧ l = []
  | .dix kvs, v, l => Fz w G (.dix kvs) v ∧ l = []
  | .ins c ds, v, l => Fz w G (.ins c ds) v ∧ l = []
  | .loc n, v, l => Fz w G (.loc n) v ∧ l = []
  | .exn c ds, v, l => Fz w G (.exn c ds) v ∧ l = []
  | .fn ds, v, l => Fz w G (.fn ds) v ∧ l = []
  | .otbl q, v, l => ∃ P ps, v = .ref P ∧ H P = some (.tbl ps) ∧ TriplesOk ps.toList ∧ ((∀ (pos : Pos) (cv : Value), codeAmong pos ps.toList = some cv → ∃ c, cv = .ref c ∧ G.F c = some (LamX.CodeO c q)) ∧ P = w.cls 999) ∧ l = [P]
  | .otup ds, v, l => ∃ a vs l', v = .ref a ∧ H a = some (.tup vs) ∧ ds.length ≤ sizeLine ∧ OwnL w G H ds vs l' ∧ l = a :: l'
def OwnL (w : Wd) (G : Gs) (H : Hp) : List D → List V → List Addr → Prop
  | [], vs, l => vs = [] ∧ l = []
  | d :: ds, vs, l => ∃ v r l1 l2, vs = v :: r ∧ Own w G H d v l1 ∧ OwnL w G H ds r l2 ∧ l = l1 ++ l2
def OwnK (w : Wd) (G : Gs) (H : Hp) : List (D × D) → List (Key × V) → List Addr → Prop
  | [], ks, l => ks = [] ∧ l = []
  | (k, d) :: r, ks, l => ∃ key v t l1 l2, ks = (key, v) :: t ∧ dkey k = some key ∧ Own w G H d v l1 ∧ OwnK w G H r t l2 ∧ l = l1 ++ l2
def OwnN (w : Wd) (G : Gs) (H : Hp) : List (D × D) → List (NestedKey × Addr × V) → List Addr → Prop
  | [], es, l => es = [] ∧ l = []
  | (k, d) :: r, es, l => ∃ nk a v t l1 l2, es = (nk, a, v) :: t ∧ dnest k = some nk ∧ nk.depth ≤ 8 ∧ Fz w G k (.ref a) ∧ Own w G H d v l1 ∧ OwnN w G H r t l2 ∧ l = l1 ++ l2
end
def isF : D → Bool
  | .olst _ => false
  | .odic _ => false
  | .odix _ => false
  | .oins _ _ _ => false
  | .otbl _ => false
  | .otup _ => false
  | _ => true
section
variable {w : Wd} {G G' : Gs} {H H' : Hp}
theorem own_otbl {q : Str} {v : V} {l : List Addr} : Own w G H (.otbl q) v l ↔ ∃ P ps, v = .ref P ∧ H P = some (.tbl ps) ∧ TriplesOk ps.toList ∧ ((∀ (pos : Pos) (cv : Value), codeAmong pos ps.toList = some cv → ∃ c, cv = .ref c ∧ G.F c = some (LamX.CodeO c q)) ∧ P = w.cls 999) ∧ l = [P] := by simp [Own]
theorem own_olst {ds : List D} {v : V} {l : List Addr} : Own w G H (.olst ds) v l ↔ ∃ a vs l', v = .ref a ∧ H a = some (.lst vs) ∧ ds.length ≤ sizeLine ∧ OwnL w G H ds vs l' ∧ l = a :: l' := by simp [Own]
theorem own_otup {ds : List D} {v : V} {l : List Addr} : Own w G H (.otup ds) v l ↔ ∃ a vs l', v = .ref a ∧ H a = some (.tup vs) ∧ ds.length ≤ sizeLine ∧ OwnL w G H ds vs l' ∧ l = a :: l' := by simp [Own]
theorem own_odic {ds : List (D × D)} {v : V} {l : List Addr} : Own w G H (.odic ds) v l ↔ ∃ a ks l', v = .ref a ∧ H a = some (.dK ks) ∧ ds.length ≤ sizeLine ∧ OwnK w G H ds ks l' ∧ l = a :: l' := by simp [Own]
theorem own_odix {ds : List (D × D)} {v : V} {l : List Addr} : Own w G H (.odix ds) v l ↔ ∃ a es l', v = .ref a ∧ H a = some (nst w a es) ∧ ds.length ≤ sizeLine ∧ OwnN w G H ds es l' ∧ l = a :: l' := by simp [Own]
theorem own_oins {c : Nat} {t : Bool} {ds : List D} {v : V} {l : List Addr} : Own w G H (.oins c t ds) v l ↔ ∃ a dx vs l', v = .ref a ∧ (t = true → w.self = some a) ∧ H a = some (.ins (w.cls c) dx (((w.flds c).take ds.length).zip vs)) ∧ ds.length ≤ (w.flds c).length ∧ OwnL w G H ds vs l' ∧ l = a :: l' := by simp [Own]
theorem own_fz {d : D} {v : V} {l : List Addr} (h : isF d = true) : Own w G H d v l ↔ Fz w G d v ∧ l = [] := by
  cases d <;> first | (simp [isF] at h; done) | simp [Own, Fz]
theorem Fz.isF {d : D} {v : V} (h : Fz w G d v) : isF d = true := by
  cases d <;> first | rfl | (simp [Fz] at h)
theorem Fz.own {d : D} {v : V} (h : Fz w G d v) : Own w G H d v [] := (own_fz h.isF).mpr ⟨h, rfl⟩
theorem ownl_nil {vs : List V} {l : List Addr} : OwnL w G H [] vs l ↔ vs = [] ∧ l = [] := by simp [OwnL]
theorem ownl_cons {d : D} {ds : List D} {vs : List V} {l : List Addr} : OwnL w G H (d :: ds) vs l ↔ ∃ v r l1 l2, vs = v :: r ∧ Own w G H d v l1 ∧ OwnL w G H ds r l2 ∧ l = l1 ++ l2 := by simp [OwnL]
theorem ownk_nil {vs : List (Key × V)} {l : List Addr} : OwnK w G H [] vs l ↔ vs = [] ∧ l = [] := by simp [OwnK]
theorem ownk_cons {k d : D} {r : List (D × D)} {ks : List (Key × V)} {l : List Addr} : OwnK w G H ((k, d) :: r) ks l ↔ ∃ key v t l1 l2, ks = (key, v) :: t ∧ dkey k = some key ∧ Own w G H d v l1 ∧ OwnK w G H r t l2 ∧ l = l1 ++ l2 := by simp [OwnK]
theorem ownn_nil {vs : List (NestedKey × Addr × V)} {l : List Addr} : OwnN w G H [] vs l ↔ vs = [] ∧ l = [] := by simp [OwnN]
theorem ownn_cons {k d : D} {r : List (D × D)} {es : List (NestedKey × Addr × V)} {l : List Addr} : OwnN w G H ((k, d) :: r) es l ↔ ∃ nk a v t l1 l2, es = (nk, a, v) :: t ∧ dnest k = some nk ∧ nk.depth ≤ 8 ∧ Fz w G k (.ref a) ∧ Own w G H d v l1 ∧ OwnN w G H r t l2 ∧ l = l1 ++ l2 := by simp [OwnN]
theorem OwnL.length : ∀ {ds : List D} {vs : List V} {l : List Addr}, OwnL w G H ds vs l → vs.length = ds.length
  | [], vs, l, h => by
    rw [(ownl_nil.mp h).1]
    rfl
  | d :: ds, vs, l, h => by
    obtain ⟨v, r, l1, l2, rfl, _, h2, _⟩ := ownl_cons.mp h
    simp [OwnL.length h2]
theorem OwnK.length : ∀ {ds : List (D × D)} {vs : List (Key × V)} {l : List Addr}, OwnK w G H ds vs l → vs.length = ds.length
  | [], vs, l, h => by
    rw [(ownk_nil.mp h).1]
    rfl
  | (k, d) :: ds, vs, l, h => by
    obtain ⟨key, v, r, l1, l2, rfl, _, _, h2, _⟩ := ownk_cons.mp h
    simp [OwnK.length h2]
theorem OwnN.length : ∀ {ds : List (D × D)} {vs : List (NestedKey × Addr × V)} {l : List Addr}, OwnN w G H ds vs l → vs.length = ds.length
  | [], vs, l, h => by
    rw [(ownn_nil.mp h).1]
    rfl
  | (k, d) :: ds, vs, l, h => by
    obtain ⟨_, _, v, r, l1, l2, rfl, _, _, _, _, h2, _⟩ := ownn_cons.mp h
    simp [OwnN.length h2]
theorem FzL.own : ∀ {ds : List D} {vs : List V}, FzL w G ds vs → OwnL w G H ds vs []
  | [], vs, h => ownl_nil.mpr ⟨fzl_nil.mp h, rfl⟩
  | d :: ds, vs, h => by
    obtain ⟨v, r, rfl, h1, h2⟩ := fzl_cons.mp h
    exact ownl_cons.mpr ⟨v, r, [], [], rfl, h1.own, h2.own, rfl⟩
theorem FzK.own : ∀ {ds : List (D × D)} {vs : List (Key × V)}, FzK w G ds vs → OwnK w G H ds vs []
  | [], vs, h => ownk_nil.mpr ⟨fzk_nil.mp h, rfl⟩
  | (k, d) :: ds, vs, h => by
    obtain ⟨key, v, r, rfl, h0, h1, h2⟩ := fzk_cons.mp h
    exact ownk_cons.mpr ⟨key, v, r, [], [], rfl, h0, h1.own, h2.own, rfl⟩
theorem FzN.own : ∀ {ds : List (D × D)} {vs : List (NestedKey × Addr × V)}, FzN w G ds vs → OwnN w G H ds vs []
  | [], vs, h => ownn_nil.mpr ⟨fzn_nil.mp h, rfl⟩
  | (k, d) :: ds, vs, h => by
    obtain ⟨key, a, v, r, rfl, h0, hd, h1, h3, h2⟩ := fzn_cons.mp h
    exact ownn_cons.mpr ⟨key, a, v, r, [], [], rfl, h0, hd, h1, h3.own, h2.own, rfl⟩
theorem OwnL.fz : ∀ {ds : List D} {vs : List V} {l : List Addr}, OwnL w G H ds vs l → ds.all isF = true → FzL w G ds vs ∧ l = []
  | [], vs, l, h, _ => ⟨fzl_nil.mpr (ownl_nil.mp h).1, (ownl_nil.mp h).2⟩
  | d :: ds, vs, l, h, f => by
    obtain ⟨v, r, l1, l2, rfl, h1, h2, rfl⟩ := ownl_cons.mp h
    rw [List.all_cons, Bool.and_eq_true] at f
    obtain ⟨h3, rfl⟩ := (own_fz f.1).mp h1
    obtain ⟨h4, rfl⟩ := h2.fz f.2
    exact ⟨fzl_cons.mpr ⟨v, r, rfl, h3, h4⟩, rfl⟩
theorem OwnK.fz : ∀ {ds : List (D × D)} {vs : List (Key × V)} {l : List Addr}, OwnK w G H ds vs l → (ds.all fun p => isF p.2) = true → FzK w G ds vs ∧ l = []
  | [], vs, l, h, _ => ⟨fzk_nil.mpr (ownk_nil.mp h).1, (ownk_nil.mp h).2⟩
  | (k, d) :: ds, vs, l, h, f => by
    obtain ⟨key, v, r, l1, l2, rfl, h0, h1, h2, rfl⟩ := ownk_cons.mp h
    rw [List.all_cons, Bool.and_eq_true] at f
    obtain ⟨h3, rfl⟩ := (own_fz f.1).mp h1
    obtain ⟨h4, rfl⟩ := h2.fz f.2
    exact ⟨fzk_cons.mpr ⟨key, v, r, rfl, h0, h3, h4⟩, rfl⟩
theorem OwnN.fz : ∀ {ds : List (D × D)} {vs : List (NestedKey × Addr × V)} {l : List Addr}, OwnN w G H ds vs l → (ds.all fun p => isF p.2) = true → FzN w G ds vs ∧ l = []
  | [], vs, l, h, _ => ⟨fzn_nil.mpr (ownn_nil.mp h).1, (ownn_nil.mp h).2⟩
  | (k, d) :: ds, vs, l, h, f => by
    obtain ⟨key, a, v, r, l1, l2, rfl, h0, hd, hk, h1, h2, rfl⟩ := ownn_cons.mp h
    rw [List.all_cons, Bool.and_eq_true] at f
    obtain ⟨h3, rfl⟩ := (own_fz f.1).mp h1
    obtain ⟨h4, rfl⟩ := h2.fz f.2
    exact ⟨fzn_cons.mpr ⟨key, a, v, r, rfl, h0, hd, hk, h3, h4⟩, rfl⟩
mutual
theorem Own.keep (k : G.le G') : ∀ {d : D} {v : V} {l : List Addr}, (∀ a ∈ l, ∀ u, H a = some u → H' a = some u) → Own w G H d v l → Own w G' H' d v l
  | .olst ds, v, l, s, h => by
    obtain ⟨a, vs, l', rfl, h1, h2, h3, rfl⟩ := own_olst.mp h
    exact own_olst.mpr ⟨a, vs, l', rfl, s a (List.mem_cons_self ..) _ h1, h2, OwnL.keep k (fun b hb => s b (List.mem_cons_of_mem _ hb)) h3, rfl⟩
  | .odic ds, v, l, s, h => by
    obtain ⟨a, vs, l', rfl, h1, h2, h3, rfl⟩ := own_odic.mp h
    exact own_odic.mpr ⟨a, vs, l', rfl, s a (List.mem_cons_self ..) _ h1, h2, OwnK.keep k (fun b hb => s b (List.mem_cons_of_mem _ hb)) h3, rfl⟩
  | .odix ds, v, l, s, h => by
    obtain ⟨a, vs, l', rfl, h1, h2, h3, rfl⟩ := own_odix.mp h
    exact own_odix.mpr ⟨a, vs, l', rfl, s a (List.mem_cons_self ..) _ h1, h2, OwnN.keep k (fun b hb => s b (List.mem_cons_of_mem _ hb)) h3, rfl⟩
  | .oins c t ds, v, l, s, h => by
    obtain ⟨a, dx, vs, l', rfl, h0, h1, h2, h3, rfl⟩ := own_oins.mp h
    exact own_oins.mpr ⟨a, dx, vs, l', rfl, h0, s a (List.mem_cons_self ..) _ h1, h2, OwnL.keep k (fun b hb => s b (List.mem_cons_of_mem _ hb)) h3, rfl⟩
  | .non, v, l, s, h => by simpa [Own] using h
  | .bl _, v, l, s, h => by simpa [Own] using h
  | .int _, v, l, s, h => by simpa [Own] using h
  | .str _, v, l, s, h => by simpa [Own] using h
  | .tup ds, v, l, s, h => by
    obtain ⟨h1, h2⟩ := (own_fz rfl).mp h
    exact (own_fz rfl).mpr ⟨h1.mono k, h2⟩
  | .tux ds, v, l, s, h => by
    obtain ⟨h1, h2⟩ := (own_fz rfl).mp h
    exact (own_fz rfl).mpr ⟨h1.mono k, h2⟩
  | .lst ds, v, l, s, h => by
    obtain ⟨h1, h2⟩ := (own_fz rfl).mp h
    exact (own_fz rfl).mpr ⟨h1.mono k, h2⟩
  | .rol ds, v, l, s, h => by
    obtain ⟨h1, h2⟩ := (own_fz rfl).mp h
    exact (own_fz rfl).mpr ⟨h1.mono k, h2⟩
  | .dic ds, v, l, s, h => by
    obtain ⟨h1, h2⟩ := (own_fz rfl).mp h
    exact (own_fz rfl).mpr ⟨h1.mono k, h2⟩
  | .dix ds, v, l, s, h => by
    obtain ⟨h1, h2⟩ := (own_fz rfl).mp h
    exact (own_fz rfl).mpr ⟨h1.mono k, h2⟩
  | .ins c ds, v, l, s, h => by
    obtain ⟨h1, h2⟩ := (own_fz rfl).mp h
    exact (own_fz rfl).mpr ⟨h1.mono k, h2⟩
  | .loc n, v, l, s, h => by
    obtain ⟨h1, h2⟩ := (own_fz rfl).mp h
    exact (own_fz rfl).mpr ⟨h1.mono k, h2⟩
  | .exn _ _, v, l, s, h => by
    obtain ⟨h1, h2⟩ := (own_fz rfl).mp h
    exact (own_fz rfl).mpr ⟨h1.mono k, h2⟩
  | .fn _, v, l, s, h => by
    obtain ⟨h1, h2⟩ := (own_fz rfl).mp h
    exact (own_fz rfl).mpr ⟨h1.mono k, h2⟩
  | .otup ds, v, l, s, h => by
    obtain ⟨a, vs, l', rfl, h1, h2, h3, rfl⟩ := own_otup.mp h
    exact own_otup.mpr ⟨a, vs, l', rfl, s a (List.mem_cons_self ..) _ h1, h2, OwnL.keep k (fun b hb => s b (List.mem_cons_of_mem _ hb)) h3, rfl⟩
  | .otbl q, v, l, s, h => by
    obtain ⟨P, ps, rfl, h1, h2, h3, rfl⟩ := own_otbl.mp h
    exact own_otbl.mpr ⟨P, ps, rfl, s P (by simp) _ h1, h2, ⟨fun pos cv e => let ⟨c, e1, e2⟩ := h3.1 pos cv e; ⟨c, e1, k.f _ _ e2⟩, h3.2⟩, rfl⟩
theorem OwnL.keep (k : G.le G') : ∀ {ds : List D} {vs : List V} {l : List Addr}, (∀ a ∈ l, ∀ u, H a = some u → H' a = some u) → OwnL w G H ds vs l → OwnL w G' H' ds vs l
  | [], vs, l, s, h => ownl_nil.mpr (ownl_nil.mp h)
  | d :: ds, vs, l, s, h => by
    obtain ⟨v, r, l1, l2, rfl, h1, h2, rfl⟩ := ownl_cons.mp h
    exact ownl_cons.mpr ⟨v, r, l1, l2, rfl, Own.keep k (fun b hb => s b (List.mem_append_left _ hb)) h1, OwnL.keep k (fun b hb => s b (List.mem_append_right _ hb)) h2, rfl⟩
theorem OwnK.keep (k : G.le G') : ∀ {ds : List (D × D)} {vs : List (Key × V)} {l : List Addr}, (∀ a ∈ l, ∀ u, H a = some u → H' a = some u) → OwnK w G H ds vs l → OwnK w G' H' ds vs l
  | [], vs, l, s, h => ownk_nil.mpr (ownk_nil.mp h)
  | (_, d) :: ds, vs, l, s, h => by
    obtain ⟨key, v, r, l1, l2, rfl, h0, h1, h2, rfl⟩ := ownk_cons.mp h
    exact ownk_cons.mpr ⟨key, v, r, l1, l2, rfl, h0, Own.keep k (fun b hb => s b (List.mem_append_left _ hb)) h1, OwnK.keep k (fun b hb => s b (List.mem_append_right _ hb)) h2, rfl⟩
theorem OwnN.keep (k : G.le G') : ∀ {ds : List (D × D)} {vs : List (NestedKey × Addr × V)} {l : List Addr}, (∀ a ∈ l, ∀ u, H a = some u → H' a = some u) → OwnN w G H ds vs l → OwnN w G' H' ds vs l
  | [], vs, l, s, h => ownn_nil.mpr (ownn_nil.mp h)
  | (_, d) :: ds, vs, l, s, h => by
    obtain ⟨key, a, v, r, l1, l2, rfl, h0, hd, hk, h1, h2, rfl⟩ := ownn_cons.mp h
    exact ownn_cons.mpr ⟨key, a, v, r, l1, l2, rfl, h0, hd, hk.mono k, Own.keep k (fun b hb => s b (List.mem_append_left _ hb)) h1, OwnN.keep k (fun b hb => s b (List.mem_append_right _ hb)) h2, rfl⟩
end
mutual
theorem Own.there : ∀ {d : D} {v : V} {l : List Addr}, Own w G H d v l → ∀ a ∈ l, ∃ u, H a = some u
  | .olst ds, v, l, h => by
    obtain ⟨a, vs, l', rfl, h1, h2, h3, rfl⟩ := own_olst.mp h
    intro b hb
    rcases List.mem_cons.mp hb with rfl | hb
    · exact ⟨_, h1⟩
    · exact OwnL.there h3 b hb
  | .odic ds, v, l, h => by
    obtain ⟨a, vs, l', rfl, h1, h2, h3, rfl⟩ := own_odic.mp h
    intro b hb
    rcases List.mem_cons.mp hb with rfl | hb
    · exact ⟨_, h1⟩
    · exact OwnK.there h3 b hb
  | .odix ds, v, l, h => by
    obtain ⟨a, vs, l', rfl, h1, h2, h3, rfl⟩ := own_odix.mp h
    intro b hb
    rcases List.mem_cons.mp hb with rfl | hb
    · exact ⟨_, h1⟩
    · exact OwnN.there h3 b hb
  | .oins c t ds, v, l, h => by
    obtain ⟨a, dx, vs, l', rfl, h0, h1, h2, h3, rfl⟩ := own_oins.mp h
    intro b hb
    rcases List.mem_cons.mp hb with rfl | hb
    · exact ⟨_, h1⟩
    · exact OwnL.there h3 b hb
  | .non, v, l, h => by
    rw [((own_fz rfl).mp h).2]
    intro a ha; cases ha
  | .bl _, v, l, h => by
    rw [((own_fz rfl).mp h).2]
    intro a ha; cases ha
  | .int _, v, l, h => by
    rw [((own_fz rfl).mp h).2]
    intro a ha; cases ha
  | .str _, v, l, h => by
    rw [((own_fz rfl).mp h).2]
    intro a ha; cases ha
  | .tup ds, v, l, h => by
    rw [((own_fz rfl).mp h).2]
    intro a ha; cases ha
  | .tux ds, v, l, h => by
    rw [((own_fz rfl).mp h).2]
    intro a ha; cases ha
  | .lst ds, v, l, h => by
    rw [((own_fz rfl).mp h).2]
    intro a ha; cases ha
  | .rol ds, v, l, h => by
    rw [((own_fz rfl).mp h).2]
    intro a ha; cases ha
  | .dic ds, v, l, h => by
    rw [((own_fz rfl).mp h).2]
    intro a ha; cases ha
  | .dix ds, v, l, h => by
    rw [((own_fz rfl).mp h).2]
    intro a ha; cases ha
  | .ins c ds, v, l, h => by
    rw [((own_fz rfl).mp h).2]
    intro a ha; cases ha
  | .loc n, v, l, h => by
    rw [((own_fz rfl).mp h).2]
    intro a ha; cases ha
  | .exn _ _, v, l, h => by
    rw [((own_fz rfl).mp h).2]
    intro a ha; cases ha
  | .fn _, v, l, h => by
    rw [((own_fz rfl).mp h).2]
    intro a ha; cases ha
  | .otup ds, v, l, h => by
    obtain ⟨a, vs, l', rfl, h1, h2, h3, rfl⟩ := own_otup.mp h
    intro b hb
    rcases List.mem_cons.mp hb with rfl | hb
    · exact ⟨_, h1⟩
    · exact OwnL.there h3 b hb
  | .otbl _, v, l, h => by
    obtain ⟨P, ps, rfl, h1, _, _, rfl⟩ := own_otbl.mp h
    intro a ha
    simp at ha
    exact ⟨_, ha ▸ h1⟩
theorem OwnL.there : ∀ {ds : List D} {vs : List V} {l : List Addr}, OwnL w G H ds vs l → ∀ a ∈ l, ∃ u, H a = some u
  | [], vs, l, h => by
    rw [(ownl_nil.mp h).2]
    intro a ha; cases ha
  | d :: ds, vs, l, h => by
    obtain ⟨v, r, l1, l2, rfl, h1, h2, rfl⟩ := ownl_cons.mp h
    intro b hb
    rcases List.mem_append.mp hb with hb | hb
    · exact Own.there h1 b hb
    · exact OwnL.there h2 b hb
theorem OwnK.there : ∀ {ds : List (D × D)} {vs : List (Key × V)} {l : List Addr}, OwnK w G H ds vs l → ∀ a ∈ l, ∃ u, H a = some u
  | [], vs, l, h => by
    rw [(ownk_nil.mp h).2]
    intro a ha; cases ha
  | (_, d) :: ds, vs, l, h => by
    obtain ⟨key, v, r, l1, l2, rfl, h0, h1, h2, rfl⟩ := ownk_cons.mp h
    intro b hb
    rcases List.mem_append.mp hb with hb | hb
    · exact Own.there h1 b hb
    · exact OwnK.there h2 b hb
theorem OwnN.there : ∀ {ds : List (D × D)} {vs : List (NestedKey × Addr × V)} {l : List Addr}, OwnN w G H ds vs l → ∀ a ∈ l, ∃ u, H a = some u
  | [], vs, l, h => by
    rw [(ownn_nil.mp h).2]
    intro a ha; cases ha
  | (_, d) :: ds, vs, l, h => by
    obtain ⟨key, a, v, r, l1, l2, rfl, h0, hd, hk, h1, h2, rfl⟩ := ownn_cons.mp h
    intro b hb
    rcases List.mem_append.mp hb with hb | hb
    · exact Own.there h1 b hb
    · exact OwnN.there h2 b hb
end
end
end Vm

set_option maxHeartbeats 1000000
namespace Vm
open PySem L2
structure Bs where
  G : Gs
  H : Hp
  o : Ix → List Addr
def Bs.own (b : Bs) (a : Addr) : Prop := ∃ x, a ∈ b.o x
def keeps (s : Bool) (b : Bs) (a : Addr) : Prop := if s = true then ∀ n, a ∉ b.o (.m n) else ¬ b.own a
structure Gr (s : Bool) (b b' : Bs) : Prop where
  g : b.G.le b'.G
  k : ∀ a u, b.H a = some u → keeps s b a → b'.H a = some u
  n : ∀ a, b'.G.F a ≠ none → b.G.F a ≠ none ∨ b.own a ∨ b.H a = none
  p : ∀ a, b'.own a → b.own a ∨ b.H a = none
  q : s = true → ∀ n a, a ∈ b'.o (.m n) → (∃ m, a ∈ b.o (.m m)) ∨ b.H a = none
  h : ∀ a, b'.H a = none → b.H a = none
theorem keeps_no {s : Bool} {b : Bs} {a : Addr} (h : ¬ b.own a) : keeps s b a := by
  unfold keeps
  split
  · exact fun n z => h ⟨_, z⟩
  · exact h
theorem keeps_f {b : Bs} {a : Addr} (h : keeps false b a) : ¬ b.own a := by simpa [keeps] using h
theorem keeps_t {b : Bs} {a : Addr} (h : ∀ n, a ∉ b.o (.m n)) : keeps true b a := by simpa [keeps] using h
theorem Gr.refl {s : Bool} (b : Bs) : Gr s b b := ⟨.refl _, fun _ _ h _ => h, fun _ h => .inl h, fun _ h => .inl h, fun _ n _ h => .inl ⟨n, h⟩, fun _ h => h⟩
theorem Gr.keeps {s : Bool} {b b' : Bs} (g : Gr s b b') {a : Addr} {u : HO} (e : b.H a = some u) (n : keeps s b a) : Vm.keeps s b' a := by
  cases s with
  | false =>
    have n' := keeps_f n
    exact keeps_no fun z => (g.p a z).elim n' fun z => by rw [e] at z; cases z
  | true =>
    have n' : ∀ n, a ∉ b.o (.m n) := by simpa [Vm.keeps] using n
    refine keeps_t fun m z => ?_
    rcases g.q rfl m a z with ⟨m', z⟩ | z
    · exact n' m' z
    · rw [e] at z; cases z
theorem Gr.trans {s : Bool} {b b' b'' : Bs} (g : Gr s b b') (h : Gr s b' b'') : Gr s b b'' := by
  refine ⟨g.g.trans h.g, fun a u e n => h.k a u (g.k a u e n) (g.keeps e n), fun a e => ?_, fun a e => ?_, fun hs n a e => ?_, fun a e => g.h a (h.h a e)⟩
  · rcases h.n a e with z | z | z
    · exact g.n a z
    · rcases g.p a z with z | z
      · exact .inr (.inl z)
      · exact .inr (.inr z)
    · exact .inr (.inr (g.h a z))
  · rcases h.p a e with z | z
    · exact g.p a z
    · exact .inr (g.h a z)
  · rcases h.q hs n a e with ⟨m, z⟩ | z
    · exact g.q hs m a z
    · exact .inr (g.h a z)
theorem Gr.weak {s : Bool} {b b' : Bs} (g : Gr s b b') : Gr false b b' := ⟨g.g, fun a u h n => g.k a u h (keeps_no (keeps_f n)), g.n, g.p, (fun h => by cases h), g.h⟩
theorem Gr.soft {s : Bool} {b b' : Bs} (g : Gr true b b') : Gr s b b' := by
  cases s with
  | true => exact g
  | false => exact g.weak

def rootV (b : Bs) (σ : St) : Ix → Option V
  | .s i => σ[i]?.getD none
  | .m n => (b.G.ρ n).map .ref
structure Sat (w : Wd) (b : Bs) (σ : St) (e : En) : Prop where
  ex : ∀ a u, b.G.F a = some u → b.H a = some u
  le : e.sl.length = σ.length
  lm : ∀ n, b.G.ρ n = none ↔ e.mu.length ≤ n
  sl : ∀ x d, e.at x = some d → ∃ v, rootV b σ x = some v ∧ Own w b.G b.H d v (b.o x)
  em : ∀ x, e.at x = none → b.o x = []
  ap : ∀ x y a, a ∈ b.o x → a ∈ b.o y → x = y
  nd : ∀ x, (b.o x).Nodup
  fo : ∀ x a, a ∈ b.o x → b.G.F a = none
section
variable {w : Wd} {b b' : Bs} {σ σ' : St} {e e' : En}
theorem at_put_same {x : Ix} {d : Option D} (h : match x with | .s i => i < e.sl.length | .m n => n < e.mu.length) : (e.put x d).at x = d := by
  cases x with
  | s i =>
    show ((e.sl.set i d)[i]?).getD none = d
    rw [List.getElem?_set_self h]
    rfl
  | m n =>
    show ((e.mu.set n d)[n]?).getD none = d
    rw [List.getElem?_set_self h]
    rfl
theorem at_put_ne {x y : Ix} {d : Option D} (h : y ≠ x) : (e.put x d).at y = e.at y := by
  cases x with
  | s i =>
    cases y with
    | s j =>
      have : i ≠ j := fun z => h (by rw [z])
      show ((e.sl.set i d)[j]?).getD none = (e.sl[j]?).getD none
      rw [List.getElem?_set_ne this]
    | m n => rfl
  | m n =>
    cases y with
    | s j => rfl
    | m k =>
      have : n ≠ k := fun z => h (by rw [z])
      show ((e.mu.set n d)[k]?).getD none = (e.mu[k]?).getD none
      rw [List.getElem?_set_ne this]
theorem at_lt {x : Ix} {d : D} (h : e.at x = some d) : match x with | .s i => i < e.sl.length | .m n => n < e.mu.length := by
  cases x with
  | s i =>
    have h' : (e.sl[i]?).getD none = some d := h
    cases q : e.sl[i]? with
    | none => rw [q] at h'; cases h'
    | some _ => exact (List.getElem?_eq_some_iff.mp q).1
  | m n =>
    have h' : (e.mu[n]?).getD none = some d := h
    cases q : e.mu[n]? with
    | none => rw [q] at h'; cases h'
    | some _ => exact (List.getElem?_eq_some_iff.mp q).1
theorem put_slen {x : Ix} {d : Option D} : (e.put x d).sl.length = e.sl.length := by cases x <;> simp [En.put]
theorem put_mlen {x : Ix} {d : Option D} : (e.put x d).mu.length = e.mu.length := by cases x <;> simp [En.put]
theorem Sat.there (S : Sat w b σ e) {a : Addr} (h : b.own a) : b.G.F a = none ∧ ∃ u, b.H a = some u := by
  obtain ⟨x, hx⟩ := h
  refine ⟨S.fo x a hx, ?_⟩
  cases q : e.at x with
  | none =>
    rw [S.em x q] at hx
    cases hx
  | some d =>
    obtain ⟨v, _, o⟩ := S.sl x d q
    exact o.there a hx
theorem Sat.fresh_own (S : Sat w b σ e) {p : Addr} (h : b.H p = none) : ¬ b.own p := fun z => by
  obtain ⟨_, u, q⟩ := S.there z
  rw [h] at q
  cases q
theorem Sat.fresh_F (S : Sat w b σ e) {p : Addr} (h : b.H p = none) : b.G.F p = none := by
  cases q : b.G.F p with
  | none => rfl
  | some u =>
    rw [S.ex p u q] at h
    cases h
theorem Sat.grow (S : Sat w b σ e) (g : b.G.le b'.G) (hr : ∀ n, b'.G.ρ n = b.G.ρ n) (ho : b'.o = b.o) (ex : ∀ a u, b'.G.F a = some u → b'.H a = some u) (k : ∀ a u, b.own a → b.H a = some u → b'.H a = some u) (fo : ∀ a, b.own a → b'.G.F a = none) : Sat w b' σ e where
  ex := ex
  le := S.le
  lm := fun n => by rw [hr]; exact S.lm n
  sl := fun x d h => by
    obtain ⟨v, h1, h2⟩ := S.sl x d h
    refine ⟨v, ?_, ?_⟩
    · cases x with
      | s i => exact h1
      | m n =>
        show (b'.G.ρ n).map V.ref = some v
        rw [hr]
        exact h1
    · rw [ho]
      exact h2.keep g fun a ha u hu => k a u ⟨x, ha⟩ hu
  em := fun x h => by rw [ho]; exact S.em x h
  ap := fun x y a h1 h2 => by
    rw [ho] at h1 h2
    exact S.ap x y a h1 h2
  nd := fun x => by rw [ho]; exact S.nd x
  fo := fun x a h => by
    rw [ho] at h
    exact fo a ⟨x, h⟩

def Bs.new (b : Bs) (p : Addr) (u : HO) : Bs := ⟨⟨upd b.G.F p u, b.G.ρ⟩, upd b.H p u, b.o⟩
theorem Gr.new {s : Bool} {p : Addr} {u : HO} (hF : b.G.F p = none) (hH : b.H p = none) : Gr s b (b.new p u) where
  g := ⟨fun a v h => (upd_ne (ne_of_none h hF)).trans h, fun _ _ h => h⟩
  k := fun a v h _ => (upd_ne (ne_of_none h hH)).trans h
  n := fun a h => by
    by_cases ha : a = p
    · subst ha
      exact .inr (.inr hH)
    · have h' : upd b.G.F p u a ≠ none := h
      rw [upd_ne ha] at h'
      exact .inl h'
  p := fun a h => .inl h
  q := fun _ n a h => .inl ⟨n, h⟩
  h := fun a h => by
    have h' : upd b.H p u a = none := h
    by_cases ha : a = p
    · rw [ha, upd_same] at h'
      cases h'
    · rw [upd_ne ha] at h'
      exact h'
theorem Sat.new (S : Sat w b σ e) {p : Addr} {u : HO} (hH : b.H p = none) : Sat w (b.new p u) σ e := by
  have hF := S.fresh_F hH
  have g := Gr.new (s := true) (u := u) hF hH
  refine S.grow g.g (fun _ => rfl) rfl (fun a v h => ?_) (fun a v _ h => (upd_ne (ne_of_none h hH)).trans h) fun a h => ?_
  · have h' : upd b.G.F p u a = some v := h
    show upd b.H p u a = some v
    by_cases ha : a = p
    · subst ha
      rw [upd_same] at h' ⊢
      exact h'
    · rw [upd_ne ha] at h' ⊢
      exact S.ex a v h'
  · have : a ≠ p := fun z => S.fresh_own hH (z ▸ h)
    exact (upd_ne this).trans (S.there h).1

def Tmp (w : Wd) (b0 b : Bs) (d : D) (v : V) : Prop := ∃ l, Own w b.G b.H d v l ∧ l.Nodup ∧ ∀ a ∈ l, b.G.F a = none ∧ ¬ b.own a ∧ (b0.H a = none ∨ b0.own a)
theorem Fz.tmp {b0 b : Bs} {d : D} {v : V} (h : Fz w b.G d v) : Tmp w b0 b d v := ⟨[], h.own, List.nodup_nil, fun a ha => nomatch ha⟩
theorem Tmp.fz {b0 b : Bs} {d : D} {v : V} (h : Tmp w b0 b d v) (f : isF d = true) : Fz w b.G d v := by
  obtain ⟨l, h1, _⟩ := h
  exact ((own_fz f).mp h1).1
theorem Tmp.back {s : Bool} {b b1 b' : Bs} {d : D} {v : V} (g : Gr s b b1) (h : Tmp w b1 b' d v) : Tmp w b b' d v := by
  obtain ⟨l, h1, h2, h3⟩ := h
  refine ⟨l, h1, h2, fun a ha => ?_⟩
  obtain ⟨k1, k2, k3⟩ := h3 a ha
  exact ⟨k1, k2, k3.elim (fun z => .inl (g.h a z)) fun z => (g.p a z).symm⟩
theorem Tmp.stay {s : Bool} {b0 b b' : Bs} {d : D} {v : V} (g : Gr s b b') (h : Tmp w b0 b d v) : Tmp w b0 b' d v := by
  obtain ⟨l, h1, h2, h3⟩ := h
  refine ⟨l, h1.keep g.g fun a ha u hu => g.k a u hu (keeps_no (h3 a ha).2.1), h2, fun a ha => ?_⟩
  obtain ⟨k1, k2, k3⟩ := h3 a ha
  obtain ⟨u, hu⟩ := h1.there a ha
  refine ⟨?_, fun z => (g.p a z).elim k2 fun z => (by rw [hu] at z; cases z), k3⟩
  cases q : b'.G.F a with
  | none => rfl
  | some u' =>
    rcases g.n a (by rw [q]; intro z; cases z) with z | z | z
    · exact absurd k1 z
    · exact absurd z k2
    · rw [hu] at z; cases z
def Br (w : Wd) (b : Bs) (d : D) (v : V) : Prop := ∃ l, Own w b.G b.H d v l ∧ ∀ a ∈ l, ∀ n, a ∉ b.o (.m n)
theorem Fz.br {b : Bs} {d : D} {v : V} (h : Fz w b.G d v) : Br w b d v := ⟨[], h.own, fun a ha => nomatch ha⟩
theorem Tmp.br {b0 b : Bs} {d : D} {v : V} (h : Tmp w b0 b d v) : Br w b d v := by
  obtain ⟨l, h1, _, h3⟩ := h
  exact ⟨l, h1, fun a ha n z => (h3 a ha).2.1 ⟨_, z⟩⟩
theorem Br.soft {b b' : Bs} {d : D} {v : V} (g : Gr true b b') (h : Br w b d v) : Br w b' d v := by
  obtain ⟨l, h1, h2⟩ := h
  refine ⟨l, h1.keep g.g fun a ha u hu => g.k a u hu (keeps_t (h2 a ha)), fun a ha n z => ?_⟩
  rcases g.q rfl n a z with ⟨m, z⟩ | z
  · exact h2 a ha m z
  · obtain ⟨u, hu⟩ := h1.there a ha
    rw [hu] at z
    cases z
theorem Br.fz {b : Bs} {d : D} {v : V} (h : Br w b d v) (f : isF d = true) : Fz w b.G d v := by
  obtain ⟨l, h1, _⟩ := h
  exact ((own_fz f).mp h1).1
theorem Br.own {b : Bs} {d : D} {v : V} (h : Br w b d v) : ∃ l, Own w b.G b.H d v l := let ⟨l, h1, _⟩ := h; ⟨l, h1⟩
end

abbrev Wx := Nat → Option D → Bs → En → Prop
def W0 : Wx := fun _ _ _ _ => False
def PR {α : Type} (w : Wd) (W : Wx) (s : Bool) (σ : St) (b : Bs) (r : Rs α) (P : α → Bs → En → Prop) : Prop := match r with
  | .ok a e' => ∀ b', Gr s b b' → Sat w b' σ e' → P a b' e'
  | .exc c x e' => ∀ b', Gr s b b' → Sat w b' σ e' → W c x b' e'
  | .stuck => False
section
variable {α β : Type} {w : Wd} {W : Wx} {s : Bool} {σ : St} {b b' : Bs} {r : Rs α} {P P' : α → Bs → En → Prop}
theorem PR.mono (h : PR w W s σ b r P) (k : ∀ a b' e', Gr s b b' → Sat w b' σ e' → P a b' e' → P' a b' e') : PR w W s σ b r P' := by
  cases r with
  | ok a e' => exact fun b' g S => k a b' e' g S (h b' g S)
  | exc c x e' => exact h
  | stuck => exact h
theorem PR.later (g : Gr s b b') (h : PR w W s σ b r P) : PR w W s σ b' r P := by
  cases r with
  | ok a e' => exact fun b'' g' S => h b'' (g.trans g') S
  | exc c x e' => exact fun b'' g' S => h b'' (g.trans g') S
  | stuck => exact h
theorem PR.bind {k : α → En → Rs β} {P : β → Bs → En → Prop} (h : PR w W s σ b (r.bind k) P) : PR w W s σ b r fun a b' e' => PR w W s σ b' (k a e') P := by
  cases r with
  | ok a e' => exact fun b' g S => PR.later g h
  | exc c x e' => exact h
  | stuck => exact h
end
def tZ (w : Wd) (W : Wx) (s : Bool) (f : EM) : TE := fun σ H Q => ∃ b e, H = b.H ∧ Sat w b σ e ∧ PR w W s σ b (f e) fun d b' _ => ∀ v, Fz w b'.G d v → Q v b'.H
def tV (w : Wd) (W : Wx) (s : Bool) (f : EM) : TE := fun σ H Q => ∃ b e, H = b.H ∧ Sat w b σ e ∧ PR w W s σ b (f e) fun d b' _ => ∀ v, Tmp w b b' d v → Q v b'.H
def tB (w : Wd) (W : Wx) (s : Bool) (f : EM) : TE := fun σ H Q => ∃ b e, H = b.H ∧ Sat w b σ e ∧ PR w W s σ b (f e) fun d b' _ => ∀ v, Br w b' d v → Q v b'.H
def tT (w : Wd) (W : Wx) (s : Bool) (f : TM) : TT := fun σ H Q => ∃ b e, H = b.H ∧ Sat w b σ e ∧ PR w W s σ b (f e) fun d b' _ => Q d b'.H
def tA (w : Wd) (W : Wx) (s : Bool) (f : LM) : TA := fun σ H Q => ∃ b e, H = b.H ∧ Sat w b σ e ∧ PR w W s σ b (f e) fun ds b' _ => ∀ vs, FzL w b'.G ds vs → Q vs b'.H
theorem _root_.L2.PE.imp {X : Cx} {e : Expr} {t t' : TE} (h : PE X e t) (k : ∀ σ H Q, t' σ H Q → t σ H Q) : PE X e t' := ⟨fun pins s σ H Q I q => h.run pins s σ H Q I (k σ H Q q)⟩
theorem _root_.L2.PT.imp {X : Cx} {e : Expr} {t t' : TT} (h : PT X e t) (k : ∀ σ H Q, t' σ H Q → t σ H Q) : PT X e t' := ⟨fun pins s σ H Q I q => h.run pins s σ H Q I (k σ H Q q)⟩
theorem _root_.L2.PW.imp {X : Cx} {e : Expr} {t t' : TT} (h : PW X e t) (k : ∀ σ H Q, t' σ H Q → t σ H Q) : PW X e t' := ⟨fun wh pins s σ H Q I q => h.run wh pins s σ H Q I (k σ H Q q)⟩
theorem _root_.L2.PA.imp {X : Cx} {e : List Expr} {t t' : TA} (h : PA X e t) (k : ∀ σ H Q, t' σ H Q → t σ H Q) : PA X e t' := ⟨fun p pins s σ H Q I q => h.run p pins s σ H Q I (k σ H Q q)⟩
theorem _root_.L2.PS.imp {X : Cx} {e : Stmt} {t t' : TS} (h : PS X e t) (k : ∀ D σ H, t' D σ H → t D σ H) : PS X e t' := ⟨fun pins s σ H D I q => h.run pins s σ H D I (k D σ H q)⟩
theorem _root_.L2.PSs.imp {X : Cx} {e : List Stmt} {t t' : TS} (h : PSs X e t) (k : ∀ D σ H, t' D σ H → t D σ H) : PSs X e t' := ⟨fun pins s σ H D I q => h.run pins s σ H D I (k D σ H q)⟩

def Ret (w : Wd) (s : Bool) (b : Bs) (σ : St) (e : En) (d : D) (Q : VK) : Prop := ∀ v b', Gr s b b' → Sat w b' σ e → Fz w b'.G d v → Q v b'.H
def RetV (w : Wd) (s : Bool) (b : Bs) (σ : St) (e : En) (d : D) (Q : VK) : Prop := ∀ v b', Gr s b b' → Sat w b' σ e → Tmp w b b' d v → Q v b'.H
section
variable {w : Wd} {W : Wx} {s : Bool} {σ : St} {b b0 : Bs} {e : En} {d : D} {Q : VK}
theorem Ret.now (S : Sat w b σ e) (r : Ret w s b σ e d Q) {v : V} (z : Fz w b.G d v) : Q v b.H := r v b (Gr.refl b) S z
theorem Ret.new (S : Sat w b σ e) (r : Ret w s b σ e d Q) {p : Addr} {u : HO} (hp : b.H p = none) (z : Fz w (b.new p u).G d (.ref p)) : Q (.ref p) (upd b.H p u) :=
  r (.ref p) (b.new p u) (Gr.new (S.fresh_F hp) hp) (S.new hp) z
theorem FzL.later {b' : Bs} {ds : List D} {vs : List V} (g : Gr s b b') (h : FzL w b.G ds vs) : FzL w b'.G ds vs := h.mono g.g
theorem Ret.tup (S : Sat w b σ e) {ds : List D} {vs : List V} (r : Ret w s b σ e (.tup ds) Q) {p : Addr} (hp : b.H p = none) (hl : ds.length ≤ sizeLine) (z : FzL w b.G ds vs) : Q (.ref p) (upd b.H p (.tup vs)) :=
  r.new S hp (fz_tup.mpr ⟨p, vs, rfl, upd_same, hl, z.mono (Gr.new (s := true) (S.fresh_F hp) hp).g⟩)
theorem RetV.now (S : Sat w b σ e) (r : RetV w s b σ e d Q) {v : V} (z : Tmp w b b d v) : Q v b.H := r v b (Gr.refl b) S z
def Bs.lay (b : Bs) (p : Addr) (u : HO) : Bs := ⟨b.G, upd b.H p u, b.o⟩
theorem Gr.lay {p : Addr} {u : HO} (hH : b.H p = none) : Gr s b (b.lay p u) where
  g := .refl _
  k := fun a v h _ => (upd_ne (ne_of_none h hH)).trans h
  n := fun a h => .inl h
  p := fun a h => .inl h
  q := fun _ n a h => .inl ⟨n, h⟩
  h := fun a h => by
    have h' : upd b.H p u a = none := h
    by_cases ha : a = p
    · rw [ha, upd_same] at h'
      cases h'
    · rw [upd_ne ha] at h'
      exact h'
theorem Sat.lay (S : Sat w b σ e) {p : Addr} {u : HO} (hH : b.H p = none) : Sat w (b.lay p u) σ e :=
  S.grow (.refl _) (fun _ => rfl) rfl (fun a v h => (upd_ne (ne_of_none (S.ex a v h) hH)).trans (S.ex a v h)) (fun a v _ h => (upd_ne (ne_of_none h hH)).trans h) fun a h => (S.there h).1
theorem RetV.lst (S : Sat w b σ e) {ds : List D} {vs : List V} (r : RetV w s b σ e (.olst ds) Q) {p : Addr} (hp : b.H p = none) (hl : ds.length ≤ sizeLine) (z : FzL w b.G ds vs) : Q (.ref p) (upd b.H p (.lst vs)) := by
  refine r (.ref p) (b.lay p (.lst vs)) (Gr.lay hp) (S.lay hp) ⟨[p], own_olst.mpr ⟨p, vs, [], rfl, upd_same, hl, z.own, rfl⟩, by simp, fun a ha => ?_⟩
  have : a = p := by simpa using ha
  subst this
  exact ⟨S.fresh_F hp, S.fresh_own hp, .inl hp⟩
theorem PR.ret {o : Option D} (h : PR w W s σ b (lift o e) fun d b' _ => ∀ v, Fz w b'.G d v → Q v b'.H) : ∃ d, o = some d ∧ Ret w s b σ e d Q := by
  cases o with
  | none => exact h.elim
  | some d => exact ⟨d, rfl, fun v b' g S z => h b' g S v z⟩
theorem PR.retV {o : Option D} (g : Gr s b0 b) (h : PR w W s σ b (lift o e) fun d b' _ => ∀ v, Tmp w b0 b' d v → Q v b'.H) : ∃ d, o = some d ∧ RetV w s b σ e d Q := by
  cases o with
  | none => exact h.elim
  | some d => exact ⟨d, rfl, fun v b' g' S t => h b' g' S v (t.back g)⟩
end

def Bs.fix (b : Bs) (a : Addr) (u : HO) : Bs := ⟨⟨upd b.G.F a u, b.G.ρ⟩, b.H, b.o⟩
section
variable {w : Wd} {W : Wx} {s : Bool} {σ : St} {b b' : Bs} {e : En} {a : Addr} {u : HO}
theorem fix_le (hF : b.G.F a = none) : b.G.le (b.fix a u).G := ⟨fun c x q => (upd_ne (ne_of_none q hF)).trans q, fun _ _ q => q⟩
theorem Gr.fix (g : Gr s b b') (hF : b'.G.F a = none) (hn : b.H a = none ∨ b.own a) : Gr s b (b'.fix a u) where
  g := ⟨fun c x q => (upd_ne (ne_of_none (g.g.f c x q) hF)).trans (g.g.f c x q), g.g.r⟩
  k := g.k
  n := fun c q => by
    by_cases h : c = a
    · subst h
      exact .inr hn.symm
    · have q' : upd b'.G.F a u c ≠ none := q
      rw [upd_ne h] at q'
      exact g.n c q'
  p := g.p
  q := g.q
  h := g.h
theorem Sat.fix (S : Sat w b σ e) (hF : b.G.F a = none) (hH : b.H a = some u) (ho : ¬ b.own a) : Sat w (b.fix a u) σ e := by
  refine S.grow ⟨fun c x q => (upd_ne (ne_of_none q hF)).trans q, fun _ _ q => q⟩ (fun _ => rfl) rfl (fun c x q => ?_) (fun _ _ _ q => q) fun c q => ?_
  · have q' : upd b.G.F a u c = some x := q
    by_cases h : c = a
    · subst h
      rw [upd_same] at q'
      rw [← q']
      exact hH
    · rw [upd_ne h] at q'
      exact S.ex c x q'
  · have : c ≠ a := fun z => ho (z ▸ q)
    exact (upd_ne this).trans (S.there q).1
def frzD : D → Option D := fun d => if isF d then some d else match d with
  | .olst ds => if ds.all isF then some (.lst ds) else none
  | _ => none
def frzE (f : EM) : EM := fun e => (f e).bind fun d e1 => lift (frzD d) e1
theorem tV_frz {f : EM} {H : Hp} {Q : VK} (h : tZ w W s (frzE f) σ H Q) : tV w W s f σ H Q := by
  obtain ⟨b, e, rfl, S, h⟩ := h
  refine ⟨b, e, rfl, S, ?_⟩
  unfold frzE at h
  cases hf : f e with
  | stuck => rw [hf] at h; exact h
  | exc c x e1 => rw [hf] at h; exact h
  | ok d e1 =>
    rw [hf] at h
    intro b1 g1 S1 v t
    have h1 : PR w W s σ b (lift (frzD d) e1) fun d b' _ => ∀ v, Fz w b'.G d v → Q v b'.H := h
    unfold frzD at h1
    split at h1
    · rename_i hf
      exact h1 b1 g1 S1 v (t.fz hf)
    · rename_i hf
      split at h1
      · rename_i ds
        split at h1
        · rename_i ha
          obtain ⟨l, t1, t2, t3⟩ := t
          obtain ⟨a, vs, l', rfl, k1, k2, k3, rfl⟩ := own_olst.mp t1
          obtain ⟨k4, rfl⟩ := k3.fz ha
          obtain ⟨m1, m2, m3⟩ := t3 a (List.mem_cons_self ..)
          have gf := Gr.fix (u := .lst vs) g1 m1 m3
          exact h1 (b1.fix a (.lst vs)) gf (S1.fix m1 k1 m2) (.ref a) (fz_lst.mpr ⟨a, vs, rfl, upd_same, k2, k4.mono (fix_le m1)⟩)
        · exact h1.elim
      · exact h1.elim
end
section
variable {X : Cx} {w : Wd} {W : Wx} {s : Bool} {x : Expr} {f : EM}
theorem zV (h : PE X x (tV w W s f)) : PE X x (tZ w W s (frzE f)) := h.imp fun _ _ _ q => tV_frz q
theorem vZ (h : PE X x (tZ w W s f)) : PE X x (tV w W s f) := h.imp fun σ H Q ⟨b, e, he, S, q⟩ => ⟨b, e, he, S, q.mono fun d b' e' g S' k v z => k v z.tmp⟩
theorem bZ (h : PE X x (tZ w W s f)) : PE X x (tB w W s f) := h.imp fun σ H Q ⟨b, e, he, S, q⟩ => ⟨b, e, he, S, q.mono fun d b' e' g S' k v z => k v z.br⟩
theorem bV (h : PE X x (tV w W s f)) : PE X x (tB w W s f) := h.imp fun σ H Q ⟨b, e, he, S, q⟩ => ⟨b, e, he, S, q.mono fun d b' e' g S' k v z => k v z.br⟩
end
end Vm

set_option maxHeartbeats 1000000
namespace Vm
open PySem L2
def eVar (i : Nat) : EM := fun e => match e.sl[i]? with
  | some (some d) => if isF d then .ok d e else .stuck
  | _ => .stuck
def eBor (i : Nat) : EM := fun e => match e.sl[i]? with
  | some (some d) => .ok d e
  | _ => .stuck
def eC (d : D) : EM := fun e => .ok d e
theorem Sat.slot {w : Wd} {b : Bs} {σ : St} {e : En} (S : Sat w b σ e) {i : Nat} {d : D} (h : e.sl[i]? = some (some d)) : ∃ v, σ[i]? = some (some v) ∧ Own w b.G b.H d v (b.o (.s i)) := by
  obtain ⟨v, h1, h2⟩ := S.sl (.s i) d (by show (e.sl[i]?).getD none = some d; rw [h]; rfl)
  refine ⟨v, ?_, h2⟩
  have h1' : (σ[i]?).getD none = some v := h1
  cases q : σ[i]? with
  | none => rw [q] at h1'; cases h1'
  | some o => rw [q] at h1'; simpa using h1'
section
variable {X : Cx} {W : Wx} {s : Bool} {w : Wd} {pos : Pos}
theorem zVar (i : Nat) {x : Str} (hN : X.N[i]? = some x := by rfl) (hv : Vis X.env.scope x := by first | exact Or.inl rfl | exact Or.inr (Or.inl rfl) | exact Or.inr (Or.inr rfl)) (hd : (x == ("__debug__" : Str)) = false := by decide)
    (hcd : (x == ("__classdict__" : Str)) = false := by decide) : PE X (.Name x pos) (tZ w W s (eVar i)) := (pv i hN hv hd hcd).imp fun σ H Q ⟨b, e, he, S, h⟩ => by
  subst he
  unfold eVar at h
  split at h
  · rename_i d hd
    split at h
    · rename_i hf
      obtain ⟨v, h1, h2⟩ := S.slot hd
      exact ⟨v, h1, h b (Gr.refl b) S v ((own_fz hf).mp h2).1⟩
    · exact h.elim
  · exact h.elim
theorem zC {ex : Expr} {v : V} {d : D} (h0 : PE X ex (tC v)) (hz : ∀ G, Fz w G d v) : PE X ex (tZ w W s (eC d)) := h0.imp fun σ H Q ⟨b, e, he, S, h⟩ => by
  subst he
  exact h b (Gr.refl b) S v (hz _)
theorem zInt {i j} : PE X (.Constant (.int i) j pos) (tZ w W s (eC (.int i))) := zC pe_int fun _ => fz_int.mpr rfl
theorem zBl {i j} : PE X (.Constant (.bool i) j pos) (tZ w W s (eC (.bl i))) := zC pe_bl fun _ => fz_bl.mpr rfl
theorem zNon {j} : PE X (.Constant .none j pos) (tZ w W s (eC .non)) := zC pe_non fun _ => fz_non.mpr rfl
theorem zStr {x j} (hx : PyData.strOk x = true := by first | rfl | decide +kernel) : PE X (.Constant (.str x) j pos) (tZ w W s (eC (.str x))) := zC pe_str fun _ => fz_str.mpr ⟨rfl, hx⟩
end

def bin (g : D → D → Option D) (fa fb : EM) : EM := fun e => (fa e).bind fun x e1 => (fb e1).bind fun y e2 => lift (g x y) e2
def un (g : D → Option D) (fa : EM) : EM := fun e => (fa e).bind fun x e1 => lift (g x) e1
def OpZ (w : Wd) (r : R2) (g : D → D → Option D) : Prop := ∀ ⦃s : Bool⦄ ⦃σ : St⦄ ⦃b : Bs⦄ ⦃e : En⦄ ⦃x y d : D⦄ ⦃vx vy : V⦄ ⦃Q : VK⦄,
  Sat w b σ e → Fz w b.G x vx → Fz w b.G y vy → g x y = some d → Ret w s b σ e d Q → r vx vy b.H Q
def orD (g g' : D → D → Option D) : D → D → Option D := fun x y => match g x y with
  | some d => some d
  | none => g' x y
theorem OpZ.or {w : Wd} {r r' : R2} {g g' : D → D → Option D} (h : OpZ w r g) (h' : OpZ w r' g') : OpZ w (fun x y H Q => r x y H Q ∨ r' x y H Q) (orD g g') := by
  intro s σ b e x y d vx vy Q S zx zy hg R
  unfold orD at hg
  cases hq : g x y with
  | some d' =>
    rw [hq] at hg
    cases hg
    exact .inl (h S zx zy hq R)
  | none =>
    rw [hq] at hg
    exact .inr (h' S zx zy hg R)
section
variable {X : Cx} {W : Wx} {s : Bool} {w : Wd} {pos : Pos} {a c : Expr} {fa fb : EM} {r : R2} {g : D → D → Option D}
end

def eTest (f : EM) : TM := fun e => (f e).bind fun x e1 => match x with
  | .bl k => .ok k e1
  | _ => .stuck
def tAndD (f g : TM) : TM := fun e => (f e).bind fun k e1 => if k = true then g e1 else .ok false e1
def tOrD (f g : TM) : TM := fun e => (f e).bind fun k e1 => if k = true then .ok true e1 else g e1
def tNotD (f : TM) : TM := fun e => (f e).bind fun k e1 => .ok (!k) e1
def eOfT (f : TM) : EM := fun e => (f e).bind fun k e1 => .ok (.bl k) e1
def eIf (t : TM) (f g : EM) : EM := fun e => (t e).bind fun k e1 => if k = true then f e1 else g e1
def eAnd (f g : EM) : EM := fun e => (f e).bind fun x e1 => match x with
  | .bl k => if k = true then g e1 else .ok (.bl false) e1
  | _ => .stuck
def eOr (f g : EM) : EM := fun e => (f e).bind fun x e1 => match x with
  | .bl k => if k = true then .ok (.bl true) e1 else g e1
  | _ => .stuck
def eNot (f : EM) : EM := fun e => (f e).bind fun x e1 => match x with
  | .bl k => .ok (.bl !k) e1
  | _ => .stuck
section
variable {X : Cx} {W : Wx} {s : Bool} {w : Wd} {pos : Pos} {a c : Expr} {fa fb : EM} {ta tb : TM}
theorem zTest (ha : PE X a (tZ w W s fa)) (he : ∀ whole, isTrue a X.env whole = (do let v ← whole; standAt a.pos; holding [v] (truthy v)) := by intro _; rfl) : PT X a (tT w W s (eTest fa)) := (pt_val ha he).imp fun σ H Q ⟨b, e, he, S, h⟩ => by
  subst he
  refine ⟨b, e, rfl, S, (PR.bind h).mono fun x b1 e1 g1 S1 h1 v z => ?_⟩
  cases x <;> first
    | exact h1.elim
    | exact ⟨_, fz_bl.mp z, h1 b1 (Gr.refl _) S1⟩
theorem zNotT (ha : PT X a (tT w W s ta)) : PT X (.UnaryOp .Not a pos) (tT w W s (tNotD ta)) := (pt_not ha).imp fun σ H Q ⟨b, e, he, S, h⟩ => by
  subst he
  exact ⟨b, e, rfl, S, (PR.bind h).mono fun x b1 e1 g1 S1 h1 => h1 b1 (Gr.refl _) S1⟩
theorem zOr1 (ha : PT X a (tT w W s ta)) : PW X (.BoolOp .Or [a] pos) (tT w W s ta) := pw_or1 ha
end
section
variable {X : Cx} {W : Wx} {s : Bool} {w : Wd} {pos : Pos} {a c : Expr} {rest : List Expr} {fa fb : EM} {ta tb : TM}
theorem zOrT (ha : PT X a (tT w W s ta)) (hb : PW X (.BoolOp .Or (c :: rest) pos) (tT w W s tb)) : PW X (.BoolOp .Or (a :: c :: rest) pos) (tT w W s (tOrD ta tb)) := (pw_or ha hb).imp fun σ H Q ⟨b, e, he, S, h⟩ => by
  subst he
  refine ⟨b, e, rfl, S, (PR.bind h).mono fun k b1 e1 g1 S1 h1 => ?_⟩
  cases k with
  | true => exact h1 b1 (Gr.refl _) S1
  | false => exact ⟨b1, e1, rfl, S1, h1⟩
theorem zAnd1V (ha : PE X a (tZ w W s fa)) : PE X (.BoolOp .And [a] pos) (tZ w W s fa) := pe_one ha
theorem zAndV (ha : PE X a (tZ w W s fa)) (hb : PE X (.BoolOp .And (c :: rest) pos) (tZ w W s fb)) : PE X (.BoolOp .And (a :: c :: rest) pos) (tZ w W s (eAnd fa fb)) := (pe_and ha hb).imp fun σ H Q ⟨b, e, he, S, h⟩ => by
  subst he
  refine ⟨b, e, rfl, S, (PR.bind h).mono fun x b1 e1 g1 S1 h1 v z => ?_⟩
  cases x <;> try exact h1.elim
  rename_i k
  refine ⟨k, fz_bl.mp z, ?_⟩
  cases k with
  | true => exact ⟨b1, e1, rfl, S1, h1⟩
  | false => exact h1 b1 (Gr.refl _) S1 _ (fz_bl.mpr rfl)
end

end Vm

set_option maxHeartbeats 1000000
namespace Vm
open PySem L2
def aNil : LM := fun e => .ok [] e
def aCons (f : EM) (g : LM) : LM := fun e => (f e).bind fun x e1 => (g e1).bind fun xs e2 => .ok (x :: xs) e2
def LIM : Nat := 1000000
def mkTup (xs : List D) : Option D := if xs.length ≤ LIM then some (.tup xs) else none
def mkLst (xs : List D) : Option D := if xs.length ≤ LIM then some (.olst xs) else none
theorem lim_size {n : Nat} (h : n ≤ LIM) : n ≤ sizeLine := Nat.le_trans h (by decide)
theorem mkTup_some {xs : List D} {d : D} (h : mkTup xs = some d) : d = .tup xs ∧ xs.length ≤ sizeLine := by
  unfold mkTup at h
  split at h
  · cases h
    exact ⟨rfl, lim_size (by assumption)⟩
  · cases h
theorem mkLst_some {xs : List D} {d : D} (h : mkLst xs = some d) : d = .olst xs ∧ xs.length ≤ sizeLine := by
  unfold mkLst at h
  split at h
  · cases h
    exact ⟨rfl, lim_size (by assumption)⟩
  · cases h
def eTup (g : LM) : EM := fun e => (g e).bind fun xs e1 => lift (mkTup xs) e1
def eLst (g : LM) : EM := fun e => (g e).bind fun xs e1 => lift (mkLst xs) e1
section
variable {X : Cx} {W : Wx} {s : Bool} {w : Wd} {pos : Pos} {x : Expr} {es : List Expr} {f : EM} {g : LM}
theorem zaNil : PA X [] (tA w W s aNil) := pa_nil.imp fun σ H Q ⟨b, e, he, S, h⟩ => by
  subst he
  exact h b (Gr.refl b) S [] (fzl_nil.mpr rfl)
theorem zaCons (ha : PE X x (tZ w W s f)) (hr : PA X es (tA w W s g)) (hs : starEach (x :: es) X.env = (false, eval x X.env) :: starEach es X.env := by rfl) : PA X (x :: es) (tA w W s (aCons f g)) := (pa_cons ha hr hs).imp fun σ H Q ⟨b, e, he, S, h⟩ => by
  subst he
  refine ⟨b, e, rfl, S, (PR.bind h).mono fun d b1 e1 g1 S1 h1 v z => ⟨b1, e1, rfl, S1, (PR.bind h1).mono fun ds b2 e2 g2 S2 h2 vs zs => ?_⟩⟩
  exact h2 b2 (Gr.refl b2) S2 (v :: vs) (fzl_cons.mpr ⟨v, vs, rfl, z.mono g2.g, zs⟩)
theorem zTup {k} (h : PA X es (tA w W s g)) : PE X (.Tuple es k pos) (tZ w W s (eTup g)) := (pe_tup h).imp fun σ H Q ⟨b, e, he, S, h⟩ => by
  subst he
  refine ⟨b, e, rfl, S, (PR.bind h).mono fun ds b1 e1 g1 S1 h1 vs zs => ?_⟩
  obtain ⟨d, hd, R⟩ := PR.ret h1
  obtain ⟨rfl, hl⟩ := mkTup_some hd
  exact ⟨by rw [zs.length]; exact hl, fun p hp => R.tup S1 hp hl zs⟩
theorem oLst (h : PA X es (tA w W s g)) : PE X (.List es pos) (tV w W s (eLst g)) := (pe_lst h).imp fun σ H Q ⟨b, e, he, S, h⟩ => by
  subst he
  refine ⟨b, e, rfl, S, (PR.bind h).mono fun ds b1 e1 g1 S1 h1 vs zs => ?_⟩
  obtain ⟨d, hd, R⟩ := PR.retV g1 h1
  obtain ⟨rfl, hl⟩ := mkLst_some hd
  exact ⟨by rw [zs.length]; exact hl, fun p hp => R.lst S1 hp hl zs⟩
end

inductive So where
  | nx (e : En) | rt (d : D) (e : En) | bk (e : En) | ct (e : En) | exc (c : Nat) (x : Option D) (e : En) | stuck
abbrev SM := En → So
def SR (w : Wd) (W : Wx) (b : Bs) (r : So) (D : Ends) : Prop := match r with
  | .nx e' => ∀ b' σ', Gr false b b' → Sat w b' σ' e' → D.nx σ' b'.H
  | .bk e' => ∀ b' σ', Gr false b b' → Sat w b' σ' e' → D.bk σ' b'.H
  | .ct e' => ∀ b' σ', Gr false b b' → Sat w b' σ' e' → D.ct σ' b'.H
  | .rt d e' => ∀ b' σ' v, Gr false b b' → Sat w b' σ' e' → Tmp w b b' d v → D.rt v b'.H
  | .exc c x e' => ∀ b' σ', Gr false b b' → Sat w b' σ' e' → W c x b' e'
  | .stuck => False
def tS (w : Wd) (W : Wx) (f : SM) : TS := fun D σ H => ∃ b e, H = b.H ∧ Sat w b σ e ∧ SR w W b (f e) D
def ofE {α : Type} (r : Rs α) (k : α → En → So) : So := match r with
  | .ok a e => k a e
  | .exc c x e => .exc c x e
  | .stuck => .stuck
def seqS (f g : SM) : SM := fun e => match f e with
  | .nx e1 => g e1
  | r => r
def sNext : SM := fun e => .nx e
def sExpr (f : EM) : SM := fun e => ofE (f e) fun _ e1 => .nx e1
def sRet (f : EM) : SM := fun e => ofE (f e) fun d e1 => .rt d e1
def sRetN : SM := fun e => .rt .non e
def sIf (t : TM) (f g : SM) : SM := fun e => ofE (t e) fun k e1 => if k = true then f e1 else g e1
def sStuck : SM := fun _ => .stuck
section
variable {w : Wd} {W : Wx} {s : Bool} {b b' : Bs} {r : So} {D : Ends}
theorem SR.later (g : Gr s b b') (h : SR w W b r D) : SR w W b' r D := by
  cases r with
  | nx e' => exact fun b2 σ' g' S => h b2 σ' (g.weak.trans g') S
  | bk e' => exact fun b2 σ' g' S => h b2 σ' (g.weak.trans g') S
  | ct e' => exact fun b2 σ' g' S => h b2 σ' (g.weak.trans g') S
  | rt d e' => exact fun b2 σ' v g' S z => h b2 σ' v (g.weak.trans g') S (z.back g)
  | exc c x e' => exact fun b2 σ' g' S => h b2 σ' (g.weak.trans g') S
  | stuck => exact h
theorem SR.ofE {α : Type} {σ : St} {q : Rs α} {k : α → En → So} (h : SR w W b (Vm.ofE q k) D) : PR w W s σ b q fun a b' e' => SR w W b' (k a e') D := by
  cases q with
  | ok a e' => exact fun b' g S => SR.later g h
  | exc c x e' => exact fun b' g S => h b' σ g.weak S
  | stuck => exact h
end
section
variable {X : Cx} {W : Wx} {s : Bool} {w : Wd} {pos : Pos} {x : Expr} {st : Stmt} {rest body orelse : List Stmt} {f : EM} {t : TM} {sf sg : SM}
theorem zsNil : PSs X [] (tS w W sNext) := pss_nil.imp fun D σ H ⟨b, e, he, S, h⟩ => by
  subst he
  exact h b σ (Gr.refl b) S
theorem zsCons (h1 : PS X st (tS w W sf)) (h2 : PSs X rest (tS w W sg)) : PSs X (st :: rest) (tS w W (seqS sf sg)) := (pss_cons h1 h2).imp fun D σ H ⟨b, e, he, S, h⟩ => by
  subst he
  refine ⟨b, e, rfl, S, ?_⟩
  unfold seqS at h
  cases hf : sf e with
  | nx e1 =>
    rw [hf] at h
    exact fun b1 σ1 g1 S1 => ⟨b1, e1, rfl, S1, SR.later g1 h⟩
  | bk e1 =>
    rw [hf] at h
    exact h
  | ct e1 =>
    rw [hf] at h
    exact h
  | rt d e1 =>
    rw [hf] at h
    exact h
  | exc c x e1 =>
    rw [hf] at h
    exact h
  | stuck =>
    rw [hf] at h
    exact h
theorem zsOne (h1 : PS X st (tS w W sf)) : PSs X [st] (tS w W sf) := (pss_one h1).imp fun D σ H h => h
theorem vRet (h : PE X x (tV w W s f)) : PS X (.Return (some x) pos) (tS w W (sRet f)) := (ps_ret h).imp fun D σ H ⟨b, e, he, S, h⟩ => by
  subst he
  refine ⟨b, e, rfl, S, ?_⟩
  unfold sRet at h
  cases hf : f e with
  | stuck =>
    rw [hf] at h
    exact h
  | exc c x e1 =>
    rw [hf] at h
    exact fun b' g S => h b' σ g.weak S
  | ok d e1 =>
    rw [hf] at h
    exact fun b1 g1 S1 v t => h b1 σ v g1.weak S1 t
theorem zIf (hc : PT X x (tT w W s t)) (ha : PSs X body (tS w W sf)) (hb : PSs X orelse (tS w W sg)) : PS X (.If x body orelse pos) (tS w W (sIf t sf sg)) := (ps_if hc ha hb).imp fun D σ H ⟨b, e, he, S, h⟩ => by
  subst he
  refine ⟨b, e, rfl, S, (SR.ofE h).mono fun k b1 e1 g1 S1 h1 => ?_⟩
  cases k with
  | true => exact ⟨b1, e1, rfl, S1, h1⟩
  | false => exact ⟨b1, e1, rfl, S1, h1⟩
end
end Vm

set_option maxHeartbeats 1000000
namespace Vm
open PySem L2
def okIx (e : En) : Ix → Prop
  | .s i => i < e.sl.length
  | .m n => n < e.mu.length
def Bs.give (b : Bs) (H' : Hp) (x : Ix) (l : List Addr) : Bs := ⟨b.G, H', fun y => if y = x then l else b.o y⟩
theorem give_same {b : Bs} {H' : Hp} {x : Ix} {l : List Addr} : (b.give H' x l).o x = l := if_pos rfl
theorem give_ne {b : Bs} {H' : Hp} {x y : Ix} {l : List Addr} (h : y ≠ x) : (b.give H' x l).o y = b.o y := if_neg h
section
variable {w : Wd} {b b0 : Bs} {σ σ' : St} {e : En} {x : Ix} {d : D} {v : V} {l : List Addr} {H' : Hp}
theorem Sat.hold (S : Sat w b σ e) (g : Gr false b0 b) (hx : okIx e x) (hH : ∀ a u, b.H a = some u → a ∉ b.o x → H' a = some u) (hn : ∀ a, H' a = none → b.H a = none)
    (hO : Own w b.G H' d v l) (hnd : l.Nodup) (hl : ∀ a ∈ l, b.G.F a = none ∧ (a ∈ b.o x ∨ (¬ b.own a ∧ (b0.H a = none ∨ b0.own a))))
    (hσ : rootV b σ' x = some v) (hσ' : ∀ y, y ≠ x → rootV b σ' y = rootV b σ y) (hlen : σ'.length = σ.length) : Gr false b0 (b.give H' x l) ∧ Sat w (b.give H' x l) σ' (e.put x (some d)) := by
  have sub : ∀ y a, a ∈ (b.give H' x l).o y → (y = x ∧ a ∈ l) ∨ (y ≠ x ∧ a ∈ b.o y) := fun y a h => by
    by_cases hy : y = x
    · subst hy
      rw [give_same] at h
      exact .inl ⟨rfl, h⟩
    · rw [give_ne hy] at h
      exact .inr ⟨hy, h⟩
  refine ⟨⟨g.g, fun a u h n => ?_, g.n, fun a h => ?_, (fun h => by cases h), fun a h => g.h a (hn a h)⟩, ⟨fun a u h => ?_, by rw [put_slen, hlen]; exact S.le, fun n => by rw [put_mlen]; exact S.lm n, fun y d' h => ?_, fun y h => ?_, fun y z a h1 h2 => ?_, fun y => ?_, fun y a h => ?_⟩⟩
  · have n' := keeps_f n
    exact hH a u (g.k a u h n) fun z => (g.p a ⟨x, z⟩).elim n' fun z => by rw [h] at z; cases z
  · obtain ⟨y, hy⟩ := h
    rcases sub y a hy with ⟨rfl, z⟩ | ⟨_, z⟩
    · rcases (hl a z).2 with z | ⟨_, z⟩
      · exact g.p a ⟨_, z⟩
      · exact z.symm
    · exact g.p a ⟨y, z⟩
  · exact hH a u (S.ex a u h) fun z => by
      have := S.fo x a z
      have h' : b.G.F a = some u := h
      rw [this] at h'
      cases h'
  · by_cases hy : y = x
    · subst hy
      rw [at_put_same (by cases y <;> exact hx)] at h
      cases h
      refine ⟨v, hσ, ?_⟩
      rw [give_same]
      exact hO
    · rw [at_put_ne hy] at h
      obtain ⟨v', h1, h2⟩ := S.sl y d' h
      refine ⟨v', (hσ' y hy).trans h1, ?_⟩
      rw [give_ne hy]
      exact h2.keep (.refl _) fun a ha u hu => hH a u hu fun z => hy (S.ap y x a ha z)
  · by_cases hy : y = x
    · subst hy
      rw [at_put_same (by cases y <;> exact hx)] at h
      cases h
    · rw [at_put_ne hy] at h
      rw [give_ne hy]
      exact S.em y h
  · rcases sub y a h1 with ⟨rfl, k1⟩ | ⟨n1, k1⟩
    · rcases sub z a h2 with ⟨rfl, k2⟩ | ⟨n2, k2⟩
      · rfl
      · rcases (hl a k1).2 with k | ⟨k, _⟩
        · exact S.ap _ _ a k k2
        · exact absurd ⟨z, k2⟩ k
    · rcases sub z a h2 with ⟨rfl, k2⟩ | ⟨n2, k2⟩
      · rcases (hl a k2).2 with k | ⟨k, _⟩
        · exact S.ap _ _ a k1 k
        · exact absurd ⟨y, k1⟩ k
      · exact S.ap y z a k1 k2
  · by_cases hy : y = x
    · rw [hy, give_same]
      exact hnd
    · rw [give_ne hy]
      exact S.nd y
  · rcases sub y a h with ⟨rfl, k1⟩ | ⟨_, k1⟩
    · exact (hl a k1).1
    · exact S.fo y a k1
theorem Sat.setS {i : Nat} (S : Sat w b σ e) (g : Gr false b0 b) (hi : i < σ.length) (t : Tmp w b0 b d v) : ∃ b', b'.H = b.H ∧ b'.G = b.G ∧ Gr false b0 b' ∧ Sat w b' (σ.set i (some v)) ⟨e.sl.set i (some d), e.mu⟩ := by
  obtain ⟨l, t1, t2, t3⟩ := t
  have := S.hold (σ' := σ.set i (some v)) (x := .s i) (H' := b.H) g (by show i < e.sl.length; rw [S.le]; exact hi) (fun a u h _ => h) (fun a h => h) t1 t2 (fun a ha => ⟨(t3 a ha).1, .inr (t3 a ha).2⟩)
    (by show ((σ.set i (some v))[i]?).getD none = some v; rw [List.getElem?_set_self hi]; rfl)
    (fun y hy => by
      cases y with
      | s j =>
        have : i ≠ j := fun z => hy (by rw [z])
        show ((σ.set i (some v))[j]?).getD none = (σ[j]?).getD none
        rw [List.getElem?_set_ne this]
      | m n => rfl) (by rw [List.length_set])
  exact ⟨b.give b.H (.s i) l, rfl, rfl, this⟩
theorem Sat.setZ {i : Nat} {s : Bool} (S : Sat w b σ e) (hi : i < σ.length) (z : Fz w b.G d v) : ∃ b', b'.H = b.H ∧ b'.G = b.G ∧ Gr s b b' ∧ Sat w b' (σ.set i (some v)) ⟨e.sl.set i (some d), e.mu⟩ := by
  have := S.hold (σ' := σ.set i (some v)) (x := .s i) (H' := b.H) (l := []) (Gr.refl b) (by show i < e.sl.length; rw [S.le]; exact hi) (fun a u h _ => h) (fun a h => h) z.own List.nodup_nil (fun a ha => nomatch ha)
    (by show ((σ.set i (some v))[i]?).getD none = some v; rw [List.getElem?_set_self hi]; rfl)
    (fun y hy => by
      cases y with
      | s j =>
        have : i ≠ j := fun z => hy (by rw [z])
        show ((σ.set i (some v))[j]?).getD none = (σ[j]?).getD none
        rw [List.getElem?_set_ne this]
      | m n => rfl) (by rw [List.length_set])
  refine ⟨b.give b.H (.s i) [], rfl, rfl, Gr.soft ⟨.refl _, fun a u h _ => h, fun a h => .inl h, fun a ⟨y, h⟩ => ?_, fun _ n a h => ?_, fun a h => h⟩, this.2⟩
  · by_cases hy : y = .s i
    · subst hy
      rw [give_same] at h
      cases h
    · rw [give_ne hy] at h
      exact .inl ⟨y, h⟩
  · rw [give_ne (by intro z; cases z)] at h
    exact .inl ⟨n, h⟩
def Bs.drop (b : Bs) (x : Ix) : Bs := ⟨b.G, b.H, fun y => if y = x then [] else b.o y⟩
theorem drop_sub {y : Ix} {a : Addr} (h : a ∈ (b.drop x).o y) : y ≠ x ∧ a ∈ b.o y := by
  have h' : a ∈ (if y = x then [] else b.o y) := h
  split at h'
  · cases h'
  · exact ⟨by assumption, h'⟩
theorem Gr.drop {s : Bool} (g : Gr s b0 b) : Gr s b0 (b.drop x) := ⟨g.g, g.k, g.n, fun a ⟨y, h⟩ => g.p a ⟨y, (drop_sub h).2⟩, fun hs n a h => g.q hs n a (drop_sub h).2, g.h⟩
theorem at_put_none {y : Ix} {d : D} (h : (e.put x none).at y = some d) : y ≠ x ∧ e.at y = some d := by
  have hne : y ≠ x := fun z => by
    subst z
    cases y with
    | s i =>
      have h' : ((e.sl.set i none)[i]?).getD none = some d := h
      by_cases hi : i < e.sl.length
      · rw [List.getElem?_set_self hi] at h'
        cases h'
      · rw [List.getElem?_eq_none (by rw [List.length_set]; omega)] at h'
        cases h'
    | m n =>
      have h' : ((e.mu.set n none)[n]?).getD none = some d := h
      by_cases hi : n < e.mu.length
      · rw [List.getElem?_set_self hi] at h'
        cases h'
      · rw [List.getElem?_eq_none (by rw [List.length_set]; omega)] at h'
        cases h'
  exact ⟨hne, by rw [at_put_ne hne] at h; exact h⟩
theorem Sat.drop (S : Sat w b σ e) (x : Ix) : Sat w (b.drop x) σ (e.put x none) := by
  refine ⟨S.ex, by rw [put_slen]; exact S.le, fun n => by rw [put_mlen]; exact S.lm n, fun y d h => ?_, fun y h => ?_, fun y z a h1 h2 => S.ap y z a (drop_sub h1).2 (drop_sub h2).2, fun y => ?_, fun y a h => S.fo y a (drop_sub h).2⟩
  · obtain ⟨hne, h⟩ := at_put_none h
    obtain ⟨v, h1, h2⟩ := S.sl y d h
    refine ⟨v, h1, ?_⟩
    have : (b.drop x).o y = b.o y := if_neg hne
    rw [this]
    exact h2
  · show (if y = x then [] else b.o y) = []
    by_cases hy : y = x
    · rw [if_pos hy]
    · rw [if_neg hy]
      rw [at_put_ne hy] at h
      exact S.em y h
  · show (if y = x then [] else b.o y).Nodup
    split
    · exact List.nodup_nil
    · exact S.nd y
end

def eMove (i : Nat) : EM := fun e => match e.sl[i]? with
  | some (some d) => .ok d ⟨e.sl.set i none, e.mu⟩
  | _ => .stuck
def eFrz (i : Nat) : EM := fun e => match e.sl[i]? with
  | some (some d) => match frzD d with
    | some d' => .ok d' ⟨e.sl.set i (some d'), e.mu⟩
    | none => .stuck
  | _ => .stuck
section
variable {X : Cx} {w : Wd} {W : Wx} {s : Bool} {pos : Pos}
theorem slot_at {e : En} {i : Nat} {d : D} (h : e.sl[i]? = some (some d)) : e.at (.s i) = some d := by
  show (e.sl[i]?).getD none = some d
  rw [h]
  rfl
end
end Vm

set_option maxHeartbeats 1000000
namespace Vm
open PySem L2
abbrev GM := D → En → Option En
def gN (i : Nat) : GM := fun d e => some ⟨e.sl.set i (some d), e.mu⟩
def gsNil : List D → En → Option En := fun ds e => match ds with
  | [] => some e
  | _ :: _ => none
def gsCons (g : GM) (h : List D → En → Option En) : List D → En → Option En := fun ds e => match ds with
  | d :: r => (g d e).bind fun e1 => h r e1
  | [] => none
def gT (n : Nat) (h : List D → En → Option En) : GM := fun d e => match d with
  | .tup ds => if ds.length = n then h ds e else none
  | .lst ds => if ds.length = n then h ds e else none
  | _ => none
def tG (w : Wd) (vs : List Nat) (g : GM) : TG := fun v σ H Q => ∃ b e d e', H = b.H ∧ Sat w b σ e ∧ Fz w b.G d v ∧ g d e = some e' ∧ ∀ b' σ', b'.H = b.H → Gr true b b' → Sat w b' σ' e' → wipe σ' vs = wipe σ vs → Q σ' b.H
def tGs (w : Wd) (ws : List Nat) (g : List D → En → Option En) : TGs := fun vs σ H Q => ∃ b e ds e', H = b.H ∧ Sat w b σ e ∧ FzL w b.G ds vs ∧ g ds e = some e' ∧ ∀ b' σ', b'.H = b.H → Gr true b b' → Sat w b' σ' e' → wipe σ' ws = wipe σ ws → Q σ' b.H
theorem wipe_set {σ : St} {i : Nat} {x : Option V} : ∀ {vs : List Nat}, vs.contains i = true → wipe (σ.set i x) vs = wipe σ vs
  | [], h => by simp at h
  | v :: vs, h => by
    unfold wipe
    by_cases hv : vs.contains i = true
    · rw [wipe_set hv]
    · have e : i = v := by
        have h' : i = v ∨ i ∈ vs := by simpa using h
        exact h'.resolve_right (by simpa using hv)
      subst e
      have hn : i ∉ vs := by simpa using hv
      have key : ∀ us : List Nat, i ∉ us → wipe (σ.set i x) us = (wipe σ us).set i x := by
        intro us
        induction us with
        | nil => intro _; rfl
        | cons u us ih =>
          intro h
          unfold wipe
          rw [ih (fun z => h (List.mem_cons_of_mem _ z)), List.set_comm]
          exact fun z => h (by rw [z]; exact List.mem_cons_self ..)
      rw [key vs hn, List.set_set]
theorem _root_.L2.PG.imp {X : Cx} {e : Expr} {t t' : TG} (h : PG X e t) (k : ∀ v σ H Q, t' v σ H Q → t v σ H Q) : PG X e t' := ⟨fun pins s σ H v u Q I r q => h.run pins s σ H v u Q I r (k v σ H Q q)⟩
theorem _root_.L2.PGs.imp {X : Cx} {e : List Expr} {t t' : TGs} (h : PGs X e t) (k : ∀ v σ H Q, t' v σ H Q → t v σ H Q) : PGs X e t' := ⟨fun pins s σ H v u Q I r q => h.run pins s σ H v u Q I r (k v σ H Q q)⟩
theorem _root_.L2.PG.or {X : Cx} {e : Expr} {t t' : TG} (h : PG X e t) (h' : PG X e t') : PG X e (fun v σ H Q => t v σ H Q ∨ t' v σ H Q) := ⟨fun pins s σ H v u Q I r q => q.elim (h.run pins s σ H v u Q I r) (h'.run pins s σ H v u Q I r)⟩
theorem _root_.L2.PG.len {X : Cx} {e : Expr} {t : TG} (h : PG X e t) : PG X e fun v σ H Q => σ.length = X.N.length → t v σ H Q := ⟨fun pins s σ H v u Q I r q => h.run pins s σ H v u Q I r (q I.len)⟩
theorem _root_.L2.PS.len {X : Cx} {e : Stmt} {t : TS} (h : PS X e t) : PS X e fun D σ H => σ.length = X.N.length → t D σ H := ⟨fun pins s σ H D I q => h.run pins s σ H D I (q I.len)⟩
section
variable {X : Cx} {W : Wx} {s : Bool} {w : Wd} {pos : Pos} {x tg : Expr} {es : List Expr} {g : GM} {gs : List D → En → Option En} {f : EM}
theorem zgN (i : Nat) {y : Str} {vs : List Nat} (hN : X.N.Nodup) (hvs : vs.contains i = true := by rfl) (hi : X.N[i]? = some y := by rfl) (hx : Loc X.env.scope y := by first | exact Or.inl rfl | exact Or.inr rfl)
    (hf : X.fn y = true ∨ X.env.scope.names.lookup y = some .local := by first | exact .inl rfl | exact .inr rfl | assumption) : PG X (.Name y pos) (tG w vs (gN i)) := (pg_name hN hi hx hf).len.imp fun v σ H Q ⟨b, e, d, e', he, S, z, hg, q⟩ hl => by
  subst he
  cases hg
  have hlt : i < σ.length := by
    rw [hl]
    exact (List.getElem?_eq_some_iff.mp hi).1
  obtain ⟨b', h1, _, h2, h3⟩ := S.setZ hlt z
  exact q b' _ h1 h2 h3 (wipe_set hvs)
def sAsg (f : EM) (g : GM) : SM := fun e => ofE (f e) fun d e1 => match g d e1 with
  | some e2 => .nx e2
  | none => .stuck
theorem set_v {i : Nat} {D : Ends} {σ : St} {H : Hp} (hi : i < σ.length) (h : tS w W (sAsg f (gN i)) D σ H) : tAsg (tV w W s f) (gName i) D σ H := by
  obtain ⟨b, e, rfl, S, h⟩ := h
  refine ⟨b, e, rfl, S, ?_⟩
  unfold sAsg at h
  cases hf : f e with
  | stuck =>
    rw [hf] at h
    exact h
  | exc c x e1 =>
    rw [hf] at h
    exact fun b' g S => h b' σ g.weak S
  | ok d e1 =>
    rw [hf] at h
    intro b1 g1 S1 v t
    obtain ⟨b2, e2, _, g2, S2⟩ := S1.setS g1.weak hi t
    show D.nx _ b1.H
    rw [← e2]
    exact h b2 _ g2 S2
theorem vSet (i : Nat) {y : Str} {pos' : Pos} (hN : X.N.Nodup) (he : PE X x (tV w W s f)) (hi : X.N[i]? = some y := by rfl) (hx : Loc X.env.scope y := by first | exact Or.inl rfl | exact Or.inr rfl)
    (hs : swapsWith x (some (.Name y pos')) pos.line X.env = pure false := by rfl) (hf : X.fn y = true ∨ X.env.scope.names.lookup y = some .local := by first | exact .inl rfl | exact .inr rfl | assumption) : PS X (.Assign [.Name y pos'] x pos) (tS w W (sAsg f (gN i))) :=
  (ps_set hN hi hx he hs hf).len.imp fun D σ H h hl => set_v (by rw [hl]; exact (List.getElem?_eq_some_iff.mp hi).1) h
end
end Vm

set_option maxHeartbeats 1000000
namespace Vm
open PySem L2
section
variable {w : Wd} {b b' : Bs} {σ : St} {e : En} {d : D} {ds : List D} {v : V} {s : Bool}
theorem Br.int {i : Int} (h : Br w b (.int i) v) : v = .int i := fz_int.mp (h.fz rfl)
theorem Br.str {i : Str} (h : Br w b (.str i) v) : v = .str i ∧ PyData.strOk i = true := fz_str.mp (h.fz rfl)
theorem Br.bl {i : Bool} (h : Br w b (.bl i) v) : v = .bl i := fz_bl.mp (h.fz rfl)
theorem Br.non (h : Br w b .non v) : v = .non := fz_non.mp (h.fz rfl)
theorem Br.tup (h : Br w b (.tup ds) v) : ∃ a vs, v = .ref a ∧ b.G.F a = some (.tup vs) ∧ ds.length ≤ sizeLine ∧ FzL w b.G ds vs := fz_tup.mp (h.fz rfl)
theorem Br.tux (h : Br w b (.tux ds) v) : ∃ a o vs, v = .ref a ∧ b.G.F a = some (.frz o (.tup vs)) ∧ o.dict = none ∧ ds.length ≤ sizeLine ∧ FzL w b.G ds vs := fz_tux.mp (h.fz rfl)
theorem Br.rol (h : Br w b (.rol ds) v) : ∃ a vs, v = .ref a ∧ SqL w.K b.G.F a vs ∧ ds.length ≤ sizeLine ∧ FzL w b.G ds vs := fz_rol.mp (h.fz rfl)
theorem Br.lst (S : Sat w b σ e) (h : Br w b (.lst ds) v) : ∃ a vs, v = .ref a ∧ b.H a = some (.lst vs) ∧ ds.length ≤ sizeLine ∧ FzL w b.G ds vs := by
  obtain ⟨a, vs, rfl, h1, h2, h3⟩ := fz_lst.mp (h.fz rfl)
  exact ⟨a, vs, rfl, S.ex _ _ h1, h2, h3⟩
theorem Br.olst (h : Br w b (.olst ds) v) : ∃ a vs l, v = .ref a ∧ b.H a = some (.lst vs) ∧ ds.length ≤ sizeLine ∧ OwnL w b.G b.H ds vs l := by
  obtain ⟨l, h1, _⟩ := h
  obtain ⟨a, vs, l', rfl, k1, k2, k3, _⟩ := own_olst.mp h1
  exact ⟨a, vs, l', rfl, k1, k2, k3⟩
theorem Br.otup (h : Br w b (.otup ds) v) : ∃ a vs l, v = .ref a ∧ b.H a = some (.tup vs) ∧ ds.length ≤ sizeLine ∧ OwnL w b.G b.H ds vs l := by
  obtain ⟨l, h1, _⟩ := h
  obtain ⟨a, vs, l', rfl, k1, k2, k3, _⟩ := own_otup.mp h1
  exact ⟨a, vs, l', rfl, k1, k2, k3⟩
theorem sat_sqL {a : Addr} {vs : List V} (S : Sat w b σ e) (h : SqL w.K b.G.F a vs) : SqL w.K b.H a vs := SqL.mono S.ex h
def items? : D → Option (List D)
  | .tup ds => some ds
  | .tux ds => some ds
  | .lst ds => some ds
  | .rol ds => some ds
  | .olst ds => some ds
  | .otup ds => some ds
  | _ => none
def fitems? : D → Option (List D)
  | .tup ds => some ds
  | .tux ds => some ds
  | .lst ds => some ds
  | .rol ds => some ds
  | .olst ds => if ds.all isF then some ds else none
  | _ => none
def litems? : D → Option (List D)
  | .lst ds => some ds
  | .olst ds => if ds.all isF then some ds else none
  | _ => none
theorem Br.seq (S : Sat w b σ e) (h : Br w b d v) (hi : items? d = some ds) : ∃ a vs l, v = .ref a ∧ (SqL w.K b.H a vs ∨ SqT w.K b.H a vs) ∧ ds.length ≤ sizeLine ∧ OwnL w b.G b.H ds vs l := by
  cases d <;> try cases hi
  · obtain ⟨a, vs, rfl, h1, h2, h3⟩ := h.tup
    exact ⟨a, vs, [], rfl, .inr (SqT.of (S.ex _ _ h1)), h2, h3.own⟩
  · obtain ⟨a, o, vs, rfl, h1, _, h2, h3⟩ := h.tux
    exact ⟨a, vs, [], rfl, .inr (.inl (.inr ⟨o, S.ex _ _ h1⟩)), h2, h3.own⟩
  · obtain ⟨a, vs, rfl, h1, h2, h3⟩ := h.lst S
    exact ⟨a, vs, [], rfl, .inl (SqL.of h1), h2, h3.own⟩
  · obtain ⟨a, vs, rfl, h1, h2, h3⟩ := h.rol
    exact ⟨a, vs, [], rfl, .inl (sat_sqL S h1), h2, h3.own⟩
  · obtain ⟨a, vs, l, rfl, h1, h2, h3⟩ := h.olst
    exact ⟨a, vs, l, rfl, .inl (SqL.of h1), h2, h3⟩
  · obtain ⟨a, vs, l, rfl, h1, h2, h3⟩ := h.otup
    exact ⟨a, vs, l, rfl, .inr (SqT.of h1), h2, h3⟩
theorem Br.list (S : Sat w b σ e) (h : Br w b d v) (hi : litems? d = some ds) : ∃ a vs, v = .ref a ∧ b.H a = some (.lst vs) ∧ ds.length ≤ sizeLine ∧ FzL w b.G ds vs := by
  cases d <;> try cases hi
  · exact h.lst S
  · rename_i xs
    have hi' : (if xs.all isF then some xs else none) = some ds := hi
    split at hi'
    · rename_i hf
      cases hi'
      obtain ⟨a, vs, l, rfl, h1, h2, h3⟩ := h.olst
      exact ⟨a, vs, rfl, h1, h2, (h3.fz hf).1⟩
    · cases hi'
theorem OwnL.get {G : Gs} {H : Hp} : ∀ {ds : List D} {vs : List V} {l : List Addr} {i : Nat} {d : D}, OwnL w G H ds vs l → ds[i]? = some d → ∃ v l', vs[i]? = some v ∧ Own w G H d v l' ∧ ∀ a ∈ l', a ∈ l
  | [], vs, l, i, d, h, e => by simp at e
  | d :: ds, vs, l, 0, d', h, e => by
    obtain ⟨v, r, l1, l2, rfl, h1, _, rfl⟩ := ownl_cons.mp h
    simp at e
    subst e
    exact ⟨v, l1, rfl, h1, fun a ha => List.mem_append_left _ ha⟩
  | d :: ds, vs, l, i + 1, d', h, e => by
    obtain ⟨v, r, l1, l2, rfl, _, h2, rfl⟩ := ownl_cons.mp h
    obtain ⟨v', l', e', z, k⟩ := OwnL.get (i := i) h2 (by simpa using e)
    exact ⟨v', l', by simpa using e', z, fun a ha => List.mem_append_right _ (k a ha)⟩
end
def OpB (w : Wd) (r : R2) (g : D → D → Option D) : Prop := ∀ ⦃s : Bool⦄ ⦃σ : St⦄ ⦃b : Bs⦄ ⦃e : En⦄ ⦃x y d : D⦄ ⦃vx vy : V⦄ ⦃Q : VK⦄,
  Sat w b σ e → Br w b x vx → Br w b y vy → g x y = some d → Ret w s b σ e d Q → r vx vy b.H Q
def OpBO (w : Wd) (r : R2) (g : D → D → Option D) : Prop := ∀ ⦃s : Bool⦄ ⦃σ : St⦄ ⦃b : Bs⦄ ⦃e : En⦄ ⦃x y d : D⦄ ⦃vx vy : V⦄ ⦃Q : VK⦄,
  Sat w b σ e → Br w b x vx → Br w b y vy → g x y = some d → RetV w s b σ e d Q → r vx vy b.H Q
theorem OpB.or {w : Wd} {r r' : R2} {g g' : D → D → Option D} (h : OpB w r g) (h' : OpB w r' g') : OpB w (fun x y H Q => r x y H Q ∨ r' x y H Q) (orD g g') := by
  intro s σ b e x y d vx vy Q S zx zy hg R
  unfold orD at hg
  cases hq : g x y with
  | some d' =>
    rw [hq] at hg
    cases hg
    exact .inl (h S zx zy hq R)
  | none =>
    rw [hq] at hg
    exact .inr (h' S zx zy hg R)
def UnB (w : Wd) (r : V → Hp → VK → Prop) (g : D → Option D) : Prop := ∀ ⦃s : Bool⦄ ⦃σ : St⦄ ⦃b : Bs⦄ ⦃e : En⦄ ⦃x d : D⦄ ⦃vx : V⦄ ⦃Q : VK⦄,
  Sat w b σ e → Br w b x vx → g x = some d → Ret w s b σ e d Q → r vx b.H Q
def UnBO (w : Wd) (r : V → Hp → VK → Prop) (g : D → Option D) : Prop := ∀ ⦃s : Bool⦄ ⦃σ : St⦄ ⦃b : Bs⦄ ⦃e : En⦄ ⦃x d : D⦄ ⦃vx : V⦄ ⦃Q : VK⦄,
  Sat w b σ e → Br w b x vx → g x = some d → RetV w s b σ e d Q → r vx b.H Q
section
variable {X : Cx} {W : Wx} {s : Bool} {w : Wd} {pos : Pos} {a c : Expr} {fa fb : EM} {r : R2} {g : D → D → Option D} {σ : St} {H : Hp} {Q : VK}
theorem tOp_f (hr : OpB w r g) (h : tZ w W s (bin g fa fb) σ H Q) : tOp r (tZ w W s fa) (tB w W s fb) σ H Q := by
  obtain ⟨b, e, rfl, S, h⟩ := h
  refine ⟨b, e, rfl, S, (PR.bind h).mono fun x b1 e1 g1 S1 h1 vx zx => ⟨b1, e1, rfl, S1, (PR.bind h1).mono fun y b2 e2 g2 S2 h2 vy zy => ?_⟩⟩
  obtain ⟨d, hd, R⟩ := PR.ret h2
  exact hr S2 (zx.mono g2.g).br zy hd R
theorem tOp_fo (hr : OpBO w r g) (h : tV w W s (bin g fa fb) σ H Q) : tOp r (tZ w W s fa) (tB w W s fb) σ H Q := by
  obtain ⟨b, e, rfl, S, h⟩ := h
  refine ⟨b, e, rfl, S, (PR.bind h).mono fun x b1 e1 g1 S1 h1 vx zx => ⟨b1, e1, rfl, S1, (PR.bind h1).mono fun y b2 e2 g2 S2 h2 vy zy => ?_⟩⟩
  obtain ⟨d, hd, R⟩ := PR.retV (g1.trans g2) h2
  exact hr S2 (zx.mono g2.g).br zy hd R
theorem fOp {op : Operator} (hr : OpB w r g) (ho : OpR X (binaryOp op) r) (ha : PE X a (tZ w W s fa)) (hb : PE X c (tB w W s fb)) : PE X (.BinOp a op c pos) (tZ w W s (bin g fa fb)) :=
  (pe_op ho ha hb).imp fun _ _ _ h => tOp_f hr h
theorem fOpO {op : Operator} (hr : OpBO w r g) (ho : OpR X (binaryOp op) r) (ha : PE X a (tZ w W s fa)) (hb : PE X c (tB w W s fb)) : PE X (.BinOp a op c pos) (tV w W s (bin g fa fb)) :=
  (pe_op ho ha hb).imp fun _ _ _ h => tOp_fo hr h
theorem fCmp {op : CmpOp} (hr : OpB w r g) (ho : OpR X (compareOp op) r) (ha : PE X a (tZ w W s fa)) (hb : PE X c (tB w W s fb)) (hm : behindInMarks op c = false := by rfl) : PE X (.Compare a [op] [c] pos) (tZ w W s (bin g fa fb)) :=
  (pe_cmpR ho ha hb hm).imp fun _ _ _ h => tOp_f hr h
theorem fIx (hr : OpB w r g) (ho : IxR X r) (ha : PE X a (tZ w W s fa)) (hb : PE X c (tB w W s fb)) (hp : PlainIx c := by intro _ _; rfl) : PE X (.Subscript a c pos) (tZ w W s (bin g fa fb)) :=
  (pe_ix ho ha hb hp).imp fun _ _ _ h => tOp_f hr h
end

def dInt (f : Int → Int → Option Int) : D → D → Option D
  | .int i, .int j => (f i j).map .int
  | _, _ => none
def dIntB (f : Int → Int → Bool) : D → D → Option D
  | .int i, .int j => some (.bl (f i j))
  | _, _ => none
theorem ob_int {w : Wd} {C : Int → Int → Prop} {f : Int → Int → Int} {g : Int → Int → Option Int} (h : ∀ i j k, g i j = some k → C i j ∧ f i j = k) : OpB w (rI C fun i j => .int (f i j)) (dInt g) := by
  intro s σ b e x y d vx vy Q S zx zy hg R
  cases x <;> try cases hg
  cases y <;> try cases hg
  rename_i i j
  cases zx.int
  cases zy.int
  obtain ⟨k, hk, rfl⟩ := Option.map_eq_some_iff.mp (show (g i j).map D.int = some d from hg)
  obtain ⟨h1, h2⟩ := h i j k hk
  subst h2
  exact ⟨i, j, rfl, rfl, h1, R.now S (fz_int.mpr rfl)⟩
theorem ob_int0 {w : Wd} {f : Int → Int → Int} : OpB w (rI0 fun i j => .int (f i j)) (dInt fun i j => some (f i j)) := by
  intro s σ b e x y d vx vy Q S zx zy hg R
  cases x <;> try cases hg
  cases y <;> try cases hg
  cases zx.int
  cases zy.int
  exact ⟨_, _, rfl, rfl, R.now S (fz_int.mpr rfl)⟩
theorem ob_intB {w : Wd} {f : Int → Int → Bool} : OpB w (rI0 fun i j => .bl (f i j)) (dIntB f) := by
  intro s σ b e x y d vx vy Q S zx zy hg R
  cases x <;> try cases hg
  cases y <;> try cases hg
  cases zx.int
  cases zy.int
  exact ⟨_, _, rfl, rfl, R.now S (fz_bl.mpr rfl)⟩
def gMod (i j : Int) : Option Int := if 0 < j then some (i % j) else none
def gFdv (i j : Int) : Option Int := if 0 < j ∧ j < 1073741824 then some (i / j) else none
def gMul (i j : Int) : Option Int := if i.natAbs.log2 + j.natAbs.log2 < 1000000 then some (i * j) else none
def dAddI := dInt fun i j => some (i + j)
def dSub := dInt fun i j => some (i - j)
def dMulI := dInt gMul
def dMod := dInt gMod
def dFdv := dInt gFdv
def dLt := dIntB fun i j => decide (i < j)
def dLe := dIntB fun i j => decide (i ≤ j)
def dGt := dIntB fun i j => decide (j < i)
def dGe := dIntB fun i j => decide (j ≤ i)
theorem ob_addI {w : Wd} : OpB w (rI0 fun i j => .int (i + j)) dAddI := ob_int0
theorem ob_sub {w : Wd} : OpB w (rI0 fun i j => .int (i - j)) dSub := ob_int0
theorem ob_mulI {w : Wd} : OpB w (rI CMulW fun i j => .int (i * j)) dMulI := ob_int fun i j k h => by
  unfold gMul at h
  split at h
  · cases h
    exact ⟨by assumption, rfl⟩
  · cases h
theorem ob_mod {w : Wd} : OpB w (rI (fun _ j => 0 < j) fun i j => .int (i % j)) dMod := ob_int fun i j k h => by
  unfold gMod at h
  split at h
  · cases h
    exact ⟨by assumption, rfl⟩
  · cases h
theorem ob_fdv {w : Wd} : OpB w (rI CDiv fun i j => .int (i / j)) dFdv := ob_int fun i j k h => by
  unfold gFdv at h
  split at h
  · cases h
    exact ⟨by assumption, rfl⟩
  · cases h
theorem ob_lt {w : Wd} : OpB w (rI0 fun i j => .bl (decide (i < j))) dLt := ob_intB
theorem ob_gt {w : Wd} : OpB w (rI0 fun i j => .bl (decide (j < i))) dGt := ob_intB
def dNeg : D → Option D
  | .int i => some (.int (-i))
  | _ => none
def dCatT : D → D → Option D
  | .tup xs, .tup ys => if xs.length + ys.length ≤ LIM then some (.tup (xs ++ ys)) else none
  | _, _ => none
theorem ob_catT {w : Wd} : OpB w (rCatA w.K) dCatT := by
  intro s σ b e x y d vx vy Q S zx zy hg R
  cases x <;> try cases hg
  cases y <;> try cases hg
  rename_i xs ys
  have hg' : (if xs.length + ys.length ≤ LIM then some (D.tup (xs ++ ys)) else none) = some d := hg
  split at hg'
  · rename_i hl
    cases hg'
    obtain ⟨a, vs, rfl, h1, h2, h3⟩ := zx.tup
    obtain ⟨a', vs', rfl, h1', h2', h3'⟩ := zy.tup
    have l1 := h3.length
    have l2 := h3'.length
    refine ⟨a, a', vs, vs', rfl, rfl, SqT.of (S.ex _ _ h1), SqT.of (S.ex _ _ h1'), ?_, fun q => ?_, fun _ q => ?_, fun _ _ p hp => ?_⟩
    · rw [l1, l2]
      exact lim_size hl
    · have : xs = [] := List.eq_nil_of_length_eq_zero (by rw [← l1, q]; rfl)
      subst this
      exact R.now S (fz_tup.mpr ⟨a', vs', rfl, h1', h2', h3'⟩)
    · have : ys = [] := List.eq_nil_of_length_eq_zero (by rw [← l2, q]; rfl)
      subst this
      rw [List.append_nil] at R
      exact R.now S (fz_tup.mpr ⟨a, vs, rfl, h1, h2, h3⟩)
    · exact R.tup S hp (by rw [List.length_append]; exact lim_size hl) (h3.append h3')
  · cases hg'
def dCatL : D → D → Option D := fun x y => (litems? x).bind fun xs => (litems? y).bind fun ys => if xs.length + ys.length ≤ LIM then some (.olst (xs ++ ys)) else none
theorem ob_catL {w : Wd} : OpBO w rCat dCatL := by
  intro s σ b e x y d vx vy Q S zx zy hg R
  obtain ⟨xs, hx, hg⟩ := Option.bind_eq_some_iff.mp (show (litems? x).bind _ = some d from hg)
  obtain ⟨ys, hy, hg⟩ := Option.bind_eq_some_iff.mp hg
  split at hg
  · rename_i hl
    cases hg
    obtain ⟨a, vs, rfl, h1, h2, h3⟩ := zx.list S hx
    obtain ⟨a', vs', rfl, h1', h2', h3'⟩ := zy.list S hy
    refine ⟨a, a', vs, vs', rfl, rfl, h1, h1', ?_, fun p hp => R.lst S hp (by rw [List.length_append]; exact lim_size hl) (h3.append h3')⟩
    rw [h3.length, h3'.length]
    exact lim_size hl
  · cases hg
theorem FzL.rep {w : Wd} {G : Gs} {ds : List D} {vs : List V} (h : FzL w G ds vs) : ∀ k : Nat, FzL w G (List.replicate k ds).flatten (List.replicate k vs).flatten
  | 0 => by simp [FzL]
  | k + 1 => by
    simp only [List.replicate_succ, List.flatten_cons]
    exact h.append (h.rep k)
def dRepL : D → D → Option D := fun x y => (litems? x).bind fun xs => match y with
  | .int k => if k < 1000 ∧ -1000 < k ∧ xs.length ≤ 1000 then some (.olst (List.replicate k.toNat xs).flatten) else none
  | _ => none
theorem rep_le {α : Type} {xs : List α} {k : Nat} (h : k ≤ 1000) (h' : xs.length ≤ 1000) : (List.replicate k xs).flatten.length ≤ LIM := by
  rw [PyProof.Rows.lm_len_rep_flat]
  exact Nat.mul_le_mul h h'
theorem ob_repL {w : Wd} : OpBO w rRep dRepL := by
  intro s σ b e x y d vx vy Q S zx zy hg R
  obtain ⟨xs, hx, hg2⟩ := Option.bind_eq_some_iff.mp (show (litems? x).bind _ = some d from hg)
  clear hg
  cases y <;> try cases hg2
  rename_i k
  have hg' : (if k < 1000 ∧ -1000 < k ∧ xs.length ≤ 1000 then some (D.olst (List.replicate k.toNat xs).flatten) else none) = some d := hg2
  split at hg'
  · rename_i hl
    cases hg'
    obtain ⟨a, vs, rfl, h1, h2, h3⟩ := zx.list S hx
    cases zy.int
    refine ⟨a, k, vs, rfl, rfl, h1, by omega, by omega, ?_, fun p hp => R.lst S hp (lim_size (rep_le (by omega) hl.2.2)) (h3.rep _)⟩
    rw [h3.length]
    exact lim_size (Nat.mul_le_mul hl.2.2 (by omega : k.toNat ≤ 1000))
  · cases hg'
def dIx : D → D → Option D := fun x y => (items? x).bind fun xs => match y with
  | .int i => (atI xs i).bind fun d => if isF d then some d else none
  | _ => none
theorem OwnL.atI {w : Wd} {G : Gs} {H : Hp} {ds : List D} {vs : List V} {l : List Addr} {i : Int} {d : D} (h : OwnL w G H ds vs l) (e : L2.atI ds i = some d) : ∃ v l', L2.atI vs i = some v ∧ Own w G H d v l' ∧ ∀ a ∈ l', a ∈ l := by
  unfold L2.atI at e ⊢
  rw [h.length]
  obtain ⟨j, hj, hd⟩ := Option.bind_eq_some_iff.mp e
  obtain ⟨v, l', hv, z, k⟩ := h.get hd
  exact ⟨v, l', by rw [hj]; exact hv, z, k⟩
theorem ob_ix {w : Wd} : OpB w (rIx w.K) dIx := by
  intro s σ b e x y d vx vy Q S zx zy hg R
  obtain ⟨xs, hx, hg2⟩ := Option.bind_eq_some_iff.mp (show (items? x).bind _ = some d from hg)
  clear hg
  cases y <;> try cases hg2
  rename_i i
  obtain ⟨d', hd, hg⟩ := Option.bind_eq_some_iff.mp (show (atI xs i).bind _ = some d from hg2)
  split at hg
  · rename_i hf
    cases hg
    cases zy.int
    obtain ⟨a, vs, l, rfl, h1, h2, h3⟩ := zx.seq S hx
    obtain ⟨v, l', hv, z, _⟩ := h3.atI hd
    have zz := R.now S ((own_fz hf).mp z).1
    rcases h1 with h1 | h1
    · exact .inl ⟨a, vs, i, v, rfl, rfl, h1, hv, zz⟩
    · exact .inr (.inl ⟨a, vs, i, v, rfl, rfl, h1, hv, zz⟩)
  · cases hg
end Vm

set_option maxHeartbeats 1000000
namespace Vm
open PySem L2
mutual
def pd : D → PyData
  | .non => .none
  | .bl b => .bool b
  | .int i => .int i
  | .str x => .str x
  | .tup xs => .tuple (pdL xs)
  | .tux xs => .tuple (pdL xs)
  | .lst xs => .list (pdL xs)
  | .rol xs => .list (pdL xs)
  | .olst xs => .list (pdL xs)
  | .otup xs => .tuple (pdL xs)
  | _ => .none
def pdL : List D → List PyData
  | [] => []
  | x :: xs => pd x :: pdL xs
end
mutual
def pln : Nat → D → Bool
  | _, .non => true
  | _, .bl _ => true
  | _, .int _ => true
  | _, .str _ => true
  | n + 1, .tup xs => plnL n xs
  | n + 1, .tux xs => plnL n xs
  | n + 1, .lst xs => plnL n xs
  | n + 1, .rol xs => plnL n xs
  | n + 1, .olst xs => plnL n xs
  | n + 1, .otup xs => plnL n xs
  | _, _ => false
def plnL : Nat → List D → Bool
  | _, [] => true
  | n, x :: xs => pln n x && plnL n xs
end
section
variable {w : Wd} {G : Gs} {H : Hp}
mutual
theorem Fz.dp (hx : ∀ a u, G.F a = some u → H a = some u) : ∀ {n : Nat} {d : D} {v : V}, Fz w G d v → pln n d = true → Dp w.K H v (pd d) ∧ (pd d).canLay0 = true ∧ (pd d).depth ≤ n
  | n, .non, v, h, _ => by
    cases fz_non.mp h
    exact ⟨.non, by simp [pd, PyData.canLay0], by simp [pd, PyData.depth]⟩
  | n, .bl b, v, h, _ => by
    cases fz_bl.mp h
    exact ⟨.bl b, by simp [pd, PyData.canLay0], by simp [pd, PyData.depth]⟩
  | n, .int i, v, h, _ => by
    cases fz_int.mp h
    exact ⟨.int i, by simp [pd, PyData.canLay0], by simp [pd, PyData.depth]⟩
  | n, .str x, v, h, _ => by
    obtain ⟨rfl, hs⟩ := fz_str.mp h
    exact ⟨.str x, by simpa [pd, PyData.canLay0] using hs, by simp [pd, PyData.depth]⟩
  | n + 1, .tup ds, v, h, p => by
    obtain ⟨a, vs, rfl, h1, _, h3⟩ := fz_tup.mp h
    obtain ⟨k1, k2, k3⟩ := FzL.dp hx h3 (by simpa [pln] using p)
    simp only [pd, PyData.canLay0, PyData.depth]
    exact ⟨.tup (SqT.of (hx _ _ h1)) k1, k2, by omega⟩
  | n + 1, .tux ds, v, h, p => by
    obtain ⟨a, o, vs, rfl, h1, _, _, h3⟩ := fz_tux.mp h
    obtain ⟨k1, k2, k3⟩ := FzL.dp hx h3 (by simpa [pln] using p)
    simp only [pd, PyData.canLay0, PyData.depth]
    exact ⟨.tup (.inl (.inr ⟨o, hx _ _ h1⟩)) k1, k2, by omega⟩
  | n + 1, .lst ds, v, h, p => by
    obtain ⟨a, vs, rfl, h1, _, h3⟩ := fz_lst.mp h
    obtain ⟨k1, k2, k3⟩ := FzL.dp hx h3 (by simpa [pln] using p)
    simp only [pd, PyData.canLay0, PyData.depth]
    exact ⟨.lst (SqL.of (hx _ _ h1)) k1, k2, by omega⟩
  | n + 1, .rol ds, v, h, p => by
    obtain ⟨a, vs, rfl, h1, _, h3⟩ := fz_rol.mp h
    obtain ⟨k1, k2, k3⟩ := FzL.dp hx h3 (by simpa [pln] using p)
    simp only [pd, PyData.canLay0, PyData.depth]
    exact ⟨.lst (SqL.mono hx h1) k1, k2, by omega⟩
  | 0, .tup ds, v, h, p => by simp [pln] at p
  | 0, .tux ds, v, h, p => by simp [pln] at p
  | 0, .lst ds, v, h, p => by simp [pln] at p
  | 0, .rol ds, v, h, p => by simp [pln] at p
  | _, .dic _, v, h, p => by simp [pln] at p
  | _, .dix _, v, h, p => by simp [pln] at p
  | _, .ins _ _, v, h, p => by simp [pln] at p
  | _, .olst _, v, h, p => by simp [Fz] at h
  | _, .odic _, v, h, p => by simp [pln] at p
  | _, .odix _, v, h, p => by simp [pln] at p
  | _, .oins _ _ _, v, h, p => by simp [pln] at p
  | _, .loc _, v, h, p => by simp [pln] at p
  | _, .exn _ _, v, h, p => by simp [pln] at p
  | _, .fn _, v, h, p => by simp [pln] at p
  | _, .otbl _, v, h, p => by simp [pln] at p
  | _, .otup _, v, h, p => by simp [Fz] at h
theorem FzL.dp (hx : ∀ a u, G.F a = some u → H a = some u) : ∀ {n : Nat} {ds : List D} {vs : List V}, FzL w G ds vs → plnL n ds = true → DpAll w.K H vs (pdL ds) ∧ PyData.canLayAll0 (pdL ds) = true ∧ PyData.depthAll (pdL ds) ≤ n
  | n, [], vs, h, _ => by
    cases fzl_nil.mp h
    simp only [pdL, PyData.canLayAll0, PyData.depthAll]
    exact ⟨.nil, trivial, Nat.zero_le _⟩
  | n, d :: ds, vs, h, p => by
    obtain ⟨v, r, rfl, h1, h2⟩ := fzl_cons.mp h
    have p' : pln n d = true ∧ plnL n ds = true := by simpa [plnL] using p
    obtain ⟨k1, k2, k3⟩ := Fz.dp hx h1 p'.1
    obtain ⟨m1, m2, m3⟩ := FzL.dp hx h2 p'.2
    simp only [pdL, PyData.canLayAll0, PyData.depthAll, k2, m2]
    exact ⟨.cons k1 m1, rfl, by omega⟩
end
end
section
variable {w : Wd} {G : Gs} {H : Hp}
mutual
theorem Own.dp (hx : ∀ a u, G.F a = some u → H a = some u) : ∀ {n : Nat} {d : D} {v : V} {l : List Addr}, Own w G H d v l → pln n d = true → Dp w.K H v (pd d) ∧ (pd d).canLay0 = true ∧ (pd d).depth ≤ n
  | n + 1, .olst ds, v, l, h, p => by
    obtain ⟨a, vs, l', rfl, h1, _, h3, _⟩ := own_olst.mp h
    obtain ⟨k1, k2, k3⟩ := OwnL.dp hx h3 (by simpa [pln] using p)
    simp only [pd, PyData.canLay0, PyData.depth]
    exact ⟨.lst (SqL.of h1) k1, k2, by omega⟩
  | 0, .olst ds, v, l, h, p => by simp [pln] at p
  | _, .odic _, v, l, h, p => by simp [pln] at p
  | _, .odix _, v, l, h, p => by simp [pln] at p
  | _, .oins _ _ _, v, l, h, p => by simp [pln] at p
  | n, .non, v, l, h, p => ((own_fz rfl).mp h).1.dp hx p
  | n, .bl _, v, l, h, p => ((own_fz rfl).mp h).1.dp hx p
  | n, .int _, v, l, h, p => ((own_fz rfl).mp h).1.dp hx p
  | n, .str _, v, l, h, p => ((own_fz rfl).mp h).1.dp hx p
  | n, .tup _, v, l, h, p => ((own_fz rfl).mp h).1.dp hx p
  | n, .tux _, v, l, h, p => ((own_fz rfl).mp h).1.dp hx p
  | n, .lst _, v, l, h, p => ((own_fz rfl).mp h).1.dp hx p
  | n, .rol _, v, l, h, p => ((own_fz rfl).mp h).1.dp hx p
  | n, .dic _, v, l, h, p => ((own_fz rfl).mp h).1.dp hx p
  | n, .dix _, v, l, h, p => ((own_fz rfl).mp h).1.dp hx p
  | n, .ins _ _, v, l, h, p => ((own_fz rfl).mp h).1.dp hx p
  | n, .loc _, v, l, h, p => ((own_fz rfl).mp h).1.dp hx p
  | n, .exn _ _, v, l, h, p => ((own_fz rfl).mp h).1.dp hx p
  | n, .fn _, v, l, h, p => ((own_fz rfl).mp h).1.dp hx p
  | n, .otbl _, v, l, h, p => by simp [pln] at p
  | n + 1, .otup ds, v, l, h, p => by
    obtain ⟨a, vs, l', rfl, h1, _, h3, _⟩ := own_otup.mp h
    obtain ⟨k1, k2, k3⟩ := OwnL.dp hx h3 (by simpa [pln] using p)
    simp only [pd, PyData.canLay0, PyData.depth]
    exact ⟨.tup (SqT.of h1) k1, k2, by omega⟩
  | 0, .otup ds, v, l, h, p => by simp [pln] at p
theorem OwnL.dp (hx : ∀ a u, G.F a = some u → H a = some u) : ∀ {n : Nat} {ds : List D} {vs : List V} {l : List Addr}, OwnL w G H ds vs l → plnL n ds = true → DpAll w.K H vs (pdL ds) ∧ PyData.canLayAll0 (pdL ds) = true ∧ PyData.depthAll (pdL ds) ≤ n
  | n, [], vs, l, h, _ => by
    cases (ownl_nil.mp h).1
    simp only [pdL, PyData.canLayAll0, PyData.depthAll]
    exact ⟨.nil, trivial, Nat.zero_le _⟩
  | n, d :: ds, vs, l, h, p => by
    obtain ⟨v, r, l1, l2, rfl, h1, h2, _⟩ := ownl_cons.mp h
    have p' : pln n d = true ∧ plnL n ds = true := by simpa [plnL] using p
    obtain ⟨k1, k2, k3⟩ := Own.dp hx h1 p'.1
    obtain ⟨m1, m2, m3⟩ := OwnL.dp hx h2 p'.2
    simp only [pdL, PyData.canLayAll0, PyData.depthAll, k2, m2]
    exact ⟨.cons k1 m1, rfl, by omega⟩
end
end
theorem shaped_of {d : PyData} (h : d.canLay0 = true) {n : Nat} (h' : d.depth ≤ n) (hn : n ≤ 64) : SeqAt.shaped d = true := by
  unfold SeqAt.shaped
  rw [h, Bool.true_and]
  exact decide_eq_true (by omega)
theorem Br.dp {w : Wd} {b : Bs} {σ : St} {e : En} {n : Nat} {d : D} {v : V} (S : Sat w b σ e) (z : Br w b d v) (p : pln n d = true) (hn : n ≤ 64) : Dp w.K b.H v (pd d) ∧ SeqAt.shaped (pd d) = true := by
  obtain ⟨l, z, _⟩ := z
  obtain ⟨k1, k2, k3⟩ := z.dp S.ex p
  exact ⟨k1, shaped_of k2 k3 hn⟩
def deq (x y : D) : Bool := PyData.eqv (pd x) (pd y)
def DEP : Nat := 12
def dEq : D → D → Option D := fun x y => if pln DEP x = true ∧ pln DEP y = true then some (.bl (deq x y)) else none
def dNe : D → D → Option D := fun x y => if pln DEP x = true ∧ pln DEP y = true then some (.bl (!deq x y)) else none
theorem ob_eq {w : Wd} : OpB w (rEqD w.K) dEq := by
  intro s σ b e x y d vx vy Q S zx zy hg R
  unfold dEq at hg
  split at hg
  · rename_i h
    cases hg
    obtain ⟨k1, k2⟩ := zx.dp S h.1 (by decide)
    obtain ⟨m1, m2⟩ := zy.dp S h.2 (by decide)
    exact ⟨_, _, k1, m1, k2, m2, R.now S (fz_bl.mpr rfl)⟩
  · cases hg
theorem ob_ne {w : Wd} : OpB w (rNeD w.K) dNe := by
  intro s σ b e x y d vx vy Q S zx zy hg R
  unfold dNe at hg
  split at hg
  · rename_i h
    cases hg
    obtain ⟨k1, k2⟩ := zx.dp S h.1 (by decide)
    obtain ⟨m1, m2⟩ := zy.dp S h.2 (by decide)
    exact ⟨_, _, k1, m1, k2, m2, R.now S (fz_bl.mpr rfl)⟩
  · cases hg

def isN : D → Bool
  | .non => true
  | _ => false
def dIsN : D → D → Option D
  | x, .non => some (.bl (isN x))
  | _, _ => none
def dNotN : D → D → Option D
  | x, .non => some (.bl (!isN x))
  | _, _ => none
def flat : D → Bool
  | .non => true
  | .bl _ => true
  | .int _ => true
  | .str _ => true
  | _ => false
def inD (x : D) (ys : List D) : Bool := ys.any fun z => deq z x
def dInF (neg : Bool) : D → D → Option D := fun x y => match fitems? y with
  | some ys => if flat x = true ∧ ys.all flat = true then some (.bl (if neg then !inD x ys else inD x ys)) else none
  | none => none
def dInL (neg : Bool) : D → D → Option D := fun x y => match y with
  | .lst ys => if pln DEP x = true ∧ pln DEP y = true then some (.bl (if neg then !inD x ys else inD x ys)) else none
  | .rol ys => if pln DEP x = true ∧ pln DEP y = true then some (.bl (if neg then !inD x ys else inD x ys)) else none
  | .olst ys => if pln DEP x = true ∧ pln DEP y = true then some (.bl (if neg then !inD x ys else inD x ys)) else none
  | _ => none
def inS (i j : Str) : Bool := !(Builtin.Str.occurrences j i 0 j.length 1).isEmpty
def dInS (neg : Bool) : D → D → Option D
  | .str i, .str j => some (.bl (if neg then !inS i j else inS i j))
  | _, _ => none
def dIn := orD (dInF false) (orD (dInL false) (dInS false))
def dNotIn := orD (dInF true) (orD (dInL true) (dInS true))
section
variable {X : Cx} {W : Wx} {s : Bool} {w : Wd} {pos : Pos} {a c : Expr} {fa fb : EM}
structure Okx (w : Wd) (X : Cx) : Prop where
  P : X.prog = w.P
  W : X.w = w.W
  K : X.K = w.K
  u : X.A.units + 65 < cLine
  c : X.calm = true
  N : X.N.Nodup
theorem r_eq (o : Okx w X) : OpR X (compareOp .Eq) (rEqD w.K) := by
  have := o.u
  rw [← o.K]
  exact op_eqD (by omega)
theorem r_ne (o : Okx w X) : OpR X (compareOp .NotEq) (rNeD w.K) := by
  have := o.u
  rw [← o.K]
  exact op_neD (by omega)
theorem r_ix (o : Okx w X) : IxR X (rIx w.K) := by
  rw [← o.K]
  exact ix_seq
theorem r_catT (o : Okx w X) : OpR X (binaryOp .Add) (rCatA w.K) := by
  rw [← o.K]
  exact op_catA
end
end Vm

set_option maxHeartbeats 1000000
namespace Vm
open PySem L2
abbrev OM := En → Rs (Option Int)
def pN : OM := fun e => .ok none e
def pS (f : EM) : OM := fun e => (f e).bind fun x e1 => match x with
  | .int i => .ok (some i) e1
  | _ => .stuck
def tP (w : Wd) (W : Wx) (s : Bool) (f : OM) : TO := fun σ H Q => ∃ b e, H = b.H ∧ Sat w b σ e ∧ PR w W s σ b (f e) fun o b' _ => Q o b'.H
theorem _root_.L2.PO.imp {X : Cx} {e : Option Expr} {t t' : TO} (h : PO X e t) (k : ∀ σ H Q, t' σ H Q → t σ H Q) : PO X e t' := ⟨fun pins s σ H Q I q => h.run pins s σ H Q I (k σ H Q q)⟩
def eSl (g : D → Option Int → Option Int → Option D) (fx : EM) (fl fh : OM) : EM := fun e => (fx e).bind fun x e1 => (fl e1).bind fun l e2 => (fh e2).bind fun h e3 => lift (g x l h) e3
def cutD (xs : List D) (lo hi : Option Int) : List D := (xs.drop (HT.sIx xs.length 0 lo)).take (HT.sIx xs.length xs.length hi - HT.sIx xs.length 0 lo)
def dSlT : D → Option Int → Option Int → Option D
  | .tup xs, l, h => some (.tup (cutD xs l h))
  | _, _, _ => none
def dSlL : D → Option Int → Option Int → Option D := fun x l h => (litems? x).map fun xs => .olst (cutD xs l h)
theorem cutD_length (xs : List D) (lo hi : Option Int) : (cutD xs lo hi).length ≤ xs.length := by
  unfold cutD
  rw [List.length_take, List.length_drop]
  omega
theorem FzL.cut {w : Wd} {G : Gs} {ds : List D} {vs : List V} (h : FzL w G ds vs) (lo hi : Option Int) : FzL w G (cutD ds lo hi) (cutV vs lo hi) := by
  unfold cutD cutV
  rw [h.length]
  exact (h.drop _).take _
theorem cut_whole (xs : List D) (lo hi : Option Int) (h : HT.sIx xs.length 0 lo = 0 ∧ HT.sIx xs.length xs.length hi = xs.length) : cutD xs lo hi = xs := by
  unfold cutD
  rw [h.1, h.2]
  simp
section
variable {X : Cx} {W : Wx} {s : Bool} {w : Wd} {pos p2 : Pos} {x a c : Expr} {lo hi : Option Expr} {fx f fa fb : EM} {fl fh : OM}
theorem zpN : PO X none (tP w W s pN) := po_none.imp fun σ H Q ⟨b, e, he, S, h⟩ => by
  subst he
  exact h b (Gr.refl b) S
theorem zpS (h : PE X x (tZ w W s f)) : PO X (some x) (tP w W s (pS f)) := (po_some h).imp fun σ H Q ⟨b, e, he, S, h⟩ => by
  subst he
  refine ⟨b, e, rfl, S, (PR.bind h).mono fun d b1 e1 g1 S1 h1 v z => ?_⟩
  cases d <;> try exact h1.elim
  exact ⟨_, fz_int.mp z, h1 b1 (Gr.refl _) S1⟩
theorem slT (o : Okx w X) : SlR X (rSlA w.K) := by
  rw [← o.K]
  exact sl_tupA
theorem slL (o : Okx w X) : SlR X (rSlL w.K) := by
  rw [← o.K]
  exact sl_list
end

section
variable {X : Cx} {W : Wx} {s : Bool} {w : Wd} {pos p : Pos} {x : Str} {a c : Expr} {fa fb : EM} {id T : String} {r : List V → Hp → VK → Prop} {g : D → Option D}
theorem c1_z (hr : UnB w (fun v H Q => r [v] H Q) g) {σ : St} {H : Hp} {Q : VK} (h : tZ w W s (un g fa) σ H Q) : tCB r (tCons (tB w W s fa) tNil) σ H Q := by
  obtain ⟨b, e, rfl, S, h⟩ := h
  refine ⟨b, e, rfl, S, (PR.bind h).mono fun x b1 e1 g1 S1 h1 vx zx => ?_⟩
  obtain ⟨d, hd, R⟩ := PR.ret h1
  exact hr S1 zx hd R
theorem zCallB (hr : UnB w (fun v H Q => r [v] H Q) g) (hc : CallR X (.builtin id) r) (hg : Gl X x) (hm : X.mg x = none) (hv : bootBuiltins x = some (.builtin id)) (ha : PE X a (tB w W s fa)) (hn : x ≠ "__name__" := by decide) (hdb : (x == ("__debug__" : Str)) = false := by decide)
    (hs : starEach [a] X.env = (false, eval a X.env) :: starEach [] X.env := by rfl) : PE X (.Call (.Name x p) [a] [] pos) (tZ w W s (un g fa)) := (pe_callB hc hg hm hv (pa_cons ha pa_nil hs) hn hdb hs rfl).imp fun _ _ _ h => c1_z hr h
theorem zCallT (hr : UnB w (fun v H Q => r [v] H Q) g) (hc : CallR X (.type T) r) (hg : Gl X x) (hm : X.mg x = none) (hv : bootBuiltins x = some (.type T)) (ha : PE X a (tB w W s fa)) (hn : x ≠ "__name__" := by decide) (hdb : (x == ("__debug__" : Str)) = false := by decide)
    (hs : starEach [a] X.env = (false, eval a X.env) :: starEach [] X.env := by rfl) : PE X (.Call (.Name x p) [a] [] pos) (tZ w W s (un g fa)) := (pe_callTy hc hg hm hv (pa_cons ha pa_nil hs) hn hdb hs rfl).imp fun _ _ _ h => c1_z hr h
end
def dLen : D → Option D := fun d => match d with
  | .str z => if z.length ≤ LIM then some (.int z.length) else none
  | d => (items? d).map fun ds => .int ds.length
def rLen2 (K : PySem.W.Frag) : List V → Hp → VK → Prop := fun xs H Q => (∃ p ys, xs = [.ref p] ∧ (SqL K H p ys ∨ SqT K H p ys) ∧ Q (.int ys.length) H) ∨ ∃ z : Str, xs = [.str z] ∧ z.length ≤ sizeLine ∧ Q (.int z.length) H
theorem c_len {w : Wd} {X : Cx} (o : Okx w X) : CallR X (.builtin "len") (rLen2 w.K) := by
  rw [← o.K]
  exact call_len_seq.or call_len_str
theorem ub_len {w : Wd} : UnB w (fun v H Q => rLen2 w.K [v] H Q) dLen := by
  intro s σ b e x d vx Q S zx hg R
  have k : ∀ ds, items? x = some ds → d = .int ds.length → rLen2 w.K [vx] b.H Q := fun ds hi hd => by
    obtain ⟨a, vs, l, rfl, h1, h2, h3⟩ := zx.seq S hi
    subst hd
    refine .inl ⟨a, vs, rfl, h1, ?_⟩
    rw [h3.length]
    exact R.now S (fz_int.mpr rfl)
  cases x <;> try cases hg
  · rename_i z
    have hg' : (if z.length ≤ LIM then some (D.int z.length) else none) = some d := hg
    split at hg'
    · rename_i hl
      cases hg'
      obtain ⟨rfl, _⟩ := zx.str
      exact .inr ⟨z, rfl, lim_size hl, R.now S (fz_int.mpr rfl)⟩
    · cases hg'
  all_goals exact k _ rfl rfl
def dList : D → Option D := fun d => (fitems? d).map .olst
def dTuple : D → Option D
  | .tup ds => some (.tup ds)
  | .lst ds => some (.tup ds)
  | .rol ds => some (.tup ds)
  | .olst ds => if ds.all isF then some (.tup ds) else none
  | _ => none
def ints? : List D → Option (List Int)
  | [] => some []
  | .int i :: r => (ints? r).map (i :: ·)
  | _ :: _ => none
def rSumA (K : PySem.W.Frag) : List V → Hp → VK → Prop := fun vs H Q => ∃ (a : Addr) (ns : List Int), vs = [V.ref a] ∧ (SqL K H a (ns.map V.int) ∨ SqT K H a (ns.map V.int)) ∧ Q (.int ns.sum) H
def dSum : D → Option D := fun d => (fitems? d).bind fun ds => (ints? ds).map fun ns => .int ns.sum
def minL : Int → List Int → Int
  | m, [] => m
  | m, x :: xs => minL (if x < m then x else m) xs
def dMin : D → Option D := fun d => (litems? d).bind fun ds => match ints? ds with
  | some (n :: ns) => some (.int (minL n ns))
  | _ => none
def dToInt : D → Option D
  | .int i => some (.int i)
  | .bl k => some (.int (if k then 1 else 0))
  | _ => none
theorem ub_int {w : Wd} : UnB w (fun v H Q => (∃ i, [v] = [V.int i] ∧ Q (.int i) H) ∨ ∃ k, [v] = [V.bl k] ∧ Q (.int (if k then 1 else 0)) H) dToInt := by
  intro s σ b e x d vx Q S zx hg R
  cases x <;> try cases hg
  · cases zx.bl
    exact .inr ⟨_, rfl, R.now S (fz_int.mpr rfl)⟩
  · cases zx.int
    exact .inl ⟨_, rfl, R.now S (fz_int.mpr rfl)⟩
def dMax2 : D → D → Option D
  | .int i, .int j => some (.int (if j > i then j else i))
  | _, _ => none
section
variable {X : Cx} {W : Wx} {s : Bool} {w : Wd} {pos p : Pos} {x : Str} {a c : Expr} {fa fb : EM}
theorem zMax2 (o : Okx w X) (hg : Gl X "max") (hm : X.mg "max" = none) (ha : PE X a (tZ w W s fa)) (hb : PE X c (tZ w W s fb)) (hs : starEach [a, c] X.env = (false, eval a X.env) :: starEach [c] X.env := by rfl) (hs2 : starEach [c] X.env = (false, eval c X.env) :: starEach [] X.env := by rfl)
    (hpl : (backTo pos (starEach [c] X.env)).any (·.1) = false := by rfl) : PE X (.Call (.Name "max" p) [a, c] [] pos) (tZ w W s (bin dMax2 fa fb)) := (pe_callB (call_max2 o.c) hg hm PyProof.Rows.boot_max (pa_cons ha (pa_cons hb pa_nil hs2) hs) (by decide) (by decide) hs hpl).imp fun σ H Q ⟨b, e, he, S, h⟩ => by
  subst he
  refine ⟨b, e, rfl, S, (PR.bind h).mono fun x b1 e1 g1 S1 h1 vx zx => ⟨b1, e1, rfl, S1, (PR.bind h1).mono fun y b2 e2 g2 S2 h2 vy zy => ?_⟩⟩
  obtain ⟨d, hd, R⟩ := PR.ret h2
  cases x <;> try cases hd
  cases y <;> try cases hd
  cases fz_int.mp zx
  cases fz_int.mp zy
  exact ⟨_, _, rfl, R.now S2 (fz_int.mpr rfl)⟩
end
def eChain (g g' : D → D → Option D) (fa fb fc : EM) : EM := fun e => (fa e).bind fun x e1 => (fb e1).bind fun y e2 => (lift (g x y) e2).bind fun z e3 => match z with
  | .bl k => if k = true then (fc e3).bind fun u e4 => lift (g' y u) e4 else .ok (.bl false) e3
  | _ => .stuck
section
variable {X : Cx} {W : Wx} {s : Bool} {w : Wd} {pos : Pos} {a c d : Expr} {fa fb fc : EM} {r r' : R2} {g g' : D → D → Option D} {op op' : CmpOp}
end
end Vm

set_option maxHeartbeats 1000000
namespace Vm
open PySem L2
def hold? (i : Nat) (e : En) : Option (Ix × D) := match e.sl[i]? with
  | some (some (.loc n)) => (e.at (.m n)).map fun d => (.m n, d)
  | some (some d) => some (.s i, d)
  | _ => none
def chg (i : Nat) (k : D → Option D) (e : En) : Option En := (hold? i e).bind fun p => (k p.2).map fun d => e.put p.1 (some d)
def nxO (o : Option En) : So := match o with
  | some e => .nx e
  | none => .stuck
def hasL {α : Type} (i : Nat) (e : En) (no : α) (k : α) : α := match hold? i e with
  | some (_, .olst _) => k
  | _ => no
section
variable {w : Wd} {W : Wx} {σ : St} {b b0 : Bs} {e e' : En} {i : Nat} {x : Ix} {d : D} {D' : Ends}
theorem Sat.root (S : Sat w b σ e) (h : hold? i e = some (x, d)) : ∃ v, σ[i]? = some (some v) ∧ rootV b σ x = some v ∧ e.at x = some d ∧ Own w b.G b.H d v (b.o x) := by
  unfold hold? at h
  split at h
  · rename_i n hn
    obtain ⟨d', h1, h2⟩ := Option.map_eq_some_iff.mp h
    cases h2
    obtain ⟨v, k1, k2⟩ := S.slot hn
    obtain ⟨a, rfl, k3⟩ := fz_loc.mp ((own_fz rfl).mp k2).1
    obtain ⟨v', m1, m2⟩ := S.sl (.m n) d h1
    have m1' : (b.G.ρ n).map V.ref = some v' := m1
    rw [k3] at m1'
    cases m1'
    exact ⟨_, k1, m1, h1, m2⟩
  · rename_i d' hne hd
    cases h
    obtain ⟨v, k1, k2⟩ := S.slot hd
    refine ⟨v, k1, ?_, slot_at hd, k2⟩
    show (σ[i]?).getD none = some v
    rw [k1]
    rfl
  · cases h
theorem chg_some {k : D → Option D} (h : chg i k e = some e') : ∃ x d d', hold? i e = some (x, d) ∧ k d = some d' ∧ e' = e.put x (some d') := by
  obtain ⟨⟨x, d⟩, h1, h2⟩ := Option.bind_eq_some_iff.mp h
  obtain ⟨d', h3, rfl⟩ := Option.map_eq_some_iff.mp h2
  exact ⟨x, d, d', h1, h3, rfl⟩
theorem at_ok (h : e.at x = some d) : okIx e x := by
  have := at_lt h
  cases x <;> exact this
theorem Sat.mutL (S : Sat w b σ e) (g : Gr false b0 b) {a : Addr} {ds ds' : List D} {vs vs' : List V} {l l' : List Addr} (hx : e.at x = some (.olst ds)) (hr : rootV b σ x = some (.ref a)) (ho : b.o x = a :: l) (hH : b.H a = some (.lst vs))
    (hl : ds'.length ≤ sizeLine) (z : OwnL w b.G b.H ds' vs' l') (nd : l'.Nodup) (hs : ∀ c ∈ l', c ∈ l ∨ (b.G.F c = none ∧ ¬ b.own c ∧ (b0.H c = none ∨ b0.own c))) :
    ∃ b', b'.H = upd b.H a (.lst vs') ∧ Gr false b0 b' ∧ Sat w b' σ (e.put x (some (.olst ds'))) := by
  have hain : a ∈ b.o x := by rw [ho]; exact List.mem_cons_self ..
  have na : a ∉ l' := fun h => by
    rcases hs a h with k | ⟨_, k, _⟩
    · have := S.nd x
      rw [ho] at this
      exact (List.nodup_cons.mp this).1 k
    · exact k ⟨x, hain⟩
  have := S.hold (σ' := σ) (x := x) (H' := upd b.H a (.lst vs')) (l := a :: l') (d := .olst ds') (v := .ref a) g (at_ok hx) (fun c u h n => by
      have : c ≠ a := fun z => n (z ▸ hain)
      exact (upd_ne this).trans h) (fun c h => by
      by_cases hc : c = a
      · rw [hc, upd_same] at h
        cases h
      · rw [upd_ne hc] at h
        exact h)
    (own_olst.mpr ⟨a, vs', l', rfl, upd_same, hl, z.keep (.refl _) (fun c hc u hu => by
      have : c ≠ a := fun z => na (z ▸ hc)
      exact (upd_ne this).trans hu), rfl⟩) (List.nodup_cons.mpr ⟨na, nd⟩) (fun c hc => by
      rcases List.mem_cons.mp hc with rfl | hc
      · exact ⟨S.fo x _ hain, .inl hain⟩
      · rcases hs c hc with k | ⟨k1, k2, k3⟩
        · have : c ∈ b.o x := by rw [ho]; exact List.mem_cons_of_mem _ k
          exact ⟨S.fo x c this, .inl this⟩
        · exact ⟨k1, .inr ⟨k2, k3⟩⟩) hr (fun _ _ => rfl) rfl
  exact ⟨_, rfl, this.1, this.2⟩
theorem nxO_some {o : Option En} (h : SR w W b (nxO o) D') : ∃ e, o = some e ∧ SR w W b (.nx e) D' := by
  cases o with
  | none => exact h.elim
  | some e => exact ⟨e, rfl, h⟩
theorem Sat.rootL (S : Sat w b σ e) {ds : List D} (h : hold? i e = some (x, .olst ds)) : ∃ a vs l, σ[i]? = some (some (.ref a)) ∧ rootV b σ x = some (.ref a) ∧ e.at x = some (.olst ds) ∧ b.o x = a :: l ∧ b.H a = some (.lst vs) ∧ ds.length ≤ sizeLine ∧ OwnL w b.G b.H ds vs l := by
  obtain ⟨v, h1, h2, h3, h4⟩ := S.root h
  obtain ⟨a, vs, l', rfl, k1, k2, k3, k4⟩ := own_olst.mp h4
  exact ⟨a, vs, l', h1, h2, h3, k4, k1, k2, k3⟩
end
section
variable {w : Wd} {G : Gs} {H : Hp}
theorem OwnL.append : ∀ {ds ds' : List D} {vs vs' : List V} {l l' : List Addr}, OwnL w G H ds vs l → OwnL w G H ds' vs' l' → OwnL w G H (ds ++ ds') (vs ++ vs') (l ++ l')
  | [], ds', vs, vs', l, l', h, h' => by
    obtain ⟨rfl, rfl⟩ := ownl_nil.mp h
    exact h'
  | d :: ds, ds', vs, vs', l, l', h, h' => by
    obtain ⟨v, r, l1, l2, rfl, h1, h2, rfl⟩ := ownl_cons.mp h
    exact ownl_cons.mpr ⟨v, r ++ vs', l1, l2 ++ l', rfl, h1, OwnL.append h2 h', by rw [List.append_assoc]⟩
theorem OwnL.set : ∀ {ds : List D} {vs : List V} {l : List Addr} (n : Nat) {d : D} {v : V}, OwnL w G H ds vs l → l.Nodup → Fz w G d v → ∃ l', OwnL w G H (ds.set n d) (vs.set n v) l' ∧ l'.Nodup ∧ ∀ a ∈ l', a ∈ l
  | [], vs, l, n, d, v, h, hn, z => by
    obtain ⟨rfl, rfl⟩ := ownl_nil.mp h
    exact ⟨[], by simp [OwnL], List.nodup_nil, fun _ h => h⟩
  | d' :: ds, vs, l, 0, d, v, h, hn, z => by
    obtain ⟨v', r, l1, l2, rfl, h1, h2, rfl⟩ := ownl_cons.mp h
    exact ⟨l2, ownl_cons.mpr ⟨v, r, [], l2, rfl, z.own, h2, rfl⟩, (List.nodup_append.mp hn).2.1, fun a ha => List.mem_append_right _ ha⟩
  | d' :: ds, vs, l, n + 1, d, v, h, hn, z => by
    obtain ⟨v', r, l1, l2, rfl, h1, h2, rfl⟩ := ownl_cons.mp h
    obtain ⟨n1, n2, n3⟩ := List.nodup_append.mp hn
    obtain ⟨l3, k1, k2, k3⟩ := OwnL.set n h2 n2 z
    exact ⟨l1 ++ l3, ownl_cons.mpr ⟨v', r.set n v, l1, l3, rfl, h1, k1, rfl⟩, List.nodup_append.mpr ⟨n1, k2, fun a ha b hb => n3 a ha b (k3 b hb)⟩, fun a ha => (List.mem_append.mp ha).elim (fun h => List.mem_append_left _ h) fun h => List.mem_append_right _ (k3 a h)⟩
end
def kApp (y : D) : D → Option D
  | .olst ds => if ds.length < LIM then some (.olst (ds ++ [y])) else none
  | _ => none
def kExt (xs : List D) : D → Option D
  | .olst ds => if ds.length + xs.length ≤ LIM then some (.olst (ds ++ xs)) else none
  | _ => none
def kSet (j : Int) (y : D) : D → Option D
  | .olst ds => (ixN ds.length j).map fun n => .olst (ds.set n y)
  | _ => none
def sApp (i : Nat) (f : EM) : SM := fun e => hasL i e .stuck (ofE (f e) fun d e1 => nxO (chg i (kApp d) e1))
def sExt (i : Nat) (f : EM) : SM := fun e => hasL i e .stuck (ofE (f e) fun d e1 => match litems? d with
  | some xs => nxO (chg i (kExt xs) e1)
  | none => .stuck)
def sSetIx (i : Nat) (fi fv : EM) : SM := fun e => ofE (fv e) fun d e1 => hasL i e1 .stuck (ofE (fi e1) fun j e2 => match j with
  | .int j => nxO (chg i (kSet j d) e2)
  | _ => .stuck)
section
variable {X : Cx} {W : Wx} {s : Bool} {w : Wd} {pos p ap cp : Pos} {x c : Expr} {f fi fv : EM}
end
end Vm

set_option maxHeartbeats 1000000
namespace Vm
open PySem L2
structure Gi (s : Bool) (b b' : Bs) : Prop where
  g : b.G.le b'.G
  t : s = true → Gr true b b'
theorem Gr.gi {s : Bool} {b b' : Bs} (g : Gr s b b') : Gi s b b' := ⟨g.g, fun h => by subst h; exact g⟩
theorem Gi.weak {s : Bool} {b b' : Bs} (g : Gi s b b') : Gi false b b' := ⟨g.g, fun h => by cases h⟩
structure IsIt (w : Wd) (s : Bool) (b : Bs) (J : It) (ds : List D) : Prop where
  ex : ∃ (G : Hp → Prop) (Y : Nat → Hp → V → Hp → Prop), Walk J ds.length G Y ∧ (∀ b' σ e, Gi s b b' → Sat w b' σ e → G b'.H) ∧
    ∀ b' σ e i x H' d, Gi s b b' → Sat w b' σ e → ds[i]? = some d → Y i b'.H x H' → ∃ b'', H' = b''.H ∧ Gr true b' b'' ∧ Sat w b'' σ e ∧ Fz w b''.G d x
theorem IsIt.soft {w : Wd} {s : Bool} {b : Bs} {J : It} {ds : List D} (h : IsIt w false b J ds) : IsIt w s b J ds := by
  obtain ⟨G, Y, h1, h2, h3⟩ := h.ex
  exact ⟨G, Y, h1, fun b' σ e g S => h2 b' σ e g.weak S, fun b' σ e i x H' d g S => h3 b' σ e i x H' d g.weak S⟩
def tI (w : Wd) (W : Wx) (s : Bool) (it : LM) : TI := fun σ H R => ∃ b e, H = b.H ∧ Sat w b σ e ∧ PR w W s σ b (it e) fun ds b' _ => ∀ J, IsIt w s b' J ds → R J b'.H
theorem _root_.L2.PI.imp {X : Cx} {tg e : Expr} {t t' : TI} (h : PI X tg e t) (k : ∀ σ H Q, t' σ H Q → t σ H Q) : PI X tg e t' := ⟨fun pins s σ H Q I q => h.run pins s σ H Q I (k σ H Q q)⟩
theorem _root_.L2.PI.or {X : Cx} {tg e : Expr} {t t' : TI} (h : PI X tg e t) (h' : PI X tg e t') : PI X tg e (fun σ H Q => t σ H Q ∨ t' σ H Q) := ⟨fun pins s σ H Q I q => q.elim (h.run pins s σ H Q I) (h'.run pins s σ H Q I)⟩
def seqOf (d : D) (e : En) : Rs (List D) := match items? d with
  | some ds => .ok ds e
  | none => .stuck
def itSeq (f : EM) : LM := fun e => (f e).bind seqOf
section
variable {X : Cx} {W : Wx} {s : Bool} {w : Wd} {pos : Pos} {x tg : Expr} {f : EM}
def isT : D → Bool
  | .tup _ => true
  | .tux _ => true
  | _ => false
theorem Fz.seq {w : Wd} {b : Bs} {d : D} {ds : List D} {v : V} (h : Fz w b.G d v) (hi : items? d = some ds) :
    ∃ a vs, v = .ref a ∧ vs.length = ds.length ∧ FzL w b.G ds vs ∧ ((isT d = false ∧ ∀ b' σ e, Gi false b b' → Sat w b' σ e → SqL w.K b'.H a vs) ∨ (isT d = true ∧ ∀ b' σ e, Gi false b b' → Sat w b' σ e → SqT w.K b'.H a vs)) := by
  cases d <;> try cases hi
  · obtain ⟨a, vs, rfl, h1, h2, h3⟩ := fz_tup.mp h
    exact ⟨a, vs, rfl, h3.length, h3, .inr ⟨rfl, fun b' σ e g S' => SqT.of (S'.ex _ _ (g.g.f _ _ h1))⟩⟩
  · obtain ⟨a, o, vs, rfl, h1, _, h2, h3⟩ := fz_tux.mp h
    exact ⟨a, vs, rfl, h3.length, h3, .inr ⟨rfl, fun b' σ e g S' => .inl (.inr ⟨o, S'.ex _ _ (g.g.f _ _ h1)⟩)⟩⟩
  · obtain ⟨a, vs, rfl, h1, h2, h3⟩ := fz_lst.mp h
    exact ⟨a, vs, rfl, h3.length, h3, .inl ⟨rfl, fun b' σ e g S' => SqL.of (S'.ex _ _ (g.g.f _ _ h1))⟩⟩
  · obtain ⟨a, vs, rfl, h1, h2, h3⟩ := fz_rol.mp h
    exact ⟨a, vs, rfl, h3.length, h3, .inl ⟨rfl, fun b' σ e g S' => sat_sqL S' (SqL.mono g.g.f h1)⟩⟩
  all_goals simp [Fz] at h
theorem isIt_list {b : Bs} {a : Addr} {ds : List D} {vs : List V} (z : FzL w b.G ds vs) (h : ∀ b' σ e, Gi false b b' → Sat w b' σ e → SqL w.K b'.H a vs) : IsIt w false b (Itl w.K a) ds :=
  ⟨fun H => SqL w.K H a vs, YAt vs, by rw [← z.length]; exact walk_list, h, fun b' σ e i x H' d g S hd y => by
    obtain ⟨rfl, hy⟩ := y
    obtain ⟨v, hv, zv⟩ := z.get hd
    rw [hy] at hv
    cases hv
    exact ⟨b', rfl, Gr.refl _, S, zv.mono g.g⟩⟩
theorem isIt_tup {b : Bs} {a : Addr} {ds : List D} {vs : List V} (z : FzL w b.G ds vs) (h : ∀ b' σ e, Gi false b b' → Sat w b' σ e → SqT w.K b'.H a vs) : IsIt w false b (Itt w.K a) ds :=
  ⟨fun H => SqT w.K H a vs, YAt vs, by rw [← z.length]; exact walk_tup, h, fun b' σ e i x H' d g S hd y => by
    obtain ⟨rfl, hy⟩ := y
    obtain ⟨v, hv, zv⟩ := z.get hd
    rw [hy] at hv
    cases hv
    exact ⟨b', rfl, Gr.refl _, S, zv.mono g.g⟩⟩
theorem ziSeq (o : Okx w X) (h : PE X x (tZ w W s f)) : PI X tg x (tI w W s (itSeq f)) := ((pi_list (tg := tg) h).or (pi_tup h)).imp fun σ H R ⟨b, e, he, S, q⟩ => by
  subst he
  cases hf : f e with
  | stuck =>
    unfold itSeq at q
    rw [hf] at q
    exact q.elim
  | exc c x e1 =>
    unfold itSeq at q
    rw [hf] at q
    exact .inl ⟨b, e, rfl, S, by rw [hf]; exact q⟩
  | ok d e1 =>
    unfold itSeq at q
    rw [hf] at q
    have q' : PR w W s σ b (seqOf d e1) fun ds b' _ => ∀ J, IsIt w s b' J ds → R J b'.H := q
    unfold seqOf at q'
    split at q'
    · rename_i ds hd
      cases ht : isT d with
      | true =>
        refine .inr ⟨b, e, rfl, S, ?_⟩
        rw [hf]
        intro b' g S' v z
        obtain ⟨a, vs, rfl, h1, h2, ⟨h3, _⟩ | ⟨_, h3⟩⟩ := z.seq hd
        · rw [ht] at h3
          cases h3
        · refine ⟨a, rfl, ⟨vs, ?_⟩, ?_⟩
          · rw [o.K]
            exact h3 b' σ e1 (Gr.refl _).gi S'
          · rw [o.K]
            exact q' b' g S' _ (isIt_tup h2 h3).soft
      | false =>
        refine .inl ⟨b, e, rfl, S, ?_⟩
        rw [hf]
        intro b' g S' v z
        obtain ⟨a, vs, rfl, h1, h2, ⟨_, h3⟩ | ⟨h3, _⟩⟩ := z.seq hd
        · refine ⟨a, rfl, ⟨vs, ?_⟩, ?_⟩
          · rw [o.K]
            exact h3 b' σ e1 (Gr.refl _).gi S'
          · rw [o.K]
            exact q' b' g S' _ (isIt_list h2 h3).soft
        · rw [ht] at h3
          cases h3
    · exact q'.elim
def itOwn (i : Nat) : LM := fun e => match e.sl[i]? with
  | some (some (.olst ds)) => if ds.all isF then .ok ds e else .stuck
  | some (some (.lst ds)) => .ok ds e
  | _ => .stuck
def rngD (n : Int) : List D := (List.range n.toNat).map fun i => D.int (i : Nat)
def itRange (f : EM) : LM := fun e => (f e).bind fun d e1 => match d with
  | .int n => if -1000000 ≤ n ∧ n ≤ 1000000 then .ok (rngD n) e1 else .stuck
  | _ => .stuck
theorem ziRange {p : Pos} (hg : Gl X "range") (hm : X.mg "range" = none) (ha : PE X x (tZ w W s f)) (hs : starEach [x] X.env = [(false, eval x X.env)] := by rfl) (hs2 : starEach [x] X.env = (false, eval x X.env) :: starEach [] X.env := by rfl) : PI X tg (.Call (.Name "range" p) [x] [] pos) (tI w W s (itRange f)) :=
  (pi_range1 hg hm (pa_cons ha pa_nil hs2) hs).imp fun σ H R ⟨b, e, he, S, q⟩ => by
  subst he
  refine ⟨b, e, rfl, S, (PR.bind q).mono fun d b1 e1 g1 S1 h1 v z => ?_⟩
  cases d <;> try exact h1.elim
  rename_i n
  cases fz_int.mp z
  have h1' : PR w W s σ b1 (if -1000000 ≤ n ∧ n ≤ 1000000 then Rs.ok (rngD n) e1 else .stuck) fun ds b' _ => ∀ J, IsIt w s b' J ds → R J b'.H := h1
  split at h1'
  · rename_i hn
    refine ⟨n, rfl, by omega, by omega, h1' b1 (Gr.refl _) S1 _ ⟨fun _ => True, YFn fun i => .int ((0 : Int) + (i : Nat)), ?_, fun _ _ _ _ _ => trivial, fun b' σ e i x H' d g S hd y => ?_⟩⟩
    · have e2 : (rngD n).length = n.toNat := by simp [rngD]
      rw [e2]
      exact walk_range
    · obtain ⟨rfl, rfl⟩ := y
      refine ⟨b', rfl, Gr.refl _, S, ?_⟩
      unfold rngD at hd
      rw [List.getElem?_map] at hd
      obtain ⟨j, hj, rfl⟩ := Option.map_eq_some_iff.mp hd
      have : j = i := by
        rw [List.getElem?_range (by
          have := (List.getElem?_eq_some_iff.mp hj).1
          simpa using this)] at hj
        cases hj
        rfl
      subst this
      show Fz w b'.G (D.int (j : Int)) (V.int (0 + (j : Int)))
      rw [Int.zero_add]
      exact fz_int.mpr rfl
  · exact h1'.elim
end

def forGo (g : GM) (bd : SM) : List D → SM
  | [], e => .nx e
  | d :: ds, e => match g d e with
    | none => .stuck
    | some e1 => match bd e1 with
      | .nx e2 => forGo g bd ds e2
      | .ct e2 => forGo g bd ds e2
      | .bk e2 => .nx e2
      | r => r
def sFor (it : LM) (g : GM) (bd : SM) : SM := fun e => ofE (it e) fun ds e1 => forGo g bd ds e1
section
variable {X : Cx} {W : Wx} {s : Bool} {w : Wd} {pos : Pos} {iter tg : Expr} {body : List Stmt} {it : LM} {g : GM} {bd : SM} {ws : List Nat}
theorem for_z {D : Ends} {σ : St} {H : Hp} (h : tS w W (sFor it g bd) D σ H) : tFor (tI w W false it) (tG w ws g) (tS w W bd) D σ H := by
  obtain ⟨b, e, rfl, S, h⟩ := h
  refine ⟨b, e, rfl, S, (SR.ofE h).mono fun ds b1 e1 g1 S1 h1 J hJ => ?_⟩
  obtain ⟨G, Y, wk, hG, hY⟩ := hJ.ex
  refine for_it wk (fun i σ H => ∃ b' e', H = b'.H ∧ Gr false b1 b' ∧ Sat w b' σ e' ∧ SR w W b' (forGo g bd (ds.drop i) e') D) ⟨b1, e1, rfl, Gr.refl _, S1, h1⟩ ?_ ?_ ?_
  · rintro i σ H _ ⟨b', e', rfl, g2, S2, _⟩
    exact hG b' σ e' g2.gi S2
  · rintro i x σ H H' hi ⟨b', e', rfl, g2, S2, h2⟩ y
    have hd : ds[i]? = some (ds[i]'hi) := List.getElem?_eq_getElem hi
    obtain ⟨b'', rfl, g3, S3, z⟩ := hY b' σ e' i x H' _ g2.gi S2 hd y
    rw [List.drop_eq_getElem_cons hi] at h2
    unfold forGo at h2
    have g23 : Gr false b1 b'' := g2.trans g3.soft
    have h3 : SR w W b'' (match g ds[i] e' with
      | none => So.stuck
      | some e1 => match bd e1 with
        | .nx e2 => forGo g bd (ds.drop (i + 1)) e2
        | .ct e2 => forGo g bd (ds.drop (i + 1)) e2
        | .bk e2 => .nx e2
        | r => r) D := SR.later g3 h2
    cases hg : g ds[i] e' with
    | none =>
      rw [hg] at h3
      exact h3.elim
    | some e2 =>
      rw [hg] at h3
      refine ⟨b'', e', _, e2, rfl, S3, z, hg, fun bt σ2 pt gt S4 _ => ?_⟩
      rw [← pt]
      refine ⟨bt, e2, rfl, S4, ?_⟩
      have g23 := g23.trans gt.weak
      have h3 := SR.later gt h3
      simp only at h3
      cases hb : bd e2 with
      | nx e3 =>
        rw [hb] at h3
        exact fun b4 σ4 g4 S5 => ⟨b4, e3, rfl, g23.trans g4, S5, SR.later g4 h3⟩
      | ct e3 =>
        rw [hb] at h3
        exact fun b4 σ4 g4 S5 => ⟨b4, e3, rfl, g23.trans g4, S5, SR.later g4 h3⟩
      | bk e3 =>
        rw [hb] at h3
        exact h3
      | rt d e3 =>
        rw [hb] at h3
        exact h3
      | exc c x e3 =>
        rw [hb] at h3
        exact h3
      | stuck =>
        rw [hb] at h3
        exact h3
  · rintro σ H ⟨b', e', rfl, g2, S2, h2⟩
    rw [List.drop_length] at h2
    exact h2 b' σ (Gr.refl _) S2
theorem zFor (ws : List Nat) (hp : PassesOwn (model X.prog X.w) X.A X.env X.xe) (o : Okx w X) (hi : PI X tg iter (tI w W false it)) (hg : PG X tg (tG w ws g)) (hb : PSs X body (tS w W bd))
    (hs : ∀ x, foldedSetIterable iter X.env x = pure x := by intro _; rfl) : PS X (.For tg iter body [] pos) (tS w W (sFor it g bd)) := (ps_for hp o.c hi hg hb hs).imp fun _ _ _ h => for_z h
end
def whGo (t : TM) (bd : SM) : Nat → SM
  | 0, _ => .stuck
  | n + 1, e => ofE (t e) fun k e1 => if k = true then (match bd e1 with
      | .nx e2 => whGo t bd n e2
      | .ct e2 => whGo t bd n e2
      | .bk e2 => .nx e2
      | r => r) else .nx e1
section
variable {X : Cx} {W : Wx} {s : Bool} {w : Wd} {pos : Pos} {c : Expr} {body : List Stmt} {t : TM} {bd : SM} {n : Nat}
end
end Vm

set_option maxHeartbeats 1000000
namespace Vm
open PySem L2
def wipeS (e : List (Option D)) : List Nat → List (Option D)
  | [] => e
  | v :: vs => (wipeS e vs).set v none
def wipeE (e : En) (vs : List Nat) : En := ⟨wipeS e.sl vs, e.mu⟩
def backS (e1 : List (Option D)) : List Nat → List (Option D) → List (Option D)
  | [], e => e
  | v :: vs, e => (backS e1 vs e).set v (e1[v]?.getD none)
def back (e1 : En) (vs : List Nat) (e : En) : En := ⟨backS e1.sl vs e.sl, e.mu⟩
def clear (e : En) (vs : List Nat) : Bool := vs.all fun v => match e.sl[v]? with
  | some (some d) => isF d
  | _ => true
def Rs.nox {α : Type} (r : Rs α) : Rs α := match r with
  | .exc _ _ _ => .stuck
  | r => r
def lcGo (g : GM) (tt : TM) (te : EM) (vs : List Nat) : List D → List D → En → Rs (List D)
  | [], acc, e => .ok acc e
  | d :: ds, acc, e => match g d e with
    | none => .stuck
    | some e1 => (tt e1).nox.bind fun k e2 => if k = true then (te e2).nox.bind fun y e3 => if acc.length < LIM then lcGo g tt te vs ds (acc ++ [y]) (wipeE e3 vs) else .stuck
      else lcGo g tt te vs ds acc (wipeE e2 vs)
def eLc (it : LM) (g : GM) (tt : TM) (te : EM) (vs : List Nat) : EM := fun e => (it e).bind fun ds e1 => if clear e1 vs = false then .stuck else (lcGo g tt te vs ds [] (wipeE e1 vs)).bind fun rs e2 => lift (mkLst rs) (back e1 vs e2)
def tYesD : TM := fun e => .ok true e
section
variable {w : Wd} {σ : St} {b : Bs} {e : En} {i : Nat}
theorem wipe_get {σ : St} {i : Nat} : ∀ {vs : List Nat}, i ∉ vs → (wipe σ vs)[i]? = σ[i]?
  | [], _ => rfl
  | v :: vs, h => by
    unfold wipe
    rw [List.getElem?_set_ne fun z => h (by rw [z]; exact List.mem_cons_self ..)]
    exact wipe_get fun z => h (List.mem_cons_of_mem _ z)
theorem wipe_in {σ : St} {i : Nat} : ∀ {vs : List Nat}, i ∈ vs → i < σ.length → (wipe σ vs)[i]? = some none
  | [], h, _ => by cases h
  | v :: vs, h, hl => by
    unfold wipe
    by_cases hv : v = i
    · subst hv
      rw [List.getElem?_set_self (by rw [wipe_length]; exact hl)]
    · rw [List.getElem?_set_ne hv]
      exact wipe_in ((List.mem_cons.mp h).resolve_left fun z => hv z.symm) hl
theorem wipe_idem (σ : St) (vs : List Nat) : wipe (wipe σ vs) vs = wipe σ vs := by
  apply List.ext_getElem?
  intro i
  by_cases hi : i ∈ vs
  · by_cases hl : i < σ.length
    · rw [wipe_in hi (by rw [wipe_length]; exact hl), wipe_in hi hl]
    · rw [List.getElem?_eq_none (by rw [wipe_length, wipe_length]; omega), List.getElem?_eq_none (by rw [wipe_length]; omega)]
  · rw [wipe_get hi]
theorem wipeS_len (e : List (Option D)) : ∀ vs, (wipeS e vs).length = e.length
  | [] => rfl
  | v :: vs => by
    unfold wipeS
    rw [List.length_set, wipeS_len e vs]
theorem wipeS_get {e : List (Option D)} {i : Nat} : ∀ {vs : List Nat}, i ∉ vs → (wipeS e vs)[i]? = e[i]?
  | [], _ => rfl
  | v :: vs, h => by
    unfold wipeS
    rw [List.getElem?_set_ne fun z => h (by rw [z]; exact List.mem_cons_self ..)]
    exact wipeS_get fun z => h (List.mem_cons_of_mem _ z)
theorem wipeS_in {e : List (Option D)} {i : Nat} : ∀ {vs : List Nat}, i ∈ vs → ((wipeS e vs)[i]?).getD none = none
  | [], h => by cases h
  | v :: vs, h => by
    unfold wipeS
    by_cases hv : v = i
    · subst hv
      by_cases hl : v < (wipeS e vs).length
      · rw [List.getElem?_set_self hl]
        rfl
      · rw [List.getElem?_eq_none (by rw [List.length_set]; omega)]
        rfl
    · rw [List.getElem?_set_ne hv]
      exact wipeS_in ((List.mem_cons.mp h).resolve_left fun z => hv z.symm)
theorem back_len (e1 : List (Option D)) : ∀ (vs : List Nat) (e : List (Option D)), (backS e1 vs e).length = e.length
  | [], e => rfl
  | v :: vs, e => by
    unfold backS
    rw [List.length_set, back_len e1 vs e]
theorem back_out (e1 : List (Option D)) {i : Nat} : ∀ (vs : List Nat) (e : List (Option D)), i ∉ vs → (backS e1 vs e)[i]? = e[i]?
  | [], e, _ => rfl
  | v :: vs, e, h => by
    unfold backS
    rw [List.getElem?_set_ne fun z => h (by rw [z]; exact List.mem_cons_self ..)]
    exact back_out e1 vs e fun z => h (List.mem_cons_of_mem _ z)
theorem back_in (e1 : List (Option D)) {i : Nat} : ∀ (vs : List Nat) (e : List (Option D)), i ∈ vs → i < e.length → (backS e1 vs e)[i]? = some (e1[i]?.getD none)
  | [], e, h, _ => by cases h
  | v :: vs, e, h, hl => by
    unfold backS
    by_cases hv : v = i
    · subst hv
      rw [List.getElem?_set_self (by rw [back_len]; exact hl)]
    · rw [List.getElem?_set_ne hv]
      exact back_in e1 vs e ((List.mem_cons.mp h).resolve_left fun z => hv z.symm) hl
def Bs.free (b : Bs) (vs : List Nat) : Bs := ⟨b.G, b.H, fun y => match y with
  | .s i => if i ∈ vs then [] else b.o (.s i)
  | .m n => b.o (.m n)⟩
theorem free_sub {vs : List Nat} {y : Ix} {a : Addr} (h : a ∈ (b.free vs).o y) : a ∈ b.o y ∧ ∀ i, y = .s i → i ∉ vs := by
  cases y with
  | s i =>
    have h' : a ∈ (if i ∈ vs then [] else b.o (.s i)) := h
    split at h'
    · cases h'
    · exact ⟨h', fun j e => by cases e; assumption⟩
  | m n => exact ⟨h, fun j e => nomatch e⟩
theorem Gr.free {s : Bool} {vs : List Nat} : Gr s b (b.free vs) := ⟨.refl _, fun _ _ h _ => h, fun _ h => .inl h, fun a ⟨y, h⟩ => .inl ⟨y, (free_sub h).1⟩, fun _ n a h => .inl ⟨n, h⟩, fun _ h => h⟩
theorem Sat.wipe (S : Sat w b σ e) (vs : List Nat) : Sat w (b.free vs) (L2.wipe σ vs) (wipeE e vs) := by
  refine ⟨S.ex, by show (wipeS e.sl vs).length = _; rw [wipeS_len, wipe_length]; exact S.le, S.lm, fun y d h => ?_, fun y h => ?_, fun y z a h1 h2 => S.ap y z a (free_sub h1).1 (free_sub h2).1, fun y => ?_, fun y a h => S.fo y a (free_sub h).1⟩
  · cases y with
    | s i =>
      have h' : ((wipeS e.sl vs)[i]?).getD none = some d := h
      by_cases hi : i ∈ vs
      · rw [wipeS_in hi] at h'
        cases h'
      · rw [wipeS_get hi] at h'
        obtain ⟨v, k1, k2⟩ := S.sl (.s i) d h'
        refine ⟨v, ?_, ?_⟩
        · show ((L2.wipe σ vs)[i]?).getD none = some v
          rw [wipe_get hi]
          exact k1
        · have : (b.free vs).o (.s i) = b.o (.s i) := if_neg hi
          rw [this]
          exact k2
    | m n => exact S.sl (.m n) d h
  · cases y with
    | s i =>
      show (if i ∈ vs then [] else b.o (.s i)) = []
      split
      · rfl
      · rename_i hi
        have h' : ((wipeS e.sl vs)[i]?).getD none = none := h
        rw [wipeS_get hi] at h'
        exact S.em (.s i) h'
    | m n => exact S.em (.m n) h
  · cases y with
    | s i =>
      show (if i ∈ vs then [] else b.o (.s i)).Nodup
      split
      · exact List.nodup_nil
      · exact S.nd _
    | m n => exact S.nd (.m n)
theorem clear_at {vs : List Nat} (h : clear e vs = true) {i : Nat} (hi : i ∈ vs) {d : D} (hd : e.sl[i]?.getD none = some d) : isF d = true := by
  have := List.all_eq_true.mp h i hi
  cases q : e.sl[i]? with
  | none => rw [q] at hd; cases hd
  | some o =>
    rw [q] at hd this
    have : o = some d := hd
    subst this
    assumption
theorem Sat.back {s : Bool} {b1 : Bs} {e1 : En} {vs : List Nat} (S1 : Sat w b1 σ e1) (hc : clear e1 vs = true) (g : Gr s b1 b) (S : Sat w b (L2.wipe σ vs) e) : Sat w (b.free vs) σ (Vm.back e1 vs e) := by
  refine ⟨S.ex, by show (backS e1.sl vs e.sl).length = _; rw [back_len]; rw [S.le, wipe_length], S.lm, fun y d h => ?_, fun y h => ?_, fun y z a h1 h2 => S.ap y z a (free_sub h1).1 (free_sub h2).1, fun y => ?_, fun y a h => S.fo y a (free_sub h).1⟩
  · cases y with
    | s i =>
      have h' : ((backS e1.sl vs e.sl)[i]?).getD none = some d := h
      have hil : i < e.sl.length := by
        cases q : (backS e1.sl vs e.sl)[i]? with
        | none => rw [q] at h'; cases h'
        | some _ =>
          have := (List.getElem?_eq_some_iff.mp q).1
          rw [back_len] at this
          exact this
      by_cases hi : i ∈ vs
      · rw [back_in e1.sl vs e.sl hi hil] at h'
        have h2 : e1.sl[i]?.getD none = some d := h'
        obtain ⟨v, k1, k2⟩ := S1.sl (.s i) d h2
        have hf := clear_at hc hi h2
        refine ⟨v, k1, ?_⟩
        have : (b.free vs).o (.s i) = [] := if_pos hi
        rw [this]
        exact (((own_fz hf).mp k2).1.mono g.g).own
      · rw [back_out e1.sl vs e.sl hi] at h'
        obtain ⟨v, k1, k2⟩ := S.sl (.s i) d h'
        refine ⟨v, ?_, ?_⟩
        · have k1' : ((L2.wipe σ vs)[i]?).getD none = some v := k1
          rw [wipe_get hi] at k1'
          exact k1'
        · have : (b.free vs).o (.s i) = b.o (.s i) := if_neg hi
          rw [this]
          exact k2
    | m n => exact S.sl (.m n) d h
  · cases y with
    | s i =>
      show (if i ∈ vs then [] else b.o (.s i)) = []
      split
      · rfl
      · rename_i hi
        have h' : ((backS e1.sl vs e.sl)[i]?).getD none = none := h
        rw [back_out e1.sl vs e.sl hi] at h'
        exact S.em (.s i) h'
    | m n => exact S.em (.m n) h
  · cases y with
    | s i =>
      show (if i ∈ vs then [] else b.o (.s i)).Nodup
      split
      · exact List.nodup_nil
      · exact S.nd _
    | m n => exact S.nd (.m n)
end
theorem _root_.L2.PTs.imp {X : Cx} {e : List Expr} {t t' : TT} (h : PTs X e t) (k : ∀ σ H Q, t' σ H Q → t σ H Q) : PTs X e t' := ⟨fun pins s σ H Q I q => h.run pins s σ H Q I (k σ H Q q)⟩
section
variable {X : Cx} {W : Wx} {s : Bool} {w : Wd} {pos : Pos} {c : Expr} {t : TM}
theorem ztNil : PTs X [] (tT w W s tYesD) := pts_nil.imp fun σ H Q ⟨b, e, he, S, h⟩ => by
  subst he
  exact h b (Gr.refl _) S
theorem ztOne (h : PT X c (tT w W s t)) : PTs X [c] (tT w W s t) := pts_one h
theorem Okx.blk (o : Okx w X) {S : Shared} {H : Hp} {scope : Scope} {cenv : Env} {fp : List Addr} : Okx w (X.blk S H scope cenv fp) := ⟨o.P, o.W, o.K, o.u, o.c, o.N⟩
end
theorem lcGo_noexc {g : GM} {tt : TM} {te : EM} {vs : List Nat} : ∀ {ds acc : List D} {e : En} {c : Nat} {x : Option D} {e' : En}, lcGo g tt te vs ds acc e ≠ .exc c x e'
  | [], acc, e, c, x, e', h => by cases h
  | d :: ds, acc, e, c, x, e', h => by
    unfold lcGo at h
    split at h
    · cases h
    · rename_i e1 _
      cases h1 : tt e1 with
      | stuck => rw [h1] at h; cases h
      | exc _ _ _ => rw [h1] at h; cases h
      | ok k e2 =>
        rw [h1] at h
        have h : (if k = true then (te e2).nox.bind fun y e3 => if acc.length < LIM then lcGo g tt te vs ds (acc ++ [y]) (wipeE e3 vs) else .stuck
          else lcGo g tt te vs ds acc (wipeE e2 vs)) = Rs.exc c x e' := h
        split at h
        · cases h2 : te e2 with
          | stuck => rw [h2] at h; cases h
          | exc _ _ _ => rw [h2] at h; cases h
          | ok y e3 =>
            rw [h2] at h
            have h : (if acc.length < LIM then lcGo g tt te vs ds (acc ++ [y]) (wipeE e3 vs) else .stuck) = Rs.exc c x e' := h
            split at h
            · exact lcGo_noexc h
            · cases h
        · exact lcGo_noexc h
structure Made (w : Wd) (b0 b : Bs) (D : Addr) (acc : List Vm.D) (av : List V) (l : List Addr) : Prop where
  H : b.H D = some (.lst av)
  F : b.G.F D = none
  n : ¬ b.own D
  z : OwnL w b.G b.H acc av l
  d : (D :: l).Nodup
  s : ∀ a ∈ l, b.G.F a = none ∧ ¬ b.own a ∧ (b0.H a = none ∨ b0.own a)
theorem Made.keep {w : Wd} {s : Bool} {b0 b b' : Bs} {D : Addr} {acc : List Vm.D} {av : List V} {l : List Addr} (M : Made w b0 b D acc av l) (g : Gr s b b') : Made w b0 b' D acc av l := by
  have nn : ∀ a, ¬ b.own a → (∃ u, b.H a = some u) → b.G.F a = none → b'.G.F a = none ∧ ¬ b'.own a := fun a no ⟨u, hu⟩ hF => by
    refine ⟨?_, fun z => (g.p a z).elim no fun z => by rw [hu] at z; cases z⟩
    cases q : b'.G.F a with
    | none => rfl
    | some u' =>
      rcases g.n a (by rw [q]; intro z; cases z) with z | z | z
      · exact absurd hF z
      · exact absurd z no
      · rw [hu] at z; cases z
  refine ⟨g.k D _ M.H (keeps_no M.n), (nn D M.n ⟨_, M.H⟩ M.F).1, (nn D M.n ⟨_, M.H⟩ M.F).2, M.z.keep g.g fun a ha u hu => g.k a u hu (keeps_no (M.s a ha).2.1), M.d, fun a ha => ?_⟩
  obtain ⟨k1, k2, k3⟩ := M.s a ha
  obtain ⟨m1, m2⟩ := nn a k2 (M.z.there a ha) k1
  exact ⟨m1, m2, k3⟩
theorem Sat.side {w : Wd} {b : Bs} {σ : St} {e : En} {p : Addr} {u : HO} (S : Sat w b σ e) (hF : b.G.F p = none) (ho : ¬ b.own p) : Sat w (b.lay p u) σ e :=
  S.grow (.refl _) (fun _ => rfl) rfl (fun a v h => by
    have ne : a ≠ p := fun z => by
      have h' : b.G.F a = some v := h
      rw [z, hF] at h'
      cases h'
    exact (upd_ne ne).trans (S.ex a v h)) (fun a v h1 h2 => by
    have ne : a ≠ p := fun z => ho (z ▸ h1)
    exact (upd_ne ne).trans h2) fun a h => (S.there h).1
section
variable {W : Wx} {s : Bool} {w : Wd} {it : LM} {g : GM} {tt : TM} {te : EM} {vs : List Nat}
theorem lc_v {σ : St} {H : Hp} {Q : VK} (h : tV w W s (eLc it g tt te vs) σ H Q) : tLc (tI w W s it) (tG w vs g) (tT w W0 s tt) (tV w W0 s te) vs σ H Q := by
  obtain ⟨b0, e0, rfl, S0, h⟩ := h
  refine ⟨b0, e0, rfl, S0, (PR.bind h).mono fun ds b1 e1 g1 S1 h1 J hJ D hD => ?_⟩
  obtain ⟨G, Y, wk, hG, hY⟩ := hJ.ex
  split at h1
  · exact h1.elim
  rename_i hc
  have hc : clear e1 vs = true := by simpa using hc
  cases hl : lcGo g tt te vs ds [] (wipeE e1 vs) with
  | stuck =>
    rw [hl] at h1
    exact h1.elim
  | exc c x e' => exact absurd hl lcGo_noexc
  | ok rs e2 =>
    rw [hl] at h1
    have h1 : PR w W s σ b1 (lift (mkLst rs) (Vm.back e1 vs e2)) fun d b' _ => ∀ v, Tmp w b0 b' d v → Q v b'.H := h1
    have hDF : b1.G.F D = none := S1.fresh_F hD
    have hDo := S1.fresh_own hD
    have nofree : ∀ {b : Bs} {a : Addr}, ¬ b.own a → ¬ (b.free vs).own a := fun h ⟨y, hy⟩ => h ⟨y, (free_sub hy).1⟩
    refine lc_it wk (fun i H => ∃ b' e' acc av l, H = b'.H ∧ Gr s b1 b' ∧ Sat w b' (wipe σ vs) e' ∧ Made w b1 b' D acc av l ∧ acc.length ≤ LIM ∧ lcGo g tt te vs (ds.drop i) acc e' = .ok rs e2) ?_ ?_ ?_ ?_
    · have S2 := (S1.wipe vs).side (u := .lst []) hDF (nofree hDo)
      exact ⟨(b1.free vs).lay D (.lst []), wipeE e1 vs, [], [], [], rfl, Gr.free.trans (Gr.lay hD), S2, ⟨upd_same, hDF, nofree hDo, ownl_nil.mpr ⟨rfl, rfl⟩, by simp, fun a ha => nomatch ha⟩, Nat.zero_le _, hl⟩
    · rintro i H _ ⟨b', e', acc, av, l, rfl, g2, S2, _⟩
      exact hG b' _ e' g2.gi S2
    · rintro i x H H' hi ⟨b', e', acc, av, l, rfl, g2, S2, M, k5, k6⟩ y
      have hd : ds[i]? = some (ds[i]'hi) := List.getElem?_eq_getElem hi
      obtain ⟨b2, rfl, g3, S3, z⟩ := hY b' _ e' i x H' _ g2.gi S2 hd y
      rw [List.drop_eq_getElem_cons hi] at k6
      unfold lcGo at k6
      cases hg : g ds[i] e' with
      | none =>
        rw [hg] at k6
        cases k6
      | some e3 =>
        rw [hg] at k6
        simp only at k6
        refine ⟨b2, e', _, e3, rfl, S3, z, hg, fun bt σ2 pt gt S4 hw => ?_⟩
        rw [← pt]
        have hw' : wipe σ2 vs = wipe σ vs := by rw [hw]; exact (wipe_idem σ vs)
        refine ⟨hw', ?_⟩
        cases ht : tt e3 with
        | stuck => rw [ht] at k6; cases k6
        | exc _ _ _ => rw [ht] at k6; cases k6
        | ok k e4 =>
          rw [ht] at k6
          refine ⟨bt, e3, rfl, S4, ?_⟩
          rw [ht]
          intro b3 g4 S5
          have g24 : Gr s b' b3 := ((g3.soft (s := s)).trans gt.soft).trans g4
          cases k with
          | false =>
            have k6 : lcGo g tt te vs (ds.drop (i + 1)) acc (wipeE e4 vs) = .ok rs e2 := k6
            have S6 := S5.wipe vs
            rw [hw'] at S6
            have gx := g24.trans (Gr.free (vs := vs))
            exact ⟨b3.free vs, wipeE e4 vs, acc, av, l, rfl, g2.trans gx, S6, M.keep gx, k5, k6⟩
          | true =>
            have k6 : ((te e4).nox.bind fun y e3 => if acc.length < LIM then lcGo g tt te vs (ds.drop (i + 1)) (acc ++ [y]) (wipeE e3 vs) else .stuck) = .ok rs e2 := k6
            cases he : te e4 with
            | stuck => rw [he] at k6; cases k6
            | exc _ _ _ => rw [he] at k6; cases k6
            | ok y5 e5 =>
              rw [he] at k6
              have k6 : (if acc.length < LIM then lcGo g tt te vs (ds.drop (i + 1)) (acc ++ [y5]) (wipeE e5 vs) else .stuck) = .ok rs e2 := k6
              split at k6
              · rename_i hlt
                refine ⟨b3, e4, rfl, S5, ?_⟩
                rw [he]
                intro b4 g5 S6 v5 t5
                have gy := g24.trans g5
                have M2 := M.keep gy
                have M3 := M.keep g24
                obtain ⟨lt, t1, t2, t3⟩ := t5
                have S7 := S6.wipe vs
                rw [hw'] at S7
                -- what the new item owns is apart from the list and the other items
                have apt : ∀ c ∈ lt, c ∉ D :: l := fun c hcl hm => by
                  have hno : ¬ b3.own c ∧ ∃ u, b3.H c = some u := by
                    rcases List.mem_cons.mp hm with rfl | hm
                    · exact ⟨M3.n, _, M3.H⟩
                    · exact ⟨(M3.s c hm).2.1, M3.z.there c hm⟩
                  obtain ⟨n1, u, hu⟩ := hno
                  rcases (t3 c hcl).2.2 with q | q
                  · rw [hu] at q; cases q
                  · exact n1 q
                have hl4 : av.length = acc.length := M2.z.length
                have nD : ∀ c, c ∈ l ++ lt → c ≠ D := fun c hcm hcd => by
                  subst hcd
                  rcases List.mem_append.mp hcm with q | q
                  · exact (List.nodup_cons.mp M2.d).1 q
                  · exact apt c q (List.mem_cons_self ..)
                have g6 : Gr s b4 (b4.free vs) := Gr.free
                refine ⟨av, M2.H, by rw [hl4]; exact Nat.lt_of_lt_of_le hlt (lim_size (Nat.le_refl _)), (b4.free vs).lay D (.lst (av ++ [v5])), wipeE e5 vs, acc ++ [y5], av ++ [v5], l ++ lt, rfl, ?_, S7.side M2.F (nofree M2.n), ⟨upd_same, M2.F, nofree M2.n, ?_, ?_, fun a ha => ?_⟩, by rw [List.length_append]; exact hlt, k6⟩
                · have gg := (g2.trans gy).trans g6
                  refine ⟨gg.g, fun a u q n => ?_, gg.n, gg.p, gg.q, fun a q => ?_⟩
                  · exact (upd_ne (ne_of_none q hD)).trans (gg.k a u q n)
                  · have q' : upd (b4.free vs).H D (.lst (av ++ [v5])) a = none := q
                    by_cases ha : a = D
                    · rw [ha]
                      exact hD
                    · rw [upd_ne ha] at q'
                      exact gg.h a q'
                · have := M2.z.append (ownl_cons.mpr ⟨v5, [], lt, [], rfl, t1, ownl_nil.mpr ⟨rfl, rfl⟩, (List.append_nil _).symm⟩)
                  exact this.keep (.refl _) fun a ha u hu => (upd_ne (nD a ha)).trans hu
                · refine List.nodup_cons.mpr ⟨fun h => nD D h rfl, List.nodup_append.mpr ⟨(List.nodup_cons.mp M2.d).2, t2, fun a ha c hc q => apt c hc (List.mem_cons_of_mem _ (q ▸ ha))⟩⟩
                · rcases List.mem_append.mp ha with q | q
                  · obtain ⟨m1, m2, m3⟩ := M2.s a q
                    exact ⟨m1, nofree m2, m3⟩
                  · obtain ⟨m1, m2, m3⟩ := t3 a q
                    refine ⟨m1, nofree m2, ?_⟩
                    rcases m3 with m3 | m3
                    · exact .inl ((g2.trans g24).h a m3)
                    · exact ((g2.trans g24).p a m3).symm
              · cases k6
    · rintro H ⟨b', e', acc, av, l, rfl, g2, S2, M, k5, k6⟩
      rw [List.drop_length] at k6
      cases k6
      have hm : mkLst rs = some (.olst rs) := if_pos k5
      rw [hm] at h1
      refine h1 (b'.free vs) (g2.trans Gr.free) (S1.back hc g2 S2) (.ref D) ⟨D :: l, own_olst.mpr ⟨D, av, l, rfl, M.H, lim_size k5, M.z, rfl⟩, M.d, fun a ha => ?_⟩
      rcases List.mem_cons.mp ha with rfl | ha
      · exact ⟨M.F, nofree M.n, .inl (g1.h _ hD)⟩
      · obtain ⟨m1, m2, m3⟩ := M.s a ha
        refine ⟨m1, nofree m2, ?_⟩
        rcases m3 with m3 | m3
        · exact .inl (g1.h a m3)
        · exact (g1.p a m3).symm
end
section
variable {X : Cx} {W : Wx} {s : Bool} {w : Wd} {pos spos py : Pos} {x elt tg iter : Expr} {ifs : List Expr} {scope : Scope} {own : List (Str × Nat)} {it : LM} {g : GM} {tt : TM} {te f : EM}
theorem oLc (own : List (Str × Nat)) (o : Okx w X) (hi : PI X tg iter (tI w W s it)) (ok : BlkOk X.N X.env.scope scope own)
    (hg : ∀ (s : Shared) (H : Hp) (C : Addr) (cl : List (Str × Addr)) (fp : List Addr), PG (X.blk s H scope (compEnvC scope cl C X.env) fp) tg (tG w (own.map (·.2)) g)) (ht : ∀ (s0 : Shared) (H : Hp) (C : Addr) (cl : List (Str × Addr)) (fp : List Addr), PTs (X.blk s0 H scope (compEnvC scope cl C X.env) fp) ifs (tT w W0 s tt))
    (he : ∀ (s0 : Shared) (H : Hp) (C : Addr) (cl : List (Str × Addr)) (fp : List Addr), PE (X.blk s0 H scope (compEnvC scope cl C X.env) fp) elt (tV w W0 s te)) (hs : ∀ x, foldedSetIterable iter X.env x = pure x := by intro _; rfl) :
    PE X (.ListComp elt [⟨tg, iter, ifs, 0⟩] scope pos) (tV w W s (eLc it g tt te (own.map (·.2)))) := (pe_lc (own := own) o.c o.N hi ok hg ht he hs).imp fun _ _ _ h => lc_v h
end
end Vm

set_option maxHeartbeats 1000000
namespace Vm
open PySem L2 PyProof.Rows
inductive Ro where
  | ok (d : D) (mu : Mu) | exc (c : Nat) (x : Option D) (mu : Mu) | stuck
abbrev FV := Mu → List D → Ro
def spF (w : Wd) (f : FV) : Sp := fun vs H Q _ => ∃ b mu ds, H = b.H ∧ Sat w b [] ⟨[], mu⟩ ∧ FzL w b.G ds vs ∧ match f mu ds with
  | .ok d mu' => ∀ v b', Gr false b b' → Sat w b' [] ⟨[], mu'⟩ → Tmp w b b' d v → Q v b'.H
  | _ => False
def runB (n : Nat) (bd : SM) : FV := fun mu ds => match bd ⟨ds.map some ++ List.replicate n none, mu⟩ with
  | .rt d e => .ok d e.mu
  | .nx e => .ok .non e.mu
  | .exc c x e => .exc c x e.mu
  | _ => .stuck
@[irreducible] def runF (m n : Nat) (bd : SM) : FV := fun mu ds => if ds.length = m then runB n bd mu ds else .stuck
section
variable {w : Wd} {b : Bs} {σ : L2.St} {e : En}
def Bs.top (b : Bs) : Bs := ⟨b.G, b.H, fun y => match y with
  | .s _ => []
  | .m n => b.o (.m n)⟩
theorem top_sub {y : Ix} {a : Addr} (h : a ∈ b.top.o y) : a ∈ b.o y ∧ ∃ n, y = .m n := by
  cases y with
  | s i => cases h
  | m n => exact ⟨h, n, rfl⟩
theorem Gr.top {s : Bool} : Gr s b b.top := ⟨.refl _, fun _ _ h _ => h, fun _ h => .inl h, fun a ⟨y, h⟩ => .inl ⟨y, (top_sub h).1⟩, fun _ n a h => .inl ⟨n, h⟩, fun _ h => h⟩
theorem Sat.top (S : Sat w b σ e) : Sat w b.top [] ⟨[], e.mu⟩ := by
  refine ⟨S.ex, rfl, S.lm, fun y d h => ?_, fun y h => ?_, fun y z a h1 h2 => S.ap y z a (top_sub h1).1 (top_sub h2).1, fun y => ?_, fun y a h => S.fo y a (top_sub h).1⟩
  · cases y with
    | s i =>
      have h' : (([] : List (Option D))[i]?).getD none = some d := h
      simp at h'
    | m n => exact S.sl (.m n) d h
  · cases y with
    | s i => rfl
    | m n => exact S.em (.m n) h
  · cases y with
    | s i => exact List.nodup_nil
    | m n => exact S.nd (.m n)
theorem Sat.start {mu : Mu} {vs : List V} {ds : List D} {n : Nat} (S : Sat w b [] ⟨[], mu⟩) (z : FzL w b.G ds vs) : Sat w b (vs.map some ++ List.replicate n none) ⟨ds.map some ++ List.replicate n none, mu⟩ := by
  have em : ∀ i, b.o (.s i) = [] := fun i => S.em (.s i) (by show (([] : List (Option D))[i]?).getD none = none; simp)
  refine ⟨S.ex, by simp [z.length], S.lm, fun y d h => ?_, fun y h => ?_, S.ap, S.nd, S.fo⟩
  · cases y with
    | s i =>
      have h' : ((ds.map some ++ List.replicate n none)[i]?).getD none = some d := h
      have hi : ds[i]? = some d := by
        by_cases hlt : i < ds.length
        · rw [List.getElem?_append_left (by simpa using hlt), List.getElem?_map] at h'
          cases q : ds[i]? with
          | none => rw [q] at h'; simp at h'
          | some d' => rw [q] at h'; simpa using h'
        · rw [List.getElem?_append_right (by simp; omega)] at h'
          cases q : (List.replicate n (none : Option D))[i - (ds.map some).length]? with
          | none => rw [q] at h'; simp at h'
          | some o =>
            rw [q] at h'
            have := List.getElem?_eq_some_iff.mp q
            obtain ⟨_, q2⟩ := this
            simp at q2
            rw [← q2] at h'
            cases h'
      obtain ⟨v, hv, zv⟩ := z.get hi
      refine ⟨v, ?_, ?_⟩
      · show ((vs.map some ++ List.replicate n none)[i]?).getD none = some v
        have hlt : i < vs.length := (List.getElem?_eq_some_iff.mp hv).1
        rw [List.getElem?_append_left (by simpa using hlt), List.getElem?_map, hv]
        rfl
      · rw [em i]
        exact zv.own
    | m k => exact S.sl (.m k) d h
  · cases y with
    | s i => exact em i
    | m k => exact S.em (.m k) h
end
theorem fn_v {P : Program} {w : World} {W : Wd} {K : PySem.W.Frag} {mg : Str → Option Value} {base : Heap} {x qual : Str} {params : Arguments} {body : List Stmt} {scope : Scope} {dvs : List V} {kws : List (Str × V)} {f : Addr} {fd : FuncData}
    {N ps : List Str} {k m n : Nat} {bd : SM} (F : FunD K x qual params body scope dvs kws f fd) (S : FnScope N ps scope) (hps : ps.length = m) (hls : N.length - ps.length = n)
    (hb : ∀ (cdv : Value) (A : Around) (outer : List Env) (s : Shared) (H : Hp) (vs : List V) (E : XK), Room k (A.deeper (envOfC qual scope s.heap.objs.size f cdv)) →
      PSs (cxOf CX0 P w K mg base N qual scope f cdv A outer s H E).nox body (tS W W0 bd)) :
    FnOk P w K mg base CX0 (k + 1) f fd ps (spF W (runF m n bd)) := by
  have len : ∀ vs H Q E, spF W (runF m n bd) vs H Q E → vs.length = m := fun vs H Q E ⟨b, mu, ds, _, S0, z, h⟩ => by
    rw [z.length]
    unfold runF at h
    by_cases hl : ds.length = m
    · exact hl
    · rw [if_neg hl] at h
      exact h.elim
  refine F.ok S (fun vs H Q E h => by rw [len vs H Q E h, hps]) fun cdv A outer s H vs Q E hr h => ⟨_, (hb cdv A outer s H vs E hr).nox, ?_⟩
  have hl := len vs H Q E h
  obtain ⟨b, mu, ds, rfl, S0, z, h⟩ := h
  have e1 : L2.start N vs = vs.map some ++ List.replicate n none := by
    unfold L2.start
    rw [hl, ← hps, hls]
  rw [e1]
  refine ⟨b, _, rfl, S0.start z, ?_⟩
  unfold runF at h
  rw [if_pos (by rw [← z.length]; exact hl)] at h
  unfold runB at h
  cases hbd : bd ⟨ds.map some ++ List.replicate n none, mu⟩ with
  | rt d' e' =>
    rw [hbd] at h
    exact fun b' σ' v g S' t => h v b'.top (g.trans Gr.top) S'.top (t.stay (Gr.top (s := false)))
  | nx e' =>
    rw [hbd] at h
    exact fun b' σ' g S' => h .non b'.top (g.trans Gr.top) S'.top (Fz.tmp (fz_non.mpr rfl))
  | bk e' => rw [hbd] at h; exact h.elim
  | ct e' => rw [hbd] at h; exact h.elim
  | exc _ _ e' => rw [hbd] at h; exact h.elim
  | stuck => rw [hbd] at h; exact h.elim

def callF (F : FV) (ds : List D) (e : En) : Rs D := match F e.mu ds with
  | .ok d mu => .ok d ⟨e.sl, mu⟩
  | _ => .stuck
def eCall (F : FV) (ar : LM) : EM := fun e => (ar e).bind fun ds e1 => callF F ds e1
def Bs.aft (b b' : Bs) : Bs := ⟨b'.G, b'.H, fun y => match y with
  | .s i => b.o (.s i)
  | .m n => b'.o (.m n)⟩
section
variable {w : Wd} {W : Wx} {s : Bool} {σ : L2.St} {b b' b0 : Bs} {e : En} {mu : Mu} {d : D} {v : V}
theorem top_own {a : Addr} (h : b.top.own a) : ∃ n, a ∈ b.o (.m n) := by
  obtain ⟨y, hy⟩ := h
  obtain ⟨h1, n, rfl⟩ := top_sub hy
  exact ⟨n, h1⟩
theorem aft_gr (g : Gr false b.top b') : Gr s b (b.aft b') := by
  have key : ∀ a, b.top.own a → b.own a := fun a h => let ⟨n, h⟩ := top_own h; ⟨_, h⟩
  refine Gr.soft ⟨g.g, fun a u h n => g.k a u h (keeps_no fun z => ?_), fun a h => (g.n a h).imp id fun z => z.imp (key a) id, fun a ⟨y, h⟩ => ?_, fun _ n a h => ?_, g.h⟩
  · obtain ⟨m, z⟩ := top_own z
    have n' : ∀ n, a ∉ b.o (.m n) := by simpa [keeps] using n
    exact n' m z
  · cases y with
    | s i => exact .inl ⟨.s i, h⟩
    | m n => exact (g.p a ⟨.m n, h⟩).imp (key a) id
  · rcases g.p a ⟨.m n, h⟩ with z | z
    · exact .inl (top_own z)
    · exact .inr z
theorem Sat.aft (S : Sat w b σ e) (g : Gr false b.top b') (S' : Sat w b' [] ⟨[], mu⟩) : Sat w (b.aft b') σ ⟨e.sl, mu⟩ := by
  -- the caller's slots stand apart from what the callee could reach
  have apart : ∀ i a, a ∈ b.o (.s i) → ¬ b.top.own a ∧ ∃ u, b.H a = some u := fun i a h => by
    refine ⟨fun z => ?_, (S.there ⟨_, h⟩).2⟩
    obtain ⟨n, z⟩ := top_own z
    cases S.ap _ _ a h z
  have noc : ∀ i a n, a ∈ b.o (.s i) → a ∉ b'.o (.m n) := fun i a n h z => by
    obtain ⟨h1, u, hu⟩ := apart i a h
    rcases g.p a ⟨.m n, z⟩ with q | q
    · exact h1 q
    · have q' : b.H a = none := q
      rw [hu] at q'
      cases q'
  refine ⟨S'.ex, S.le, S'.lm, fun y d h => ?_, fun y h => ?_, fun y z a h1 h2 => ?_, fun y => ?_, fun y a h => ?_⟩
  · cases y with
    | s i =>
      obtain ⟨v, k1, k2⟩ := S.sl (.s i) d h
      exact ⟨v, k1, k2.keep g.g fun a ha u hu => g.k a u hu (keeps_no (apart i a ha).1)⟩
    | m n => exact S'.sl (.m n) d h
  · cases y with
    | s i => exact S.em (.s i) h
    | m n => exact S'.em (.m n) h
  · cases y with
    | s i =>
      cases z with
      | s j => exact S.ap _ _ a h1 h2
      | m n => exact absurd h2 (noc i a n h1)
    | m n =>
      cases z with
      | s j => exact absurd h1 (noc j a n h2)
      | m k => exact S'.ap _ _ a h1 h2
  · cases y with
    | s i => exact S.nd (.s i)
    | m n => exact S'.nd (.m n)
  · cases y with
    | s i =>
      obtain ⟨h1, u, hu⟩ := apart i a h
      cases q : b'.G.F a with
      | none => exact q
      | some u' =>
        rcases g.n a (by rw [q]; intro z; cases z) with z | z | z
        · exact absurd (S.fo _ a h) z
        · exact absurd z h1
        · have z' : b.H a = none := z
          rw [hu] at z'
          cases z'
    | m n => exact S'.fo (.m n) a h
theorem Tmp.aft (S : Sat w b σ e) (t : Tmp w b.top b' d v) : Tmp w b (b.aft b') d v := by
  obtain ⟨l, t1, t2, t3⟩ := t
  refine ⟨l, t1, t2, fun a ha => ?_⟩
  obtain ⟨k1, k2, k3⟩ := t3 a ha
  refine ⟨k1, fun ⟨y, hy⟩ => ?_, k3.imp id fun z => let ⟨n, z⟩ := top_own z; ⟨_, z⟩⟩
  cases y with
  | s i =>
    have hy' : a ∈ b.o (.s i) := hy
    rcases k3 with z | z
    · obtain ⟨_, u, hu⟩ := S.there ⟨_, hy'⟩
      have z' : b.H a = none := z
      rw [hu] at z'
      cases z'
    · obtain ⟨n, z⟩ := top_own z
      cases S.ap _ _ a hy' z
  | m n => exact k2 ⟨.m n, hy⟩
theorem call_sp {ds : List D} {vs : List V} {F : FV} {Q : VK} {E : XK} (S : Sat w b σ e) (g0 : Gr s b0 b) (z : FzL w b.G ds vs) (h : PR w W s σ b (callF F ds e) fun d b' _ => ∀ v, Tmp w b0 b' d v → Q v b'.H) : spF w F vs b.H Q E := by
  refine ⟨b.top, e.mu, ds, rfl, S.top, z, ?_⟩
  unfold callF at h
  cases hf : F e.mu ds with
  | ok d mu' =>
    rw [hf] at h
    exact fun v b' g S' t => h (b.aft b') (aft_gr g) (S.aft g S') v ((Tmp.aft S t).back g0)
  | exc c x mu' =>
    rw [hf] at h
    exact h.elim
  | stuck => rw [hf] at h; exact h.elim
end
section
variable {X : Cx} {W : Wx} {s : Bool} {w : Wd} {pos p apos : Pos} {x m : Str} {a o : Expr} {es : List Expr} {F : FV} {ar : LM} {f : Addr} {fd : FuncData} {ps : List Str} {k : Nat}
theorem tcall_v {σ : L2.St} {H : Hp} {Q : VK} (h : tV w W s (eCall F ar) σ H Q) : tCall (spF w F) [] E0 (tA w W s ar) σ H Q := by
  obtain ⟨b, e, rfl, S, h⟩ := h
  refine ⟨b, e, rfl, S, (PR.bind h).mono fun ds b1 e1 g1 S1 h1 vs zs => ?_⟩
  show spF w F (vs ++ []) b1.H Q E0
  rw [List.append_nil]
  exact call_sp S1 g1 zs h1
theorem u65 {A : Around} {k : Nat} (r : Room k A) : A.units + 65 < cLine := by
  have := r.un
  omega
structure Fn (P : Program) (w : World) (K : PySem.W.Frag) (mg : Str → Option Value) (base : Heap) (k : Nat) (x : Str) (sp : Sp) : Prop where
  ex : ∃ (f : Addr) (fd : FuncData) (ps : List Str), FnOk P w K mg base CX0 k f fd ps sp ∧ mg x = some (.ref f) ∧ PySem.W.keepIn K (.ref f) = true ∧ Binds K fd ps []
theorem vCall (F0 : Fn X.prog X.w X.K X.mg X.base k x (spF w F)) (hr : Room k X.A) (ha : PA X (a :: es) (tA w W s ar)) (hg : Gl X x := by rfl) (hdb : (x == ("__debug__" : Str)) = false := by decide)
    (he : starEach (a :: es) X.env = (false, eval a X.env) :: starEach es X.env := by rfl) (hpl : (backTo pos (starEach es X.env)).any (·.1) = false := by rfl) : PE X (.Call (.Name x p) (a :: es) [] pos) (tV w W s (eCall F ar)) := by
  obtain ⟨f, fd, ps, h1, h2, h3, h4⟩ := F0.ex
  exact (pe_call h1 hr hg h2 h3 h4 .nil pass0 ha hdb he hpl).imp fun _ _ _ h => tcall_v h
end
def eFld (c j : Nat) (f : EM) : EM := fun e => (f e).bind fun d e1 => match d with
  | .ins c' ds => if c' = c then lift ds[j]? e1 else .stuck
  | _ => .stuck
section
variable {X : Cx} {W : Wx} {s : Bool} {w : Wd} {pos p apos : Pos} {x c : Expr} {es : List Expr} {f : EM}
structure Mt (P : Program) (w : World) (K : PySem.W.Frag) (mg : Str → Option Value) (base : Heap) (k : Nat) (C : Addr) (m : Str) (sp : Sp) : Prop where
  ex : ∃ (f : Addr) (fd : FuncData) (ps : List Str), Cls K C ∧ Meth K C m f ∧ FnOk P w K mg base CX0 k f fd ps sp ∧ Binds K fd ps []
def eMeth (c : Nat) (F : FV) (fo : EM) (ar : LM) : EM := fun e => (fo e).bind fun d e1 => match d with
  | .ins c' ds => if c' = c then (ar e1).bind fun as e2 => callF F (.ins c' ds :: as) e2 else .stuck
  | _ => .stuck
section
variable {F : FV} {ar : LM} {m : Str} {k : Nat} {a ob : Expr} {fo : EM} {c : Nat}
end
end
structure Def1 (K : PySem.W.Frag) (mg : Str → Option Value) (x qual : Str) (st : Stmt) : Prop where
  ex : ∃ f fd, mg x = some (.ref f) ∧ FunD K x qual (defArgs st) (defBody st) (defScope st) [] [] f fd
theorem Def1.fn {P : Program} {w : World} {K : PySem.W.Frag} {mg : Str → Option Value} {base : Heap} {x qual : Str} {st : Stmt} {k : Nat} {sp : Sp} {ps : List Str} (D : Def1 K mg x qual st) (hb : ∀ f fd, FunD K x qual (defArgs st) (defBody st) (defScope st) [] [] f fd → Binds K fd ps [])
    (h : ∀ f fd, FunD K x qual (defArgs st) (defBody st) (defScope st) [] [] f fd → FnOk P w K mg base CX0 k f fd ps sp) : Fn P w K mg base k x sp := by
  obtain ⟨f, fd, h1, h2⟩ := D.ex
  exact ⟨f, fd, ps, h f fd h2, h1, h2.kp, hb f fd h2⟩
structure IntC (mg : Str → Option Value) (x : Str) (i : Int) : Prop where
  ex : ∃ t, mg x = some (.int i t)
structure StrC (mg : Str → Option Value) (x : Str) (i : Str) : Prop where
  ex : ∃ t, mg x = some (.str i t)
structure Met1 (K : PySem.W.Frag) (C : Addr) (x qual : Str) (st : Stmt) : Prop where
  ex : ∃ f fd, Cls K C ∧ Meth K C x f ∧ FunD K x qual (defArgs st) (defBody st) (defScope st) [] [] f fd
theorem Met1.fn {P : Program} {w : World} {K : PySem.W.Frag} {mg : Str → Option Value} {base : Heap} {C : Addr} {x qual : Str} {st : Stmt} {k : Nat} {sp : Sp} {ps : List Str} (D : Met1 K C x qual st) (hb : ∀ f fd, FunD K x qual (defArgs st) (defBody st) (defScope st) [] [] f fd → Binds K fd ps [])
    (h : ∀ f fd, FunD K x qual (defArgs st) (defBody st) (defScope st) [] [] f fd → FnOk P w K mg base CX0 k f fd ps sp) : Mt P w K mg base k C x sp := by
  obtain ⟨f, fd, h1, h2, h3⟩ := D.ex
  exact ⟨f, fd, ps, h1, h2, h f fd h3, hb f fd h3⟩
end Vm

set_option maxHeartbeats 1000000
namespace Vm
open PySem L2
def CPowW (i j : Int) : Prop := 0 ≤ j ∧ (Builtin.Int.intBits i : Int) * j ≤ 2 ^ 27
theorem op_powW {X : Cx} : OpR X (binaryOp .Pow) (rI CPowW fun i j => .int (i ^ j.toNat)) := opI fun _ _ _ _ _ _ _ hc q => PyProof.Rows.pow_int hc.1 hc.2 q
def gPow (i j : Int) : Option Int := if 0 ≤ j ∧ (Builtin.Int.intBits i : Int) * j ≤ 2 ^ 27 then some (i ^ j.toNat) else none
def dPow := dInt gPow
theorem ob_pow {w : Wd} : OpB w (rI CPowW fun i j => .int (i ^ j.toNat)) dPow := ob_int fun i j k h => by
  unfold gPow at h
  split at h
  · cases h
    exact ⟨by assumption, rfl⟩
  · cases h
def dBitLen : D → Option D
  | .int i => some (.int (Builtin.Int.intBits i : Nat))
  | _ => none
section
variable {X : Cx} {W : Wx} {s : Bool} {w : Wd} {pos p apos : Pos} {x c : Expr} {es : List Expr} {f fa fb : EM}
theorem zBitLen (o : Okx w X) (h : PE X x (tZ w W s f)) (hbase : attributeBase x "bit_length" X.env (eval x X.env) = eval x X.env := by rfl) (hline : (apos.endLine == pos.line) = true := by rfl) : PE X (.Call (.Attribute x "bit_length" apos) [] [] pos) (tZ w W s (un dBitLen f)) := (pe_bits h hbase hline).imp fun σ H Q ⟨b, e, he, S, h⟩ => by
  subst he
  refine ⟨b, e, rfl, S, (PR.bind h).mono fun x b1 e1 g1 S1 h1 vx zx => ?_⟩
  obtain ⟨d, hd, R⟩ := PR.ret h1
  cases x <;> try cases hd
  cases fz_int.mp zx
  exact ⟨_, rfl, R.now S1 (fz_int.mpr rfl)⟩
def eStar2 (fa fb : EM) : EM := fun e => (fa e).bind fun x e1 => (fb e1).bind fun y e2 => match fitems? y with
  | some ys => lift (mkTup (x :: ys)) e2
  | none => .stuck
def firstEq (x : D) : List D → Nat → Option Nat
  | [], _ => none
  | y :: ys, n => if deq y x = true then some n else firstEq x ys (n + 1)
end
def strs? : List D → Option (List Str)
  | [] => some []
  | .str x :: r => (strs? r).map (x :: ·)
  | _ :: _ => none
def binG (ok : D → Bool) (g : D → D → Option D) (fa fb : EM) : EM := fun e => (fa e).bind fun x e1 => if ok x = true then (fb e1).bind fun y e2 => lift (g x y) e2 else .stuck
def isTux : D → Bool
  | .tux _ => true
  | _ => false
def isLst : D → Bool
  | .lst _ => true
  | _ => false
def dIndexT : D → D → Option D
  | .tux ds, .str z => match strs? ds with
    | some _ => (firstEq (.str z) ds 0).map fun j => .int (j : Nat)
    | none => none
  | _, _ => none
def dIndexL : D → D → Option D
  | .lst ds, .str z => match strs? ds with
    | some _ => (firstEq (.str z) ds 0).map fun j => .int (j : Nat)
    | none => none
  | _, _ => none
section
variable {X : Cx} {W : Wx} {s : Bool} {w : Wd} {pos p apos : Pos} {x c : Expr} {es : List Expr} {f fa fb : EM}
def tBMx (T : String) (K : PySem.W.Frag) (r : V → List V → Hp → VK → Prop) (to : TE) (t : TA) : TE := fun σ H Q => to σ H fun x H1 => (tyV K T x H1 ∨ (T = "tuple" ∧ ∃ a o vs, x = .ref a ∧ H1 a = some (.frz o (.tup vs)) ∧ o.dict = none)) ∧ t σ H1 fun xs H2 => r x xs H2 Q
end
def eLstRg (f : EM) : EM := fun e => (f e).bind fun d e1 => match d with
  | .int n => if 0 ≤ n ∧ n ≤ 1000000 then .ok (.olst (rngD n)) e1 else .stuck
  | _ => .stuck
section
variable {X : Cx} {W : Wx} {s : Bool} {w : Wd} {pos p p2 pos2 : Pos} {x : Expr} {f : EM}
end
end Vm

set_option maxHeartbeats 1000000
namespace Vm
section
open PySem L2 PySem.Spec PyProof.Rows
theorem tuple_mul1 (l : Addr) (items : Array Value) (n : Nat) (dd : Option Addr) (sl : Array (Option Value)) (u : Tok) :
    Meets (Builtin.«tuple.__mul__» ⟨[.ref l, .int 1 u], []⟩) (fun _ R s => s.heap.get? l = some { cls := .type "tuple", dict := dd, data := .seq items n, slots := sl } ∧
      R (.ok (.ret (Value.ref l))) s) :=
  .of_wp fun prog w A R s h => by
    obtain ⟨hp, g, d, tk, os⟩ := s
    obtain ⟨hl, h⟩ := h
    have f1 := AutoSeq1.idx_int
    wp_walk using wpAny_loadPart' hl
    exact ⟨_, rfl, h⟩
def rRep1 (K : PySem.W.Frag) : R2 := fun x y H Q => ∃ l xs, x = .ref l ∧ y = .int 1 ∧ SqT K H l xs ∧ Q (.ref l) H
theorem op_rep1 {X : Cx} : OpR X (binaryOp .Mult) (rRep1 X.K) := by
  intro pins s σ H x y v u Q I rx ry h
  obtain ⟨l, xs, rfl, rfl, hT, q⟩ := h
  cases rx
  obtain ⟨t, rfl⟩ := ry
  obtain ⟨its, r, ⟨⟨cls, dd, data, sl⟩, ho, hc, n, hd⟩, hs⟩ := I.tuple hT
  simp only at hc hd
  subst hc hd
  refine wpAny_binaryOp_repeat_ref (T := "tuple") (U := "int") (by decide) ⟨_, ho, rfl⟩ (fun s' => typeIs_int s' 1 t) noFill_tuple_mul F.fills_int_mul F.slot_int_rmul repeat_tuple F.slot_int_index.lookup
    (call_meets F.slot_int_rmul (typeIs_int s 1 t) F.entry_int_rmul (F.args_int_rmul_2 _ _) (int_rmul_tuple 1 t l its.toArray n dd sl)
      ⟨ho, rfl, ⟨_, ho, rfl⟩, call_meets F.slot_tuple_mul ⟨_, ho, rfl⟩ F.entry_tuple_mul (F.args_tuple_mul_2 _ _) (tuple_mul1 l its.toArray n dd sl t) ⟨ho, ?_⟩⟩)
  exact ⟨.ref l, H, I, rfl, q⟩
def dRepT : D → D → Option D
  | .tup xs, .int k => if k = 1 then some (.tup xs) else if 2 ≤ k ∧ k ≤ 1000 ∧ xs.length ≤ 1000 ∧ xs.length ≠ 0 then some (.tup (List.replicate k.toNat xs).flatten) else none
  | _, _ => none
def rRepA (K : PySem.W.Frag) : R2 := fun x y H Q => rRep1 K x y H Q ∨ rRepT K x y H Q
theorem r_repT {w : Wd} {X : Cx} (o : Okx w X) : OpR X (binaryOp .Mult) (rRepA w.K) := by
  rw [← o.K]
  exact op_rep1.or op_repT
theorem ob_repT {w : Wd} : OpB w (rRepA w.K) dRepT := by
  intro s σ b e x y d vx vy Q S zx zy hg R
  cases x <;> try cases hg
  cases y <;> try cases hg
  rename_i xs k
  have hg' : (if k = 1 then some (D.tup xs) else if 2 ≤ k ∧ k ≤ 1000 ∧ xs.length ≤ 1000 ∧ xs.length ≠ 0 then some (.tup (List.replicate k.toNat xs).flatten) else none) = some d := hg
  obtain ⟨a, vs, rfl, h1, h2, h3⟩ := zx.tup
  cases zy.int
  split at hg'
  · rename_i hk
    cases hg'
    subst hk
    exact .inl ⟨a, vs, rfl, rfl, SqT.of (S.ex _ _ h1), R.now S (fz_tup.mpr ⟨a, vs, rfl, h1, h2, h3⟩)⟩
  · split at hg'
    · rename_i hk
      cases hg'
      refine .inr ⟨a, k, vs, rfl, rfl, SqT.of (S.ex _ _ h1), fun z => hk.2.2.2 (by rw [← h3.length, z]; rfl), hk.1, hk.2.1, by rw [h3.length]; exact hk.2.2.1, fun p hp => R.tup S hp (lim_size (rep_le (by omega) hk.2.2.1)) (h3.rep _)⟩
    · cases hg'
end
open PySem L2
def tyN : D → Option String
  | .non => some "NoneType"
  | .bl _ => some "bool"
  | .int _ => some "int"
  | .str _ => some "str"
  | .tup _ => some "tuple"
  | .tux _ => some "tuple"
  | .lst _ => some "list"
  | .olst _ => some "list"
  | _ => none
def dIsi (T : String) : D → Option D := fun d => (tyN d).bind fun t => (kitB t T).map D.bl
theorem br_tyX {w : Wd} {b : Bs} {σ : St} {e : En} {d : D} {v : V} {t : String} (S : Sat w b σ e) (z : Br w b d v) (h : tyN d = some t) (hn : t ≠ "NoneType") : TyX w.K b.H v (.type t) := by
  cases d <;> try cases h
  · exact absurd rfl hn
  · cases z.bl
    exact .base (.bl _)
  · cases z.int
    exact .base (.int _)
  · obtain ⟨rfl, _⟩ := z.str
    exact .base (.str _)
  · obtain ⟨a, vs, rfl, h1, _, _⟩ := z.tup
    exact .base (.tup (S.ex _ _ h1))
  · obtain ⟨a, o, vs, rfl, h1, _⟩ := z.tux
    exact .fTuple (S.ex _ _ h1)
  · obtain ⟨a, vs, rfl, h1, _⟩ := z.lst S
    exact .base (.lst h1)
  · obtain ⟨a, vs, l, rfl, h1, _⟩ := z.olst
    exact .base (.lst h1)
def dIsiN (T : String) : D → Option D := fun d => match d with
  | .non => some (.bl false)
  | d => dIsi T d
end Vm

set_option maxHeartbeats 1000000
namespace Vm
open PySem L2
def TmpL (w : Wd) (b0 b : Bs) (ds : List D) (vs : List V) : Prop := ∃ l, OwnL w b.G b.H ds vs l ∧ l.Nodup ∧ ∀ a ∈ l, b.G.F a = none ∧ ¬ b.own a ∧ (b0.H a = none ∨ b0.own a)
section
variable {w : Wd} {b0 b b1 : Bs} {d : D} {v : V} {ds : List D} {vs : List V} {s : Bool}
theorem TmpL.nil : TmpL w b0 b [] [] := ⟨[], ownl_nil.mpr ⟨rfl, rfl⟩, List.nodup_nil, fun a ha => nomatch ha⟩
theorem TmpL.len (h : TmpL w b0 b ds vs) : vs.length = ds.length := let ⟨_, h1, _⟩ := h; h1.length
theorem TmpL.back (g : Gr s b0 b1) (h : TmpL w b1 b ds vs) : TmpL w b0 b ds vs := by
  obtain ⟨l, h1, h2, h3⟩ := h
  refine ⟨l, h1, h2, fun a ha => ?_⟩
  obtain ⟨k1, k2, k3⟩ := h3 a ha
  exact ⟨k1, k2, k3.elim (fun z => .inl (g.h a z)) fun z => (g.p a z).symm⟩
theorem TmpL.stay (g : Gr s b b1) (h : TmpL w b0 b ds vs) : TmpL w b0 b1 ds vs := by
  obtain ⟨l, h1, h2, h3⟩ := h
  refine ⟨l, h1.keep g.g fun a ha u hu => g.k a u hu (keeps_no (h3 a ha).2.1), h2, fun a ha => ?_⟩
  obtain ⟨k1, k2, k3⟩ := h3 a ha
  obtain ⟨u, hu⟩ := h1.there a ha
  refine ⟨?_, fun z => (g.p a z).elim k2 fun z => (by rw [hu] at z; cases z), k3⟩
  cases q : b1.G.F a with
  | none => rfl
  | some u' =>
    rcases g.n a (by rw [q]; intro z; cases z) with z | z | z
    · exact absurd k1 z
    · exact absurd z k2
    · rw [hu] at z; cases z
theorem TmpL.cons (g : Gr s b0 b1) (t : Tmp w b0 b1 d v) (g2 : Gr s b1 b) (h : TmpL w b1 b ds vs) : TmpL w b0 b (d :: ds) (v :: vs) := by
  obtain ⟨l1, t1, t2, t3⟩ := t
  have tl : TmpL w b0 b1 [d] [v] := ⟨l1, ownl_cons.mpr ⟨v, [], l1, [], rfl, t1, ownl_nil.mpr ⟨rfl, rfl⟩, (List.append_nil _).symm⟩, t2, t3⟩
  obtain ⟨l2, h1, h2, h3⟩ := h
  have own1 : Own w b.G b.H d v l1 := t1.keep g2.g fun a ha u hu => g2.k a u hu (keeps_no (t3 a ha).2.1)
  have no : ∀ a ∈ l1, b.G.F a = none ∧ ¬ b.own a := fun a ha => by
    obtain ⟨k1, k2, _⟩ := t3 a ha
    obtain ⟨u, hu⟩ := t1.there a ha
    refine ⟨?_, fun z => (g2.p a z).elim k2 fun z => by rw [hu] at z; cases z⟩
    cases q : b.G.F a with
    | none => rfl
    | some u' =>
      rcases g2.n a (by rw [q]; intro z; cases z) with z | z | z
      · exact absurd k1 z
      · exact absurd z k2
      · rw [hu] at z; cases z
  refine ⟨l1 ++ l2, ownl_cons.mpr ⟨v, vs, l1, l2, rfl, own1, h1, rfl⟩, List.nodup_append.mpr ⟨t2, h2, fun a ha c hc q => ?_⟩, fun a ha => ?_⟩
  · subst q
    obtain ⟨u, hu⟩ := t1.there a ha
    rcases (h3 a hc).2.2 with z | z
    · rw [hu] at z; cases z
    · exact (t3 a ha).2.1 z
  · rcases List.mem_append.mp ha with ha | ha
    · exact ⟨(no a ha).1, (no a ha).2, (t3 a ha).2.2⟩
    · obtain ⟨k1, k2, k3⟩ := h3 a ha
      exact ⟨k1, k2, k3.elim (fun z => .inl (g.h a z)) fun z => (g.p a z).symm⟩
end
def tL (w : Wd) (W : Wx) (s : Bool) (f : LM) : TA := fun σ H Q => ∃ b e, H = b.H ∧ Sat w b σ e ∧ PR w W s σ b (f e) fun ds b' _ => ∀ vs, TmpL w b b' ds vs → Q vs b'.H
section
variable {X : Cx} {W : Wx} {s : Bool} {w : Wd} {pos : Pos} {x : Expr} {es : List Expr} {f : EM} {g : LM}
end

abbrev Mx := Nat × EM
def mxEv : List Mx → LM
  | [], e => .ok [] e
  | m :: r, e => (m.2 e).bind fun d e1 => (mxEv r e1).bind fun ds e2 => .ok (d :: ds) e2
def mxSet : List Mx → List D → En → Option En
  | [], [], e => some e
  | m :: r, d :: ds, e => mxSet r ds ⟨e.sl.set m.1 (some d), e.mu⟩
  | _, _, _ => none
def sMix (ms : List Mx) : SM := fun e => ofE (mxEv ms e) fun ds e1 => if ds.length ≤ LIM then nxO (mxSet ms ds e1) else .stuck
def mxσ : List Mx → List V → St → St
  | m :: r, v :: vs, σ => mxσ r vs (σ.set m.1 (some v))
  | _, _, σ => σ
section
variable {w : Wd} {b0 : Bs}
theorem mx_sets : ∀ {ms : List Mx} {ds : List D} {vs : List V} {b : Bs} {σ : St} {e e' : En}, (∀ m ∈ ms, m.1 < σ.length) → Gr false b0 b → Sat w b σ e → TmpL w b0 b ds vs → mxSet ms ds e = some e' → ∃ b', b'.H = b.H ∧ Gr false b0 b' ∧ Sat w b' (mxσ ms vs σ) e'
  | [], [], vs, b, σ, e, e', _, g, S, h, hs => by
    cases hs
    have : vs = [] := List.eq_nil_of_length_eq_zero (by rw [h.len]; rfl)
    subst this
    exact ⟨b, rfl, g, S⟩
  | [], _ :: _, _, _, _, _, _, _, _, _, _, hs => by cases hs
  | _ :: _, [], _, _, _, _, _, _, _, _, _, hs => by cases hs
  | m :: ms, d :: ds, vs, b, σ, e, e', hm, g, S, h, hs => by
    obtain ⟨l, h1, h2, h3⟩ := h
    obtain ⟨v, r, l1, l2, rfl, k1, k2, rfl⟩ := ownl_cons.mp h1
    obtain ⟨n1, n2, n3⟩ := List.nodup_append.mp h2
    have hi : m.1 < σ.length := hm m (List.mem_cons_self ..)
    have := S.hold (σ' := σ.set m.1 (some v)) (x := .s m.1) (H' := b.H) (l := l1) g (by show m.1 < e.sl.length; rw [S.le]; exact hi) (fun a u h _ => h) (fun a h => h) k1 n1 (fun a ha => ⟨(h3 a (List.mem_append_left _ ha)).1, .inr (h3 a (List.mem_append_left _ ha)).2⟩)
      (by show ((σ.set m.1 (some v))[m.1]?).getD none = some v; rw [List.getElem?_set_self hi]; rfl)
      (fun y hy => by
        cases y with
        | s j =>
          have : m.1 ≠ j := fun z => hy (by rw [z])
          show ((σ.set m.1 (some v))[j]?).getD none = (σ[j]?).getD none
          rw [List.getElem?_set_ne this]
        | m n => rfl) (by rw [List.length_set])
    obtain ⟨g1, S1⟩ := this
    have rest : TmpL w b0 (b.give b.H (.s m.1) l1) ds r := ⟨l2, k2, n2, fun a ha => by
      obtain ⟨q1, q2, q3⟩ := h3 a (List.mem_append_right _ ha)
      refine ⟨q1, fun ⟨y, hy⟩ => ?_, q3⟩
      by_cases hyx : y = .s m.1
      · subst hyx
        rw [give_same] at hy
        exact n3 a hy a ha rfl
      · rw [give_ne hyx] at hy
        exact q2 ⟨y, hy⟩⟩
    obtain ⟨b', p1, p2, p3⟩ := mx_sets (ms := ms) (fun m' hm' => by rw [List.length_set]; exact hm m' (List.mem_cons_of_mem _ hm')) g1 S1 rest (show mxSet ms ds ⟨e.sl.set m.1 (some d), e.mu⟩ = some e' from hs)
    exact ⟨b', p1, p2, p3⟩
end
def tGm (w : Wd) (ms : List Mx) : TGs := fun vs σ H Q => ∃ b0 b e ds e', H = b.H ∧ Gr false b0 b ∧ Sat w b σ e ∧ TmpL w b0 b ds vs ∧ mxSet ms ds e = some e' ∧ ∀ b' σ', b'.H = b.H → Gr false b0 b' → Sat w b' σ' e' → Q σ' b.H
def tMx (w : Wd) (W : Wx) (ms : List Mx) : TA := tL w W false (mxEv ms)
structure Mix (X : Cx) (w : Wd) (W : Wx) (ts es : List Expr) (ms : List Mx) : Prop where
  a : PA X es (tMx w W ms)
  g : PGs X ts (tGm w ms)
theorem _root_.L2.PGs.len {X : Cx} {e : List Expr} {t : TGs} (h : PGs X e t) : PGs X e fun v σ H Q => σ.length = X.N.length → t v σ H Q := ⟨fun pins s σ H v u Q I r q => h.run pins s σ H v u Q I r (q I.len)⟩
section
variable {X : Cx} {W : Wx} {w : Wd} {pos tp : Pos} {x : Expr} {ts es : List Expr} {ms : List Mx} {f : EM}
theorem zmNil : Mix X w W [] [] [] where
  a := pa_nil.imp fun σ H Q ⟨b, e, he, S, h⟩ => by
    subst he
    exact h b (Gr.refl b) S [] .nil
  g := pgs_nil.imp fun vs σ H Q ⟨b0, b, e, ds, e', he, g, S, h, hs, q⟩ => by
    subst he
    cases ds with
    | nil =>
      cases hs
      exact ⟨List.eq_nil_of_length_eq_zero (by rw [h.len]; rfl), q b σ rfl g S⟩
    | cons _ _ => cases hs
theorem zmV (i : Nat) {y : Str} (hN : X.N.Nodup) (hx : PE X x (tV w W false f)) (r : Mix X w W ts es ms) (hi : X.N[i]? = some y := by rfl) (hl : Loc X.env.scope y := by first | exact Or.inl rfl | exact Or.inr rfl)
    (hf : X.fn y = true ∨ X.env.scope.names.lookup y = some .local := by first | exact .inl rfl | exact .inr rfl | assumption) (hs : starEach (x :: es) X.env = (false, eval x X.env) :: starEach es X.env := by rfl)
    (hs2 : (assignEach (.Name y tp :: ts) X.env).map (·.2) = assign (.Name y tp) X.env :: (assignEach ts X.env).map (·.2) := by rfl) : Mix X w W (.Name y tp :: ts) (x :: es) ((i, f) :: ms) where
  a := (pa_cons hx r.a hs).imp fun σ H Q ⟨b, e, he, S, h⟩ => by
    subst he
    refine ⟨b, e, rfl, S, (PR.bind h).mono fun d b1 e1 g1 S1 h1 v t => ⟨b1, e1, rfl, S1, (PR.bind h1).mono fun ds b2 e2 g2 S2 h2 vs zs => ?_⟩⟩
    exact h2 b2 (Gr.refl b2) S2 (v :: vs) (TmpL.cons g1 t g2 zs)
  g := (pgs_cons (pg_name hN hi hl hf) r.g hs2).len.imp fun vs σ H Q ⟨b0, b, e, ds, e', he, g, S, h, hs, q⟩ hlen => by
    subst he
    cases ds with
    | nil => cases hs
    | cons d ds =>
      obtain ⟨l, h1, h2, h3⟩ := h
      obtain ⟨v, r, l1, l2, rfl, k1, k2, rfl⟩ := ownl_cons.mp h1
      obtain ⟨n1, n2, n3⟩ := List.nodup_append.mp h2
      have hil : i < σ.length := by rw [hlen]; exact (List.getElem?_eq_some_iff.mp hi).1
      obtain ⟨g1, S1⟩ := S.hold (σ' := σ.set i (some v)) (x := .s i) (H' := b.H) (l := l1) g (by show i < e.sl.length; rw [S.le]; exact hil) (fun a u h _ => h) (fun a h => h) k1 n1 (fun a ha => ⟨(h3 a (List.mem_append_left _ ha)).1, .inr (h3 a (List.mem_append_left _ ha)).2⟩)
        (by show ((σ.set i (some v))[i]?).getD none = some v; rw [List.getElem?_set_self hil]; rfl)
        (fun y hy => by
          cases y with
          | s j =>
            have : i ≠ j := fun z => hy (by rw [z])
            show ((σ.set i (some v))[j]?).getD none = (σ[j]?).getD none
            rw [List.getElem?_set_ne this]
          | m n => rfl) (by rw [List.length_set])
      have rest : TmpL w b0 (b.give b.H (.s i) l1) ds r := ⟨l2, k2, n2, fun a ha => by
        obtain ⟨q1, q2, q3⟩ := h3 a (List.mem_append_right _ ha)
        refine ⟨q1, fun ⟨y, hy⟩ => ?_, q3⟩
        by_cases hyx : y = .s i
        · subst hyx
          rw [give_same] at hy
          exact n3 a hy a ha rfl
        · rw [give_ne hyx] at hy
          exact q2 ⟨y, hy⟩⟩
      exact ⟨v, r, rfl, b0, b.give b.H (.s i) l1, _, ds, e', rfl, g1, S1, rest, hs, q⟩
end
section
variable {X : Cx} {W : Wx} {s : Bool} {w : Wd} {pos : Pos} {ts es : List Expr} {ms : List Mx}
theorem par_mx {D : Ends} {σ : St} {H : Hp} (hk : ∀ m ∈ ms, m.1 < σ.length) (h : tS w W (sMix ms) D σ H) : tMx w W ms σ H fun vs H1 => vs.length = ms.length ∧ D.nx (mxσ ms vs σ) H1 := by
  obtain ⟨b, e, rfl, S, h⟩ := h
  refine ⟨b, e, rfl, S, ?_⟩
  unfold sMix at h
  cases hf : mxEv ms e with
  | stuck => rw [hf] at h; exact h
  | exc c x e1 => rw [hf] at h; exact fun b' g S => h b' σ g.weak S
  | ok ds e1 =>
    rw [hf] at h
    intro b1 g1 S1 vs zs
    have h2 : SR w W b (if ds.length ≤ LIM then nxO (mxSet ms ds e1) else .stuck) D := h
    split at h2
    · obtain ⟨e2, h3, h4⟩ := nxO_some h2
      obtain ⟨b2, q1, q2, q3⟩ := mx_sets hk g1 S1 zs h3
      have hlen : vs.length = ms.length := by
        rw [zs.len]
        have : ∀ {ms : List Mx} {ds : List Vm.D} {e e' : En}, mxSet ms ds e = some e' → ds.length = ms.length := by
          intro ms
          induction ms with
          | nil => intro ds e e' h; cases ds with
            | nil => rfl
            | cons _ _ => cases h
          | cons m ms ih => intro ds e e' h; cases ds with
            | nil => cases h
            | cons d ds => simp [ih (show mxSet ms ds _ = some e' from h)]
        exact this h3
      refine ⟨hlen, ?_⟩
      rw [← q1]
      exact h4 b2 _ q2 q3
    · exact h2.elim
theorem zPar2 {m1 m2 : Mx} {x y : Str} {a c : Expr} {px py pt : Pos} {kt k2 pt2} (o : Okx w X) (m : Mix X w W [.Name x px, .Name y py] [a, c] [m1, m2]) (hw : swappedStores [.Tuple [.Name x px, .Name y py] kt pt] (.Tuple [a, c] k2 pt2) X.env = pure (some [x, y]) := by rfl)
    (hi : X.N[m1.1]? = some x := by rfl) (hj : X.N[m2.1]? = some y := by rfl) (hij : m1.1 ≠ m2.1 := by decide)
    (hx : X.env.scope.names.lookup x = some .local := by rfl) (hy : X.env.scope.names.lookup y = some .local := by rfl)
    (hs : swapsWithSole [.Tuple [.Name x px, .Name y py] kt pt] (.Tuple [a, c] k2 pt2) pos.line X.env = pure false := by rfl) :
    PS X (.Assign [.Tuple [.Name x px, .Name y py] kt pt] (.Tuple [a, c] k2 pt2) pos) (tS w W (sMix [m1, m2])) := (ps_par o.c o.N hi hj hij hx hy m.a hw hs).len.imp fun D σ H h hl => by
  have hk : ∀ m ∈ [m1, m2], m.1 < σ.length := fun m hm => by
    rw [hl]
    rcases List.mem_cons.mp hm with rfl | hm
    · exact (List.getElem?_eq_some_iff.mp hi).1
    · have : m = m2 := by simpa using hm
      subst this
      exact (List.getElem?_eq_some_iff.mp hj).1
  obtain ⟨b, e, he, S, q⟩ := par_mx hk h
  refine ⟨b, e, he, S, q.mono fun ds b' e' g S' k vs z => ?_⟩
  obtain ⟨l, k⟩ := k vs z
  match vs, l with
  | [v, u], _ => exact ⟨v, u, rfl, k⟩
end
section
variable {X : Cx} {W : Wx} {s : Bool} {w : Wd} {pos : Pos} {a c : Expr} {fa fb f : EM} {r : R2} {g : D → D → Option D}
theorem test_z {σ : St} {H : Hp} {Q : Bool → Hp → Prop} (h : tT w W s (eTest f) σ H Q) : tZ w W s f σ H fun x H' => ∃ k, x = .bl k ∧ Q k H' := by
  obtain ⟨b, e, rfl, S, h⟩ := h
  refine ⟨b, e, rfl, S, (PR.bind h).mono fun x b1 e1 g1 S1 h1 v z => ?_⟩
  cases x <;> first
    | exact h1.elim
    | exact ⟨_, fz_bl.mp z, h1 b1 (Gr.refl _) S1⟩
theorem fCmpT {op : CmpOp} (hr : OpB w r g) (ho : OpR X (compareOp op) r) (ha : PE X a (tZ w W s fa)) (hb : PE X c (tB w W s fb)) (hm : behindInMarks op c = false := by rfl) : PT X (.Compare a [op] [c] pos) (tT w W s (eTest (bin g fa fb))) :=
  (pt_cmpR ho ha hb hm).imp fun _ _ _ h => tOp_f hr (test_z h)
end
end Vm

set_option maxHeartbeats 1000000
namespace Vm
open PySem L2
def Bs.cell (b : Bs) (n : Nat) (a : Addr) (l : List Addr) : Bs := ⟨⟨b.G.F, fun m => if m = n then some a else b.G.ρ m⟩, b.H, fun y => if y = .m n then l else b.o y⟩
section
variable {w : Wd} {b b0 : Bs} {σ : St} {e : En} {d : D} {a : Addr}
theorem Sat.alloc (S : Sat w b σ e) (g : Gr false b0 b) (t : Tmp w b0 b d (.ref a)) : ∃ b', b'.H = b.H ∧ Gr false b0 b' ∧ Sat w b' σ ⟨e.sl, e.mu ++ [some d]⟩ ∧ Fz w b'.G (.loc e.mu.length) (.ref a) := by
  obtain ⟨l, t1, t2, t3⟩ := t
  have hn : b.G.ρ e.mu.length = none := (S.lm _).mpr (Nat.le_refl _)
  have hle : b.G.le (b.cell e.mu.length a l).G := ⟨fun _ _ h => h, fun m c h => by
    show (if m = e.mu.length then some a else b.G.ρ m) = some c
    rw [if_neg (fun z => by rw [z, hn] at h; cases h)]
    exact h⟩
  have os : ∀ y, y ≠ .m e.mu.length → (b.cell e.mu.length a l).o y = b.o y := fun y h => if_neg h
  have on : (b.cell e.mu.length a l).o (.m e.mu.length) = l := if_pos rfl
  have none_o : b.o (.m e.mu.length) = [] := S.em _ (by show (e.mu[e.mu.length]?).getD none = none; simp)
  have sub : ∀ y c, c ∈ (b.cell e.mu.length a l).o y → (y = .m e.mu.length ∧ c ∈ l) ∨ (y ≠ .m e.mu.length ∧ c ∈ b.o y) := fun y c h => by
    by_cases hy : y = .m e.mu.length
    · subst hy
      rw [on] at h
      exact .inl ⟨rfl, h⟩
    · rw [os y hy] at h
      exact .inr ⟨hy, h⟩
  refine ⟨b.cell e.mu.length a l, rfl, ⟨g.g.trans hle, g.k, g.n, fun c ⟨y, h⟩ => ?_, (fun h => by cases h), g.h⟩, ⟨S.ex, S.le, fun m => ?_, fun y d' h => ?_, fun y h => ?_, fun y z c h1 h2 => ?_, fun y => ?_, fun y c h => ?_⟩, ?_⟩
  · rcases sub y c h with ⟨_, z⟩ | ⟨_, z⟩
    · exact (t3 c z).2.2.symm
    · exact g.p c ⟨y, z⟩
  · show (if m = e.mu.length then some a else b.G.ρ m) = none ↔ (e.mu ++ [some d]).length ≤ m
    rw [List.length_append]
    by_cases hm : m = e.mu.length
    · subst hm
      rw [if_pos rfl]
      simp
    · rw [if_neg hm, S.lm m]
      simp
      omega
  · by_cases hy : y = .m e.mu.length
    · subst hy
      have h' : ((e.mu ++ [some d])[e.mu.length]?).getD none = some d' := h
      rw [List.getElem?_append_right (Nat.le_refl _)] at h'
      simp at h'
      subst h'
      refine ⟨.ref a, ?_, ?_⟩
      · show (if e.mu.length = e.mu.length then some a else b.G.ρ e.mu.length).map V.ref = _
        rw [if_pos rfl]
        rfl
      · rw [on]
        exact t1.keep hle fun _ _ _ h => h
    · have h' : e.at y = some d' := by
        cases y with
        | s i => exact h
        | m k =>
          have hk : k ≠ e.mu.length := fun z => hy (by rw [z])
          have h2 : ((e.mu ++ [some d])[k]?).getD none = some d' := h
          show (e.mu[k]?).getD none = some d'
          by_cases hlt : k < e.mu.length
          · rw [List.getElem?_append_left hlt] at h2
            exact h2
          · rw [List.getElem?_eq_none (by rw [List.length_append]; simp; omega)] at h2
            cases h2
      obtain ⟨v, k1, k2⟩ := S.sl y d' h'
      refine ⟨v, ?_, ?_⟩
      · cases y with
        | s i => exact k1
        | m k =>
          have hk : k ≠ e.mu.length := fun z => hy (by rw [z])
          show (if k = e.mu.length then some a else b.G.ρ k).map V.ref = some v
          rw [if_neg hk]
          exact k1
      · rw [os y hy]
        exact k2.keep hle fun _ _ _ h => h
  · by_cases hy : y = .m e.mu.length
    · subst hy
      have h' : ((e.mu ++ [some d])[e.mu.length]?).getD none = none := h
      rw [List.getElem?_append_right (Nat.le_refl _)] at h'
      simp at h'
    · rw [os y hy]
      cases y with
      | s i => exact S.em (.s i) h
      | m k =>
        have hk : k ≠ e.mu.length := fun z => hy (by rw [z])
        refine S.em (.m k) ?_
        have h2 : ((e.mu ++ [some d])[k]?).getD none = none := h
        show (e.mu[k]?).getD none = none
        by_cases hlt : k < e.mu.length
        · rw [List.getElem?_append_left hlt] at h2
          exact h2
        · rw [List.getElem?_eq_none (by omega)]
          rfl
  · rcases sub y c h1 with ⟨rfl, k1⟩ | ⟨n1, k1⟩
    · rcases sub z c h2 with ⟨rfl, k2⟩ | ⟨n2, k2⟩
      · rfl
      · exact absurd ⟨z, k2⟩ (t3 c k1).2.1
    · rcases sub z c h2 with ⟨rfl, k2⟩ | ⟨n2, k2⟩
      · exact absurd ⟨y, k1⟩ (t3 c k2).2.1
      · exact S.ap y z c k1 k2
  · by_cases hy : y = .m e.mu.length
    · rw [hy, on]
      exact t2
    · rw [os y hy]
      exact S.nd y
  · rcases sub y c h with ⟨_, k1⟩ | ⟨_, k1⟩
    · exact (t3 c k1).1
    · exact S.fo y c k1
  · refine fz_loc.mpr ⟨a, rfl, ?_⟩
    show (if e.mu.length = e.mu.length then some a else b.G.ρ e.mu.length) = some a
    rw [if_pos rfl]
theorem Own.ref {G : Gs} {H : Hp} {d : D} {v : V} {l : List Addr} (h : Own w G H d v l) (f : isF d = false) : ∃ a, v = .ref a := by
  cases d <;> try cases f
  · obtain ⟨a, _, _, rfl, _⟩ := own_olst.mp h; exact ⟨a, rfl⟩
  · obtain ⟨a, _, _, rfl, _⟩ := own_odic.mp h; exact ⟨a, rfl⟩
  · obtain ⟨a, _, _, rfl, _⟩ := own_odix.mp h; exact ⟨a, rfl⟩
  · obtain ⟨a, _, _, _, rfl, _⟩ := own_oins.mp h; exact ⟨a, rfl⟩
  · obtain ⟨a, _, rfl, _⟩ := own_otbl.mp h; exact ⟨a, rfl⟩
  · obtain ⟨a, _, _, rfl, _⟩ := own_otup.mp h; exact ⟨a, rfl⟩
end
def gNew (i : Nat) : GM := fun d e => if isF d then none else some ⟨e.sl.set i (some (.loc e.mu.length)), e.mu ++ [some d]⟩
section
variable {X : Cx} {W : Wx} {s : Bool} {w : Wd} {pos p ap cp : Pos} {x : Expr} {f : EM}
def eIxL (i : Nat) (k : Int) : EM := fun e => match hold? i e with
  | some (_, .olst ds) => lift ((atI ds k).bind fun d => if isF d then some d else none) e
  | _ => .stuck
theorem zIxL (o : Okx w X) (i : Nat) (k : Int) {y : Str} {j cpos} (hN : X.N[i]? = some y := by rfl) (hv : Vis X.env.scope y := by first | exact Or.inl rfl | exact Or.inr (Or.inl rfl) | exact Or.inr (Or.inr rfl)) (hd : (y == ("__debug__" : Str)) = false := by decide)
    (hcd : (y == ("__classdict__" : Str)) = false := by decide) : PE X (.Subscript (.Name y p) (.Constant (.int k) j cpos) pos) (tZ w W s (eIxL i k)) :=
  (pe_ix (r_ix o) (pv i hN hv hd hcd) pe_int (fun _ _ => rfl)).imp fun σ H Q ⟨b, e, he, S, h⟩ => by
  subst he
  unfold eIxL at h
  split at h
  · rename_i x0 ds h0
    obtain ⟨a, vs, l, k1, k2, k3, k4, k5, k6, k7⟩ := S.rootL h0
    obtain ⟨d, hd, R⟩ := PR.ret h
    obtain ⟨d', hd', hq⟩ := Option.bind_eq_some_iff.mp hd
    split at hq
    · rename_i hf
      cases hq
      obtain ⟨v, l', hv, z, _⟩ := k7.atI hd'
      exact ⟨_, k1, .inl ⟨a, vs, k, v, rfl, rfl, SqL.of k5, hv, R.now S ((own_fz hf).mp z).1⟩⟩
    · cases hq
  · exact h.elim
def ePop0 (i : Nat) : EM := fun e => match hold? i e with
  | some (x, .olst (d :: ds)) => if isF d then .ok d (e.put x (some (.olst ds))) else .stuck
  | _ => .stuck
def ePop (i : Nat) : EM := fun e => match hold? i e with
  | some (x, .olst ds) => match ds.getLast? with
    | some d => if ds.all isF then .ok d (e.put x (some (.olst ds.dropLast))) else .stuck
    | none => .stuck
  | _ => .stuck
end
end Vm

set_option maxHeartbeats 4000000
namespace PySem
open Sem (wp)
abbrev IsZipS (h : Heap) (z TI TO : Addr) (f0 : Value) : Prop :=
  h.get? z = some { cls := .type "zip", dict := none, data := .fields #[f0, .bool false, .bool true, .ref TI, .ref TO], slots := #[] }
namespace F
end F
abbrev gzS2 (h : Heap) (o1 o2 : Obj) : Heap := (gzO2 h o1 o2).push { cls := .type "zip", data := .fields #[.none, .bool false, .bool true, .ref ((h.push o1).push o2).objs.size, .ref (gzT2 h o1 o2).objs.size] }
section
variable {prog : Program} {w : World} {A : Around} {E : Value → Shared → Prop} {s : Shared}
variable {z TI TO i1 i2 : Addr} {fp1 fp2 : List Addr} {n1 n2 i : Nat} {P1 P2 : Nat → Value → Prop} {St1 St2 : Nat → Heap → Prop} {a1 a2 : Value}
end
end PySem

set_option maxHeartbeats 1000000
namespace Vm
open PySem L2
def Sq (K : PySem.W.Frag) (k : Bool) (H : Hp) (a : Addr) (xs : List V) : Prop := if k = true then SqT K H a xs else SqL K H a xs
def IterAt (k : Bool) (h : Heap) (it a : Addr) (i : Nat) : Prop := if k = true then h.IsTupleIter it a i else h.IsListIter it a i
def SeqIs (k : Bool) (h : Heap) (a : Addr) (xs : Array Value) : Prop := if k = true then h.IsTuple a xs else h.IsList a xs
def iterObj (k : Bool) (a : Addr) : Obj := if k = true then { cls := .type "tuple_iterator", data := .fields #[.ref a, .int 0 0] } else { cls := .type "list_iterator", data := .fields #[.ref a, .int 0 0] }
section
variable {X : Cx} {pins : List (Addr × Obj)} {σ : St} {H : Hp} {s : Shared} {k : Bool} {a it : Addr} {xs ys : List V} {i : Nat}
theorem IterAt.at {h h' : Heap} (x : IterAt k h it a i) (e : ∀ o, h.get? it = some o → h'.get? it = some o) : IterAt k h' it a i := by
  cases k with
  | true => obtain ⟨o, q, r⟩ := (show h.IsTupleIter it a i from x); exact ⟨o, e o q, r⟩
  | false => obtain ⟨o, q, r⟩ := (show h.IsListIter it a i from x); exact ⟨o, e o q, r⟩
theorem SeqIs.lt {h : Heap} {xs : Array Value} (x : SeqIs k h a xs) : a < h.objs.size := by
  cases k with
  | true => obtain ⟨o, q, _⟩ := (show h.IsTuple a xs from x); exact Heap.lt_size q
  | false => obtain ⟨o, q, _⟩ := (show h.IsList a xs from x); exact Heap.lt_size q
end
def ItzS (K : PySem.W.Frag) (k : Bool) (a : Addr) (m : Bool) (b : Addr) : It :=
  ⟨fun i H => ∃ (xs ys : List V) (x y : V), Sq K k H a xs ∧ Sq K m H b ys ∧ xs[i]? = some x ∧ ys[i]? = some y,
    fun i H v H' => ∃ T x y, v = .ref T ∧ H T = none ∧ H' = upd H T (.tup [x, y]) ∧ (∀ xs, Sq K k H a xs → xs[i]? = some x) ∧ ∀ ys, Sq K m H b ys → ys[i]? = some y,
    fun i H => ∃ xs ys : List V, Sq K k H a xs ∧ Sq K m H b ys ∧ xs.length = i ∧ ys.length = i⟩
section
variable {M : Model} {A : Around} {E : Value → Shared → Prop} {s : Shared} {env : Env}
end
def iZipS (K : PySem.W.Frag) (ta : TA) : TI := fun σ H R => ta σ H fun vs H1 => ∃ k a m b xs ys, vs = [.ref a, .ref b] ∧ Sq K k H1 a xs ∧ Sq K m H1 b ys ∧ R (ItzS K k a m b) H1
def IteS (K : PySem.W.Frag) (k : Bool) (a : Addr) : It :=
  ⟨fun i H => ∃ (xs : List V) (x : V), Sq K k H a xs ∧ xs[i]? = some x, fun i H v H' => ∃ T x, v = .ref T ∧ H T = none ∧ H' = upd H T (.tup [.int (i : Nat), x]) ∧ ∀ xs, Sq K k H a xs → xs[i]? = some x, fun i H => ∃ xs : List V, Sq K k H a xs ∧ xs.length = i⟩
def iEnumS (K : PySem.W.Frag) (ta : TA) : TI := fun σ H R => ta σ H fun vs H1 => ∃ k a xs, vs = [.ref a] ∧ Sq K k H1 a xs ∧ R (IteS K k a) H1
def tup2 (p : D × D) : D := .tup [p.1, p.2]
def itZipS (f g : EM) : LM := fun e => (f e).bind fun x e1 => (g e1).bind fun y e2 => match items? x, items? y with
  | some xs, some ys => if xs.length = ys.length then .ok ((xs.zip ys).map tup2) e2 else .stuck
  | _, _ => .stuck
def enumD : Nat → List D → List D
  | _, [] => []
  | n, x :: xs => .tup [.int (n : Nat), x] :: enumD (n + 1) xs
def itEnum (f : EM) : LM := fun e => (f e).bind fun x e1 => match items? x with
  | some xs => .ok (enumD 0 xs) e1
  | none => .stuck
section
variable {X : Cx} {W : Wx} {s : Bool} {w : Wd} {pos p tpos kpos cpos : Pos} {x c : Expr} {elts : List Expr} {f g : EM} {kk j : Nat}
end
end Vm

set_option maxHeartbeats 1000000
namespace Vm
open PySem L2
def kq (a b : D) : Bool := match dnest a, dnest b with
  | some x, some y => NestedKey.beq x y
  | _, _ => false
def lkD : List (D × D) → D → Option D
  | [], _ => none
  | (k, d) :: r, y => if kq k y then some d else lkD r y
def putD (kvs : List (D × D)) (y x : D) : List (D × D) := if kvs.any (fun p => kq p.1 y) then kvs.map (fun p => if kq p.1 y then (p.1, x) else p) else kvs ++ [(y, x)]
def delD : List (D × D) → D → List (D × D)
  | [], _ => []
  | (k, d) :: r, y => if kq k y then r else (k, d) :: delD r y
theorem dkey_nest {k : D} {x : Key} (h : dkey k = some x) : dnest k = some (match x with | .inl i => .num i | .inr s => .text s) := by
  cases k <;> try cases h
  · rfl
  · rename_i s
    have h' : (if PyData.strOk s then some (Sum.inr s) else none) = some x := h
    split at h'
    · cases h'; rfl
    · cases h'
theorem kq_dkey {a b : D} {x y : Key} (h : dkey a = some x) (h' : dkey b = some y) : kq a b = decide (x = y) := by
  unfold kq
  rw [dkey_nest h, dkey_nest h']
  cases x <;> cases y <;> simp [NestedKey.beq]
theorem kq_nest {a b : D} {x y : NestedKey} (h : dnest a = some x) (h' : dnest b = some y) : kq a b = decide (x = y) := by
  unfold kq
  rw [h, h']
  exact (NestedKey.decide_eq x y).symm
theorem length_putD (y x : D) (kvs : List (D × D)) : (putD kvs y x).length ≤ kvs.length + 1 := by
  unfold putD
  split
  · rw [List.length_map]; omega
  · simp
theorem dkey_kV {w : Wd} {G : Gs} {k : D} {x : Key} {v : V} (h : Fz w G k v) (e : dkey k = some x) : v = kV x := by
  cases k <;> try cases e
  · exact fz_int.mp h
  · rename_i s
    have h' : (if PyData.strOk s then some (Sum.inr s) else none) = some x := e
    split at h'
    · cases h'; exact (fz_str.mp h).1
    · cases h'
section
variable {w : Wd} {G : Gs} {H : Hp}
theorem OwnK.lk {y : D} {ky : Key} (hy : dkey y = some ky) : ∀ {kvs : List (D × D)} {ks : List (Key × V)} {l : List Addr}, OwnK w G H kvs ks l →
    (lkD kvs y = none ∧ valV ks ky = none) ∨ ∃ d v l', lkD kvs y = some d ∧ valV ks ky = some v ∧ Own w G H d v l' ∧ ∀ a ∈ l', a ∈ l
  | [], ks, l, h => by
    obtain ⟨rfl, rfl⟩ := ownk_nil.mp h
    exact .inl ⟨rfl, rfl⟩
  | (k, d) :: r, ks, l, h => by
    obtain ⟨key, v, t, l1, l2, rfl, h0, h1, h2, rfl⟩ := ownk_cons.mp h
    unfold lkD
    rw [kq_dkey h0 hy]
    by_cases e : key = ky
    · rw [decide_eq_true e, if_pos rfl]
      exact .inr ⟨d, v, l1, rfl, valV_pos e, h1, fun a ha => List.mem_append_left _ ha⟩
    · rw [decide_eq_false e, if_neg (by decide), valV_neg e]
      rcases OwnK.lk hy h2 with h | ⟨d', v', l', k1, k2, k3, k4⟩
      · exact .inl h
      · exact .inr ⟨d', v', l', k1, k2, k3, fun a ha => List.mem_append_right _ (k4 a ha)⟩
theorem OwnK.append : ∀ {ds ds' : List (D × D)} {vs vs' : List (Key × V)} {l l' : List Addr}, OwnK w G H ds vs l → OwnK w G H ds' vs' l' → OwnK w G H (ds ++ ds') (vs ++ vs') (l ++ l')
  | [], ds', vs, vs', l, l', h, h' => by
    obtain ⟨rfl, rfl⟩ := ownk_nil.mp h
    exact h'
  | (k, d) :: ds, ds', vs, vs', l, l', h, h' => by
    obtain ⟨key, v, r, l1, l2, rfl, h0, h1, h2, rfl⟩ := ownk_cons.mp h
    exact ownk_cons.mpr ⟨key, v, r ++ vs', l1, l2 ++ l', rfl, h0, h1, OwnK.append h2 h', by rw [List.append_assoc]⟩
theorem OwnK.any {y : D} {ky : Key} (hy : dkey y = some ky) : ∀ {kvs : List (D × D)} {ks : List (Key × V)} {l : List Addr}, OwnK w G H kvs ks l → (kvs.any fun p => kq p.1 y) = ks.any fun p => decide (p.1 = ky)
  | [], ks, l, h => by
    obtain ⟨rfl, rfl⟩ := ownk_nil.mp h
    rfl
  | (k, d) :: r, ks, l, h => by
    obtain ⟨key, v, t, l1, l2, rfl, h0, h1, h2, rfl⟩ := ownk_cons.mp h
    simp only [List.any_cons, kq_dkey h0 hy, OwnK.any hy h2]
theorem OwnK.mapP {y x : D} {v : V} {ky : Key} (hy : dkey y = some ky) (z : Fz w G x v) : ∀ {kvs : List (D × D)} {ks : List (Key × V)} {l : List Addr}, OwnK w G H kvs ks l → l.Nodup →
    ∃ l', OwnK w G H (kvs.map fun p => if kq p.1 y then (p.1, x) else p) (ks.map fun p => if p.1 = ky then (p.1, v) else p) l' ∧ l'.Nodup ∧ ∀ a ∈ l', a ∈ l
  | [], ks, l, h, hn => by
    obtain ⟨rfl, rfl⟩ := ownk_nil.mp h
    exact ⟨[], ownk_nil.mpr ⟨rfl, rfl⟩, List.nodup_nil, fun _ h => h⟩
  | (k, d) :: r, ks, l, h, hn => by
    obtain ⟨key, u, t, l1, l2, rfl, h0, h1, h2, rfl⟩ := ownk_cons.mp h
    obtain ⟨n1, n2, n3⟩ := List.nodup_append.mp hn
    obtain ⟨l', k1, k2, k3⟩ := OwnK.mapP hy z h2 n2
    simp only [List.map_cons]
    rw [kq_dkey h0 hy]
    by_cases e : key = ky
    · rw [decide_eq_true e, if_pos rfl, if_pos e]
      exact ⟨l', ownk_cons.mpr ⟨key, v, _, [], l', rfl, h0, z.own, k1, rfl⟩, k2, fun a ha => List.mem_append_right _ (k3 a ha)⟩
    · rw [decide_eq_false e, if_neg (by decide), if_neg e]
      exact ⟨l1 ++ l', ownk_cons.mpr ⟨key, u, _, l1, l', rfl, h0, h1, k1, rfl⟩, List.nodup_append.mpr ⟨n1, k2, fun a ha c hc => n3 a ha c (k3 c hc)⟩, fun a ha => (List.mem_append.mp ha).elim (fun h => List.mem_append_left _ h) fun h => List.mem_append_right _ (k3 a h)⟩
theorem OwnK.put {y x : D} {v : V} {ky : Key} (hy : dkey y = some ky) (z : Fz w G x v) {kvs : List (D × D)} {ks : List (Key × V)} {l : List Addr} (h : OwnK w G H kvs ks l) (hn : l.Nodup) :
    ∃ l', OwnK w G H (putD kvs y x) (putK ks ky v) l' ∧ l'.Nodup ∧ ∀ a ∈ l', a ∈ l := by
  unfold putD putK
  rw [h.any hy]
  split
  · exact h.mapP hy z hn
  · refine ⟨l ++ [], h.append (ownk_cons.mpr ⟨ky, v, [], [], [], rfl, hy, z.own, ownk_nil.mpr ⟨rfl, rfl⟩, rfl⟩), ?_⟩
    rw [List.append_nil]
    exact ⟨hn, fun _ h => h⟩
end
def dkvs? : D → Option (List (D × D))
  | .dic kvs => some kvs
  | .odic kvs => some kvs
  | _ => none
theorem Br.dict {w : Wd} {b : Bs} {σ : St} {e : En} {d : D} {v : V} {kvs : List (D × D)} (S : Sat w b σ e) (z : Br w b d v) (h : dkvs? d = some kvs) : ∃ a ks l, v = .ref a ∧ Rd b.H a (.dK ks) ∧ OwnK w b.G b.H kvs ks l := by
  obtain ⟨l, z, _⟩ := z
  cases d <;> try cases h
  · obtain ⟨a, o, ks, rfl, h1, _, h2⟩ := fz_dic.mp ((own_fz rfl).mp z).1
    exact ⟨a, ks, [], rfl, .inr ⟨o, S.ex _ _ h1⟩, h2.own⟩
  · obtain ⟨a, ks, l', rfl, h1, _, h2, _⟩ := own_odic.mp z
    exact ⟨a, ks, l', rfl, .inl h1, h2⟩
def rDIn (neg : Bool) : R2 := fun y x H Q => ∃ a o, x = .ref a ∧ DGet H a y o ∧ Q (.bl (if neg then !o.isSome else o.isSome)) H
def rDGet : R2 := fun x y H Q => ∃ a v, x = .ref a ∧ DGet H a y (some v) ∧ Q v H
section
variable {X : Cx}
theorem ix_dk (hu : X.A.units + 1 < cLine) : IxR X rDGet := by
  intro value slice pins s σ H x y v u Q I rx ry ⟨a, w', ex, g, q⟩ hs
  subst ex
  obtain rfl : v = Value.ref a := rx
  exact PyProof.Rows.tail_any (dict_typeIs I g) PySem.F.slot_dict_getitem.lookup (d_getItem hu I g ry fun w' s3 I3 rw' => ⟨_, H, I3, rw', q⟩) hs
end
def dInK (neg : Bool) : D → D → Option D := fun y d => match dkvs? d, dkey y with
  | some kvs, some _ => some (.bl (if neg then !(lkD kvs y).isSome else (lkD kvs y).isSome))
  | _, _ => none
def dIxK : D → D → Option D := fun d y => match dkvs? d, dkey y with
  | some kvs, some _ => (lkD kvs y).bind fun x => if isF x then some x else none
  | _, _ => none
theorem ob_ixK {w : Wd} : OpB w rDGet dIxK := by
  intro s σ b e x y d vx vy Q S zx zy hg R
  unfold dIxK at hg
  split at hg
  · rename_i kvs ky hk hy
    obtain ⟨a, ks, l, rfl, h1, h2⟩ := zx.dict S hk
    have hyF : isF y = true := by cases y <;> first | rfl | cases hy
    have hv : vy = kV ky := dkey_kV (zy.fz hyF) hy
    obtain ⟨d', hd, hf⟩ := Option.bind_eq_some_iff.mp hg
    split at hf
    · rename_i hF
      cases hf
      rcases h2.lk hy with ⟨k1, k2⟩ | ⟨d', v', l', k1, k2, k3, _⟩
      · rw [k1] at hd; cases hd
      · rw [k1] at hd
        cases hd
        exact ⟨a, v', rfl, .inl ⟨ks, ky, h1, hv, k2.symm⟩, R.now S ((own_fz hF).mp k3).1⟩
    · cases hf
  · cases hg
end Vm

set_option maxHeartbeats 1000000
namespace Vm
open PySem L2
def NK (X : Cx) (H : Hp) (k : NestedKey) (y : V) : Prop := ∀ (pins : List (Addr × Obj)) (σ : L2.St) (s : Shared) (u : Value), Inv X pins σ H s → RelV y u → NestedIs s.heap k u
def NKL (X : Cx) (H : Hp) (ks : List NestedKey) (ys : List V) : Prop := ∀ (pins : List (Addr × Obj)) (σ : L2.St) (s : Shared) (us : List Value), Inv X pins σ H s → Vals ys us → NestedAll s.heap ks us
theorem NK.tup {X : Cx} {H : Hp} {a : Addr} {ks : List NestedKey} {vs : List V} (h : NKL X H ks vs) (e : Rd H a (.tup vs)) : NK X H (.tup ks) (.ref a) := by
  intro pins σ s u I r
  obtain rfl : u = Value.ref a := r
  obtain ⟨_, its, r, o, h1, h2, n, h3⟩ := e.ok I.hok
  exact .tup h1 h2 h3 (by simpa using h pins σ s its I r)
section
variable {X : Cx} {w : Wd} {G : Gs} {H : Hp}
mutual
theorem Fz.nk (hx : ∀ a u, G.F a = some u → H a = some u) : ∀ {d : D} {v : V} {k : NestedKey}, Fz w G d v → dnest d = some k → NK X H k v
  | .non, v, k, h, e => by
    cases fz_non.mp h
    cases e
    intro pins σ s u I r
    cases (show u = Value.none from r)
    exact .none
  | .bl b, v, k, h, e => by
    cases fz_bl.mp h
    cases e
    intro pins σ s u I r
    cases (show u = Value.bool b from r)
    exact .bool rfl
  | .int i, v, k, h, e => by
    cases fz_int.mp h
    cases e
    intro pins σ s u I r
    obtain ⟨t, rfl⟩ := (show ∃ t, u = Value.int i t from r)
    exact .int _ _
  | .str x, v, k, h, e => by
    cases (fz_str.mp h).1
    cases e
    intro pins σ s u I r
    obtain ⟨t, rfl⟩ := (show ∃ t, u = Value.str x t from r)
    exact .text _ _
  | .tup ds, v, k, h, e => by
    obtain ⟨a, vs, rfl, h1, _, h3⟩ := fz_tup.mp h
    obtain ⟨ks, hk, rfl⟩ := Option.map_eq_some_iff.mp (show (dnestL ds).map NestedKey.tup = some k by simpa [dnest] using e)
    exact NK.tup (FzL.nk hx h3 hk) (.inl (hx _ _ h1))
  | .tux ds, v, k, h, e => by
    obtain ⟨a, o, vs, rfl, h1, _, _, h3⟩ := fz_tux.mp h
    obtain ⟨ks, hk, rfl⟩ := Option.map_eq_some_iff.mp (show (dnestL ds).map NestedKey.tup = some k by simpa [dnest] using e)
    exact NK.tup (FzL.nk hx h3 hk) (.inr ⟨o, hx _ _ h1⟩)
  | .lst _, v, k, h, e => by simp [dnest] at e
  | .rol _, v, k, h, e => by simp [dnest] at e
  | .dic _, v, k, h, e => by simp [dnest] at e
  | .dix _, v, k, h, e => by simp [dnest] at e
  | .ins _ _, v, k, h, e => by simp [dnest] at e
  | .olst _, v, k, h, e => by simp [dnest] at e
  | .odic _, v, k, h, e => by simp [dnest] at e
  | .odix _, v, k, h, e => by simp [dnest] at e
  | .oins _ _ _, v, k, h, e => by simp [dnest] at e
  | .loc _, v, k, h, e => by simp [dnest] at e
  | .exn _ _, v, k, h, e => by simp [dnest] at e
  | .fn _, v, k, h, e => by simp [dnest] at e
  | .otbl _, v, k, h, e => by simp [dnest] at e
  | .otup _, v, k, h, e => by simp [dnest] at e
theorem FzL.nk (hx : ∀ a u, G.F a = some u → H a = some u) : ∀ {ds : List D} {vs : List V} {ks : List NestedKey}, FzL w G ds vs → dnestL ds = some ks → NKL X H ks vs
  | [], vs, ks, h, e => by
    cases fzl_nil.mp h
    cases (show some [] = some ks by simpa [dnestL] using e)
    intro pins σ s us I r
    cases r
    exact .nil
  | d :: ds, vs, ks, h, e => by
    obtain ⟨v, r, rfl, h1, h2⟩ := fzl_cons.mp h
    obtain ⟨k, hk, e⟩ := Option.bind_eq_some_iff.mp (show (dnest d).bind (fun k => (dnestL ds).map (k :: ·)) = some ks by simpa [dnestL] using e)
    obtain ⟨ks', hks, rfl⟩ := Option.map_eq_some_iff.mp e
    intro pins σ s us I q
    cases q with
    | cons q1 q2 => exact .cons (Fz.nk hx h1 hk pins σ s _ I q1) (FzL.nk hx h2 hks pins σ s _ I q2)
end
end
def valN (es : List (NestedKey × Addr × V)) (k : NestedKey) : Option V := (es.find? fun e => decide (e.1 = k)).map (·.2.2)
theorem valN_pos {p : NestedKey × Addr × V} {r : List (NestedKey × Addr × V)} {k : NestedKey} (e : p.1 = k) : valN (p :: r) k = some p.2.2 := by simp [valN, List.find?_cons, e]
theorem valN_neg {p : NestedKey × Addr × V} {r : List (NestedKey × Addr × V)} {k : NestedKey} (e : ¬ p.1 = k) : valN (p :: r) k = valN r k := by simp [valN, List.find?_cons, e]
def NKs (X : Cx) (H : Hp) (es : List (NestedKey × Addr × V)) : Prop := ∀ e ∈ es, e.1.depth ≤ 8 ∧ NK X H e.1 (.ref e.2.1)
abbrev NE : List (NestedKey × Addr × V) → List (NestedKey × Addr × Value) → Prop := Paired fun (p : NestedKey × Addr × V) (q : NestedKey × Addr × Value) => p.1 = q.1 ∧ p.2.1 = q.2.1 ∧ RelV p.2.2 q.2.2
theorem NE.val {k : NestedKey} : ∀ {es : List (NestedKey × Addr × V)} {xs : List (NestedKey × Addr × Value)}, NE es xs → RelO (valN es k) ((atKey xs k).map (·.2))
  | _, _, .nil => True.intro
  | _, _, .cons (a := p) (b := q) (l₁ := r) (l₂ := t) h g => by
    by_cases e : p.1 = k
    · have e' : q.1 = k := h.1.symm.trans e
      rw [valN_pos e]
      have : atKey (q :: t) k = some q.2 := by simp [atKey, List.find?_cons, e']
      rw [this]
      exact h.2.2
    · have e' : ¬ q.1 = k := fun z => e (h.1.trans z)
      rw [valN_neg e]
      have : atKey (q :: t) k = atKey t k := by simp [atKey, List.find?_cons, e']
      rw [this]
      exact NE.val g
theorem nst_read {X : Cx} {w : Wd} {pins : List (Addr × Obj)} {σ : L2.St} {H : Hp} {s : Shared} {a : Addr} {es : List (NestedKey × Addr × V)} (hP : X.prog = w.P) (hW : X.w = w.W) (I : Inv X pins σ H s) (h : Rd H a (nst w a es)) (hk : NKs X H es) :
    (a == sysModules) = false ∧ ∃ xs, NE es xs ∧ s.heap.DictOfH (nestedKind X.prog X.w) a xs := by
  obtain ⟨⟨hs, xs, o, ea, ep, r, h1, h2, h3, h4, h5⟩, _, _⟩ := h.ok I.hok
  refine ⟨hs, xs, r, o, ea, ep, h1, h2, h3, ?_, fun x hx => ?_, h5⟩
  · rw [hP, hW]
    exact h4
  · have all : ∀ {es : List (NestedKey × Addr × V)} {xs : List (NestedKey × Addr × Value)}, NE es xs → NKs X H es → ∀ x ∈ xs, NestedIs s.heap x.1 (.ref x.2.1) ∧ x.1.depth ≤ 8 := by
      intro es xs r
      induction r with
      | nil => intro _ x hx; cases hx
      | @cons p q ps qs h t ih =>
        intro hk x hx
        rcases List.mem_cons.mp hx with rfl | hx
        · obtain ⟨k1, k2⟩ := hk p (List.mem_cons_self ..)
          rw [← h.1, ← h.2.1]
          exact ⟨k2 pins σ s _ I rfl, k1⟩
        · exact ih (fun e he => hk e (List.mem_cons_of_mem _ he)) x hx
    exact all r hk x hx
def rNIn (X : Cx) (w : Wd) (neg : Bool) : R2 := fun y x H Q => ∃ a es k kb, x = .ref a ∧ y = .ref kb ∧ Rd H a (nst w a es) ∧ NKs X H es ∧ k.depth ≤ 8 ∧ NK X H k y ∧ Q (.bl (if neg then !(valN es k).isSome else (valN es k).isSome)) H
def rNGet (X : Cx) (w : Wd) : R2 := fun x y H Q => ∃ a es k kb v, x = .ref a ∧ y = .ref kb ∧ Rd H a (nst w a es) ∧ NKs X H es ∧ k.depth ≤ 8 ∧ NK X H k y ∧ valN es k = some v ∧ Q v H
section
variable {X : Cx} {w : Wd}
theorem nk_room {A : Around} (h : A.units + 65 < cLine) {P : Program} {W : World} : (nestedKind P W).room A.in1 := by
  show A.in1.units + 8 < cLine
  rw [Around.in1_units]
  omega
theorem ix_ns (hP : X.prog = w.P) (hW : X.w = w.W) (hu : X.A.units + 65 < cLine) : IxR X (rNGet X w) := by
  intro value slice pins s σ H x y v u Q I rx ry ⟨a, es, k, kb, z, ex, ey, h1, h2, h3, h4, hz, q⟩ hs
  subst ex ey
  obtain rfl : v = Value.ref a := rx
  have hk := h4 pins σ s u I ry
  obtain rfl : u = Value.ref kb := ry
  obtain ⟨hsy, xs, r, hm⟩ := nst_read hP hW I h1 h2
  obtain ⟨w', hw, rw'⟩ := RelO.some_of (v := z) (o := (atKey xs k).map (·.2)) (by rw [← hz]; exact NE.val r)
  obtain ⟨p, hp, hp2⟩ := Option.map_eq_some_iff.mp hw
  refine PyProof.Rows.tail_any hm.typeIs PySem.F.slot_dict_getitem.lookup (wpAny_getItem_heap (nk_room hu) ⟨hk, h3⟩ hm hp ?_) hs
  rw [hp2]
  exact ⟨z, H, I.tok _, rw', q⟩
end
section
variable {w : Wd} {G : Gs} {H : Hp} {X : Cx}
theorem OwnN.nks (hx : ∀ a u, G.F a = some u → H a = some u) : ∀ {kvs : List (D × D)} {es : List (NestedKey × Addr × V)} {l : List Addr}, OwnN w G H kvs es l → NKs X H es
  | [], es, l, h => by
    obtain ⟨rfl, rfl⟩ := ownn_nil.mp h
    exact fun e he => nomatch he
  | (k, d) :: r, es, l, h => by
    obtain ⟨nk, a, v, t, l1, l2, rfl, h0, hd, hk, h1, h2, rfl⟩ := ownn_cons.mp h
    intro e he
    rcases List.mem_cons.mp he with rfl | he
    · exact ⟨hd, Fz.nk hx hk h0⟩
    · exact OwnN.nks hx h2 e he
theorem OwnN.lk {y : D} {ky : NestedKey} (hy : dnest y = some ky) : ∀ {kvs : List (D × D)} {es : List (NestedKey × Addr × V)} {l : List Addr}, OwnN w G H kvs es l →
    (lkD kvs y = none ∧ valN es ky = none) ∨ ∃ d v l', lkD kvs y = some d ∧ valN es ky = some v ∧ Own w G H d v l' ∧ ∀ a ∈ l', a ∈ l
  | [], ks, l, h => by
    obtain ⟨rfl, rfl⟩ := ownn_nil.mp h
    exact .inl ⟨rfl, rfl⟩
  | (k, d) :: r, ks, l, h => by
    obtain ⟨key, a, v, t, l1, l2, rfl, h0, _, _, h1, h2, rfl⟩ := ownn_cons.mp h
    unfold lkD
    rw [kq_nest h0 hy]
    by_cases e : key = ky
    · rw [decide_eq_true e, if_pos rfl]
      exact .inr ⟨d, v, l1, rfl, valN_pos e, h1, fun a ha => List.mem_append_left _ ha⟩
    · rw [decide_eq_false e, if_neg (by decide), valN_neg e]
      rcases OwnN.lk hy h2 with h | ⟨d', v', l', k1, k2, k3, k4⟩
      · exact .inl h
      · exact .inr ⟨d', v', l', k1, k2, k3, fun a ha => List.mem_append_right _ (k4 a ha)⟩
end
def nkvs? : D → Option (List (D × D))
  | .dix kvs => some kvs
  | .odix kvs => some kvs
  | _ => none
def isTp : D → Bool
  | .tup _ => true
  | .tux _ => true
  | _ => false
theorem Br.ndict {w : Wd} {b : Bs} {σ : L2.St} {e : En} {d : D} {v : V} {kvs : List (D × D)} (S : Sat w b σ e) (z : Br w b d v) (h : nkvs? d = some kvs) : ∃ a es l, v = .ref a ∧ Rd b.H a (nst w a es) ∧ OwnN w b.G b.H kvs es l := by
  obtain ⟨l, z, _⟩ := z
  cases d <;> try cases h
  · obtain ⟨a, o, ks, rfl, h1, _, h2⟩ := fz_dix.mp ((own_fz rfl).mp z).1
    exact ⟨a, ks, [], rfl, .inr ⟨o, S.ex _ _ h1⟩, h2.own⟩
  · obtain ⟨a, ks, l', rfl, h1, _, h2, _⟩ := own_odix.mp z
    exact ⟨a, ks, l', rfl, .inl h1, h2⟩
theorem Fz.tp {w : Wd} {G : Gs} {d : D} {v : V} (z : Fz w G d v) (h : isTp d = true) : ∃ a, v = .ref a := by
  cases d <;> try cases h
  · obtain ⟨a, _, rfl, _⟩ := fz_tup.mp z
    exact ⟨a, rfl⟩
  · obtain ⟨a, _, _, rfl, _⟩ := fz_tux.mp z
    exact ⟨a, rfl⟩
theorem isTp_F {d : D} (h : isTp d = true) : isF d = true := by
  cases d <;> first | rfl | cases h
def nkey (y : D) : Option NestedKey := if isTp y then (dnest y).bind fun k => if k.depth ≤ 8 then some k else none else none
theorem nkey_some {y : D} {k : NestedKey} (h : nkey y = some k) : isTp y = true ∧ dnest y = some k ∧ k.depth ≤ 8 := by
  unfold nkey at h
  split at h
  · obtain ⟨k', h1, h2⟩ := Option.bind_eq_some_iff.mp h
    split at h2
    · cases h2
      exact ⟨by assumption, h1, by assumption⟩
    · cases h2
  · cases h
def dInN (neg : Bool) : D → D → Option D := fun y d => match nkvs? d, nkey y with
  | some kvs, some _ => some (.bl (if neg then !(lkD kvs y).isSome else (lkD kvs y).isSome))
  | _, _ => none
def dIxN : D → D → Option D := fun d y => match nkvs? d, nkey y with
  | some kvs, some _ => (lkD kvs y).bind fun x => if isF x then some x else none
  | _, _ => none
theorem ob_ixN {w : Wd} {X : Cx} : OpB w (rNGet X w) dIxN := by
  intro s σ b e x y d vx vy Q S zx zy hg R
  unfold dIxN at hg
  split at hg
  · rename_i kvs ky hk hy
    obtain ⟨y1, y2, y3⟩ := nkey_some hy
    obtain ⟨a, ks, l, rfl, h1, h2⟩ := zx.ndict S hk
    have zy' := zy.fz (isTp_F y1)
    obtain ⟨kb, rfl⟩ := zy'.tp y1
    obtain ⟨d', hd, hf⟩ := Option.bind_eq_some_iff.mp hg
    split at hf
    · rename_i hF
      cases hf
      rcases h2.lk y2 with ⟨k1, k2⟩ | ⟨d', v', l', k1, k2, k3, _⟩
      · rw [k1] at hd; cases hd
      · rw [k1] at hd
        cases hd
        exact ⟨a, ks, ky, kb, v', rfl, rfl, h1, h2.nks S.ex, y3, zy'.nk S.ex y2, k2, R.now S ((own_fz hF).mp k3).1⟩
    · cases hf
  · cases hg
end Vm

set_option maxHeartbeats 1000000
namespace Vm
open PySem L2
theorem _root_.L2.PSet.or {X : Cx} {t t' : TSet} (h : PSet X t) (h' : PSet X t') : PSet X (fun o i v H Q => t o i v H Q ∨ t' o i v H Q) := fun pins s σ H o i v ov iv u Q I ro ri rv q =>
  q.elim (h pins s σ H o i v ov iv u Q I ro ri rv) (h' pins s σ H o i v ov iv u Q I ro ri rv)
def rSetK : TSet := fun o i v H Q => ∃ a H', o = .ref a ∧ DPut H a i v H' ∧ Q H'
theorem set_dk {X : Cx} (hu : X.A.units + 1 < cLine) : PSet X rSetK := by
  intro pins s σ H o i v ov iv u Q I ro ri rv ⟨a, H', eo, g, q⟩
  subst eo
  obtain rfl : ov = Value.ref a := ro
  exact d_setItem hu I g ri rv fun s4 I4 => ⟨H', I4, q⟩
def putN (es : List (NestedKey × Addr × V)) (k : NestedKey) (a : Addr) (v : V) : List (NestedKey × Addr × V) :=
  if es.any (fun e => decide (e.1 = k)) then es.map (fun e => if e.1 = k then (e.1, e.2.1, v) else e) else es ++ [(k, a, v)]
theorem NE.any {k : NestedKey} : ∀ {es : List (NestedKey × Addr × V)} {xs : List (NestedKey × Addr × Value)}, NE es xs → (es.any fun e => decide (e.1 = k)) = (atKey xs k).isSome
  | _, _, .nil => rfl
  | _, _, .cons (a := p) (b := q) (l₁ := r) (l₂ := t) h g => by
    rw [List.any_cons, NE.any (k := k) g]
    by_cases e : p.1 = k
    · have e' : q.1 = k := h.1.symm.trans e
      simp [e, atKey, List.find?_cons, e']
    · have e' : ¬ q.1 = k := fun z => e (h.1.trans z)
      simp [e, atKey, List.find?_cons, e']
theorem NE.mapP {k : NestedKey} {v : V} {u : Value} (rv : RelV v u) : ∀ {es : List (NestedKey × Addr × V)} {xs : List (NestedKey × Addr × Value)}, NE es xs → NE (es.map fun e => if e.1 = k then (e.1, e.2.1, v) else e) (xs.map (putAt k u))
  | _, _, .nil => .nil
  | _, _, .cons (a := p) (b := q) h g => by
    refine .cons ?_ (NE.mapP rv g)
    unfold putAt
    dsimp only
    by_cases e : p.1 = k
    · have e' : q.1 = k := h.1.symm.trans e
      rw [if_pos e, if_pos e']
      exact ⟨h.1, h.2.1, rv⟩
    · have e' : ¬ q.1 = k := fun z => e (h.1.trans z)
      rw [if_neg e, if_neg e']
      exact h
theorem NE.put {k : NestedKey} {a : Addr} {v : V} {u : Value} (rv : RelV v u) {es : List (NestedKey × Addr × V)} {xs : List (NestedKey × Addr × Value)} (h : NE es xs) : NE (putN es k a v) (storedH xs k a u) := by
  unfold putN storedH
  rw [h.any]
  split
  · exact NE.mapP rv h
  · exact Paired.snoc h ⟨rfl, rfl, rv⟩
def rSetN (X : Cx) (w : Wd) : TSet := fun o i v H Q => ∃ a es k kb, o = .ref a ∧ i = .ref kb ∧ H a = some (nst w a es) ∧ NKs X H es ∧ k.depth ≤ 8 ∧ NK X H k i ∧ es.length ≤ sizeLine ∧ Q (upd H a (nst w a (putN es k kb v)))
theorem set_ns {X : Cx} {w : Wd} (hP : X.prog = w.P) (hW : X.w = w.W) (hu : X.A.units + 65 < cLine) : PSet X (rSetN X w) := by
  intro pins s σ H o i v ov iv u Q I ro ri rv ⟨a, es, k, kb, eo, ei, h1, h2, h3, h4, hl, q⟩
  subst eo ei
  obtain rfl : ov = Value.ref a := ro
  have hk := h4 pins σ s iv I ri
  obtain rfl : iv = Value.ref kb := ri
  obtain ⟨hs, xs, r, hm⟩ := nst_read hP hW I (.inl h1) h2
  refine wpAny_setItem_heap (hsz := by rw [← Paired.length r]; exact hl) (nk_room hu) ⟨hk, h3⟩ hm fun h' hm' hs' => ⟨_, ?_, q⟩
  have hmu : Mut (H a) := by rw [h1]; exact True.intro
  obtain ⟨q, ea, ep, hq, k2, k3, k4, _, k5⟩ := hm'
  refine d_write I hmu hs' ⟨q, hq⟩ (show ObjOk _ _ _ _ _ (HO.ext _) from ⟨⟨hs, _, q, ea, ep, NE.put rv r, hq, k2, k3, ?_, k5⟩, ⟨q, hq⟩, fun g1 g2 ⟨m1, xs', o', e1, e2, m2, m3, m4⟩ hg => ⟨m1, xs', o', e1, e2, m2, hg _ m3, m4⟩⟩)
  rw [hP, hW] at k4
  exact k4
section
variable {w : Wd} {W : Wx} {s : Bool} {X : Cx} {pos : Pos}
theorem RetV.lay {b : Bs} {σ : L2.St} {e : En} {d : D} {Q : VK} (S : Sat w b σ e) (r : RetV w s b σ e d Q) {p : Addr} {u : HO} (hp : b.H p = none) (z : Own w b.G (upd b.H p u) d (.ref p) [p]) : Q (.ref p) (upd b.H p u) := by
  refine r (.ref p) (b.lay p u) (Gr.lay hp) (S.lay hp) ⟨[p], z, by simp, fun a ha => ?_⟩
  have : a = p := by simpa using ha
  subst this
  exact ⟨S.fresh_F hp, S.fresh_own hp, .inl hp⟩
def eDic : EM := fun e => .ok (.odic []) e
def eDix : EM := fun e => .ok (.odix []) e
theorem PR.okV {σ : L2.St} {b : Bs} {e : En} {d : D} {Q : VK} (h : PR w W s σ b (Rs.ok d e) fun d b' _ => ∀ v, Tmp w b b' d v → Q v b'.H) : RetV w s b σ e d Q := fun v b' g S t => h b' g S v t
theorem vDic : PE X (.Dict [] [] pos) (tV w W s eDic) := pe_dnewK.imp fun σ H Q ⟨b, e, he, S, h⟩ => by
  subst he
  exact fun p hp => (PR.okV h).lay S hp (own_odic.mpr ⟨p, [], [], rfl, upd_same, Nat.zero_le _, ownk_nil.mpr ⟨rfl, rfl⟩, rfl⟩)
end
section
variable {w : Wd} {b b0 : Bs} {σ : L2.St} {e : En} {x : Ix} {d d' : D} {u' : HO} {a : Addr} {l l' : List Addr}
theorem Sat.mutO (S : Sat w b σ e) (g : Gr false b0 b) (hx : e.at x = some d) (hr : rootV b σ x = some (.ref a)) (ho : b.o x = a :: l) (z : Own w b.G (upd b.H a u') d' (.ref a) (a :: l')) (na : a ∉ l') (nd : l'.Nodup)
    (hs : ∀ c ∈ l', c ∈ l ∨ (b.G.F c = none ∧ ¬ b.own c ∧ (b0.H c = none ∨ b0.own c))) : ∃ b', b'.H = upd b.H a u' ∧ Gr false b0 b' ∧ Sat w b' σ (e.put x (some d')) := by
  have hain : a ∈ b.o x := by rw [ho]; exact List.mem_cons_self ..
  have := S.hold (σ' := σ) (x := x) (H' := upd b.H a u') (l := a :: l') (d := d') (v := .ref a) g (at_ok hx) (fun c u h n => by
      have : c ≠ a := fun z => n (z ▸ hain)
      exact (upd_ne this).trans h) (fun c h => by
      by_cases hc : c = a
      · rw [hc, upd_same] at h
        cases h
      · rw [upd_ne hc] at h
        exact h)
    z (List.nodup_cons.mpr ⟨na, nd⟩) (fun c hc => by
      rcases List.mem_cons.mp hc with rfl | hc
      · exact ⟨S.fo x _ hain, .inl hain⟩
      · rcases hs c hc with k | ⟨k1, k2, k3⟩
        · have : c ∈ b.o x := by rw [ho]; exact List.mem_cons_of_mem _ k
          exact ⟨S.fo x c this, .inl this⟩
        · exact ⟨k1, .inr ⟨k2, k3⟩⟩) hr (fun _ _ => rfl) rfl
  exact ⟨_, rfl, this.1, this.2⟩
end
section
variable {w : Wd} {G : Gs} {H : Hp}
theorem OwnN.append : ∀ {ds ds' : List (D × D)} {vs vs' : List (NestedKey × Addr × V)} {l l' : List Addr}, OwnN w G H ds vs l → OwnN w G H ds' vs' l' → OwnN w G H (ds ++ ds') (vs ++ vs') (l ++ l')
  | [], ds', vs, vs', l, l', h, h' => by
    obtain ⟨rfl, rfl⟩ := ownn_nil.mp h
    exact h'
  | (k, d) :: ds, ds', vs, vs', l, l', h, h' => by
    obtain ⟨key, a, v, r, l1, l2, rfl, h0, hd, hk, h1, h2, rfl⟩ := ownn_cons.mp h
    exact ownn_cons.mpr ⟨key, a, v, r ++ vs', l1, l2 ++ l', rfl, h0, hd, hk, h1, OwnN.append h2 h', by rw [List.append_assoc]⟩
theorem OwnN.any {y : D} {ky : NestedKey} (hy : dnest y = some ky) : ∀ {kvs : List (D × D)} {es : List (NestedKey × Addr × V)} {l : List Addr}, OwnN w G H kvs es l → (kvs.any fun p => kq p.1 y) = es.any fun p => decide (p.1 = ky)
  | [], ks, l, h => by
    obtain ⟨rfl, rfl⟩ := ownn_nil.mp h
    rfl
  | (k, d) :: r, ks, l, h => by
    obtain ⟨key, a, v, t, l1, l2, rfl, h0, _, _, h1, h2, rfl⟩ := ownn_cons.mp h
    simp only [List.any_cons, kq_nest h0 hy, OwnN.any hy h2]
theorem OwnN.mapP {y x : D} {v : V} {ky : NestedKey} (hy : dnest y = some ky) (z : Fz w G x v) : ∀ {kvs : List (D × D)} {es : List (NestedKey × Addr × V)} {l : List Addr}, OwnN w G H kvs es l → l.Nodup →
    ∃ l', OwnN w G H (kvs.map fun p => if kq p.1 y then (p.1, x) else p) (es.map fun p => if p.1 = ky then (p.1, p.2.1, v) else p) l' ∧ l'.Nodup ∧ ∀ a ∈ l', a ∈ l
  | [], ks, l, h, hn => by
    obtain ⟨rfl, rfl⟩ := ownn_nil.mp h
    exact ⟨[], ownn_nil.mpr ⟨rfl, rfl⟩, List.nodup_nil, fun _ h => h⟩
  | (k, d) :: r, ks, l, h, hn => by
    obtain ⟨key, a, u, t, l1, l2, rfl, h0, hd, hk, h1, h2, rfl⟩ := ownn_cons.mp h
    obtain ⟨n1, n2, n3⟩ := List.nodup_append.mp hn
    obtain ⟨l', k1, k2, k3⟩ := OwnN.mapP hy z h2 n2
    simp only [List.map_cons]
    rw [kq_nest h0 hy]
    by_cases e : key = ky
    · rw [decide_eq_true e, if_pos rfl, if_pos e]
      exact ⟨l', ownn_cons.mpr ⟨key, a, v, _, [], l', rfl, h0, hd, hk, z.own, k1, rfl⟩, k2, fun a ha => List.mem_append_right _ (k3 a ha)⟩
    · rw [decide_eq_false e, if_neg (by decide), if_neg e]
      exact ⟨l1 ++ l', ownn_cons.mpr ⟨key, a, u, _, l1, l', rfl, h0, hd, hk, h1, k1, rfl⟩, List.nodup_append.mpr ⟨n1, k2, fun a ha c hc => n3 a ha c (k3 c hc)⟩, fun a ha => (List.mem_append.mp ha).elim (fun h => List.mem_append_left _ h) fun h => List.mem_append_right _ (k3 a h)⟩
theorem OwnN.put {y x : D} {v : V} {ky : NestedKey} {kb : Addr} (hy : dnest y = some ky) (hd : ky.depth ≤ 8) (zy : Fz w G y (.ref kb)) (z : Fz w G x v) {kvs : List (D × D)} {es : List (NestedKey × Addr × V)} {l : List Addr} (h : OwnN w G H kvs es l) (hn : l.Nodup) :
    ∃ l', OwnN w G H (putD kvs y x) (putN es ky kb v) l' ∧ l'.Nodup ∧ ∀ a ∈ l', a ∈ l := by
  unfold putD putN
  rw [h.any hy]
  split
  · exact h.mapP hy z hn
  · refine ⟨l ++ [], h.append (ownn_cons.mpr ⟨ky, kb, v, [], [], [], rfl, hy, hd, zy, z.own, ownn_nil.mpr ⟨rfl, rfl⟩, rfl⟩), ?_⟩
    rw [List.append_nil]
    exact ⟨hn, fun _ h => h⟩
end
def kSetA (y x : D) : D → Option D
  | .olst ds => match y with
    | .int j => (ixN ds.length j).map fun n => .olst (ds.set n x)
    | _ => none
  | .odic kvs => if (dkey y).isSome ∧ kvs.length < LIM then some (.odic (putD kvs y x)) else none
  | .odix kvs => if (nkey y).isSome ∧ kvs.length < LIM then some (.odix (putD kvs y x)) else none
  | _ => none
def hasO {α : Type} (i : Nat) (e : En) (no : α) (k : α) : α := match hold? i e with
  | some (_, .olst _) => k
  | some (_, .odic _) => k
  | some (_, .odix _) => k
  | _ => no
def sSetA (i : Nat) (fi fv : EM) : SM := fun e => ofE (fv e) fun d e1 => hasO i e1 .stuck (ofE (fi e1) fun j e2 => nxO (chg i (kSetA j d) e2))
def rSetA (X : Cx) (w : Wd) : TSet := fun o i v H Q => rSetL o i v H Q ∨ rSetK o i v H Q ∨ rSetN X w o i v H Q
section
variable {w : Wd} {W : Wx} {σ : L2.St} {b b0 : Bs} {e : En} {i : Nat} {D' : Ends}
theorem hasO_some {k : So} (S : Sat w b σ e) (h : SR w W b (hasO i e .stuck k) D') : ∃ a, σ[i]? = some (some (.ref a)) ∧ SR w W b k D' := by
  unfold hasO at h
  split at h
  · rename_i x ds hh
    obtain ⟨v, h1, h2, h3, h4⟩ := S.root hh
    obtain ⟨a, _, _, rfl, _⟩ := own_olst.mp h4
    exact ⟨a, h1, h⟩
  · rename_i x ds hh
    obtain ⟨v, h1, h2, h3, h4⟩ := S.root hh
    obtain ⟨a, _, _, rfl, _⟩ := own_odic.mp h4
    exact ⟨a, h1, h⟩
  · rename_i x ds hh
    obtain ⟨v, h1, h2, h3, h4⟩ := S.root hh
    obtain ⟨a, _, _, rfl, _⟩ := own_odix.mp h4
    exact ⟨a, h1, h⟩
  · exact h.elim
theorem setA_step {X : Cx} {y x : D} {vy vx : V} {va : V} {Q : Hp → Prop} (S : Sat w b σ e) (zy : Fz w b.G y vy) (zx : Fz w b.G x vx) {e3 : En} (h : chg i (kSetA y x) e = some e3) (hv : σ[i]? = some (some va))
    (k : ∀ b', Gr false b b' → Sat w b' σ e3 → Q b'.H) : rSetA X w va vy vx b.H Q := by
  obtain ⟨x1, d1, d2, m1, m2, rfl⟩ := chg_some h
  obtain ⟨v, n1, n2, n3, n4⟩ := S.root m1
  rw [hv] at n1
  cases n1
  have hnd := S.nd x1
  cases d1 <;> try cases m2
  · rename_i ds
    cases y <;> try cases m2
    rename_i j
    obtain ⟨n, hn, rfl⟩ := Option.map_eq_some_iff.mp (show (ixN ds.length j).map _ = some d2 from m2)
    obtain ⟨a, vs, l', rfl, k1, k2, k3, k4⟩ := own_olst.mp n4
    rw [k4] at hnd
    cases fz_int.mp zy
    obtain ⟨l3, o1, o2, o3⟩ := k3.set n (List.nodup_cons.mp hnd).2 zx
    obtain ⟨b3, q1, q2, q3⟩ := S.mutL (Gr.refl b) n3 n2 k4 k1 (by rw [List.length_set]; exact k2) o1 o2 (fun c hc => .inl (o3 c hc))
    refine .inl ⟨a, vs, j, n, rfl, rfl, k1, by rw [k3.length]; exact hn, ?_⟩
    rw [← q1]
    exact k b3 q2 q3
  · rename_i kvs
    have m2' : (if (dkey y).isSome ∧ kvs.length < LIM then some (D.odic (putD kvs y x)) else none) = some d2 := m2
    split at m2'
    · rename_i hc
      cases m2'
      obtain ⟨ky, hy⟩ := Option.isSome_iff_exists.mp hc.1
      obtain ⟨a, ks, l', rfl, k1, k2, k3, k4⟩ := own_odic.mp n4
      rw [k4] at hnd
      have hn2 := List.nodup_cons.mp hnd
      obtain ⟨l3, o1, o2, o3⟩ := k3.put hy zx hn2.2
      have na : a ∉ l3 := fun z => hn2.1 (o3 a z)
      obtain ⟨b3, q1, q2, q3⟩ := S.mutO (u' := .dK (putK ks ky vx)) (l' := l3) (d' := .odic (putD kvs y x)) (Gr.refl b) n3 n2 k4 (own_odic.mpr ⟨a, _, l3, rfl, upd_same, Nat.le_trans (length_putD ..) (lim_size (show kvs.length + 1 ≤ LIM from hc.2)),
        o1.keep (.refl _) (fun c hc u hu => by
          have : c ≠ a := fun z => na (z ▸ hc)
          exact (upd_ne this).trans hu), rfl⟩) na o2 (fun c hc => .inl (o3 c hc))
      have hv : vy = kV ky := dkey_kV zy hy
      refine .inr (.inl ⟨a, _, rfl, .inl ⟨ks, ky, k1, hv, ?_, rfl⟩, ?_⟩)
      · rw [k3.length]
        exact Nat.lt_of_lt_of_le hc.2 (lim_size (Nat.le_refl _))
      · rw [← q1]
        exact k b3 q2 q3
    · cases m2'
  · rename_i kvs
    have m2' : (if (nkey y).isSome ∧ kvs.length < LIM then some (D.odix (putD kvs y x)) else none) = some d2 := m2
    split at m2'
    · rename_i hc
      cases m2'
      obtain ⟨ky, hy⟩ := Option.isSome_iff_exists.mp hc.1
      obtain ⟨y1, y2, y3⟩ := nkey_some hy
      obtain ⟨kb, rfl⟩ := zy.tp y1
      obtain ⟨a, ks, l', rfl, k1, k2, k3, k4⟩ := own_odix.mp n4
      rw [k4] at hnd
      have hn2 := List.nodup_cons.mp hnd
      obtain ⟨l3, o1, o2, o3⟩ := k3.put y2 y3 zy zx hn2.2
      have na : a ∉ l3 := fun z => hn2.1 (o3 a z)
      obtain ⟨b3, q1, q2, q3⟩ := S.mutO (u' := nst w a (putN ks ky kb vx)) (l' := l3) (d' := .odix (putD kvs y x)) (Gr.refl b) n3 n2 k4 (own_odix.mpr ⟨a, _, l3, rfl, upd_same, Nat.le_trans (length_putD ..) (lim_size (show kvs.length + 1 ≤ LIM from hc.2)),
        o1.keep (.refl _) (fun c hc u hu => by
          have : c ≠ a := fun z => na (z ▸ hc)
          exact (upd_ne this).trans hu), rfl⟩) na o2 (fun c hc => .inl (o3 c hc))
      refine .inr (.inr ⟨a, ks, ky, kb, rfl, rfl, k1, k3.nks S.ex, y3, zy.nk S.ex y2, ?_, ?_⟩)
      · rw [k3.length]
        exact Nat.le_of_lt (Nat.lt_of_lt_of_le hc.2 (lim_size (Nat.le_refl _)))
      · rw [← q1]
        exact k b3 q2 q3
    · cases m2'
end
section
variable {X : Cx} {W : Wx} {s : Bool} {w : Wd} {pos p : Pos} {x c : Expr} {fi fv : EM}
theorem set_A (o : Okx w X) : PSet X (rSetA X w) := by
  have := o.u
  exact set_list.or ((set_dk (by omega)).or (set_ns o.P o.W o.u))
theorem zSetA (i : Nat) {y : Str} {ix : Expr} {tp : Pos} (o : Okx w X) (hx : PE X x (tZ w W false fv)) (hi : PE X ix (tZ w W false fi)) (hN : X.N[i]? = some y := by rfl) (hv : Vis X.env.scope y := by first | exact Or.inl rfl | exact Or.inr (Or.inl rfl) | exact Or.inr (Or.inr rfl)) (hd : (y == ("__debug__" : Str)) = false := by decide)
    (hcd : (y == ("__classdict__" : Str)) = false := by decide)
    (ha : ∀ v, assign (.Subscript (.Name y p) ix tp) X.env v = (do
      let ov ← holding [v] (eval (.Name y p) X.env)
      let iv ← holding [v, ov] (eval ix X.env)
      standAt tp
      holding [v, ov, iv] (setItem ov iv v)
      release [v, ov, iv] []) := by intro _; rfl)
    (hs : swapsWithSole [.Subscript (.Name y p) ix tp] x pos.line X.env = pure false := by rfl) (hw : swappedStores [.Subscript (.Name y p) ix tp] x X.env = pure none := by rfl)
    (h1 : (assignEach [.Subscript (.Name y p) ix tp] X.env).map (·.2) = [assign (.Subscript (.Name y p) ix tp) X.env] := by rfl) :
    PS X (.Assign [.Subscript (.Name y p) ix tp] x pos) (tS w W (sSetA i fi fv)) :=
  (ps_asg hx (pg_sub (pv i hN hv hd hcd) hi (set_A o) ha) hs hw h1).imp fun D σ H ⟨b, e, he, S, h⟩ => by
  subst he
  refine ⟨b, e, rfl, S, (SR.ofE h).mono fun d b1 e1 g1 S1 h1 v z => ?_⟩
  obtain ⟨a, k1, h1⟩ := hasO_some S1 h1
  refine ⟨_, k1, b1, e1, rfl, S1, (SR.ofE h1).mono fun j b2 e2 g2 S2 h2 vj zj => ?_⟩
  obtain ⟨e3, h2, h3⟩ := nxO_some h2
  exact setA_step S2 zj (z.mono g2.g) h2 k1 fun b' g' S' => h3 b' σ g' S'
end
end Vm

set_option maxHeartbeats 1000000
namespace Vm
open PySem L2
def dInA := orD dIn (orD (dInK false) (dInN false))
def dNotInA := orD dNotIn (orD (dInK true) (dInN true))
def rDEq (neg : Bool) : R2 := fun x y H Q => ∃ a b ks ls, x = .ref a ∧ y = .ref b ∧ Rd H a (.dK ks) ∧ Rd H b (.dK ls) ∧ (ks = [] ∨ ls = []) ∧ Q (.bl (if neg then !(ks.length == ls.length) else ks.length == ls.length)) H
def dEqK (neg : Bool) : D → D → Option D := fun x y => match dkvs? x, dkvs? y with
  | some ks, some ls => if ks.isEmpty ∨ ls.isEmpty then some (.bl (if neg then !(ks.length == ls.length) else ks.length == ls.length)) else none
  | _, _ => none
section
variable {X : Cx}
theorem deq_hits {X : Cx} {s : Shared} {H : Hp} {ks ls : List (Key × V)} {va vb : List (Key × Value)} (ra : KV ks va) (rb : KV ls vb) (e : ks = [] ∨ ls = []) {A : Around} : va.length = vb.length → PySem.W.KeqHits A s vb va true := by
  intro h
  have l1 := Paired.length ra
  have l2 := Paired.length rb
  have : va = [] := by
    apply List.eq_nil_of_length_eq_zero
    rcases e with rfl | rfl
    · simpa using l1.symm
    · rw [h]; simpa using l2.symm
  subst this
  exact .nil
theorem op_dEq (hu : X.A.units < cLine) : OpR X (compareOp .Eq) (rDEq false) := by
  intro pins s σ H x y v u Q I rx ry ⟨a, b, ks, ls, ex, ey, ea, eb, em, q⟩
  subst ex ey
  obtain rfl : v = Value.ref a := rx
  obtain rfl : u = Value.ref b := ry
  obtain ⟨_, ya, va, ra, da⟩ := dk_rd I.hok ea
  obtain ⟨_, yb, vb, rb, db⟩ := dk_rd I.hok eb
  refine PySem.W.keq_eq (knd := mixKind X.prog X.w) (r := true) ya yb da db hu (deq_hits (X := X) (H := H) ra rb em) (fin_bl I q ?_)
  have l1 := Paired.length ra
  have l2 := Paired.length rb
  simp [l1, l2]
theorem op_dNe (hu : X.A.units < cLine) : OpR X (compareOp .NotEq) (rDEq true) := by
  intro pins s σ H x y v u Q I rx ry ⟨a, b, ks, ls, ex, ey, ea, eb, em, q⟩
  subst ex ey
  obtain rfl : v = Value.ref a := rx
  obtain rfl : u = Value.ref b := ry
  obtain ⟨_, ya, va, ra, da⟩ := dk_rd I.hok ea
  obtain ⟨_, yb, vb, rb, db⟩ := dk_rd I.hok eb
  refine PySem.W.keq_ne (knd := mixKind X.prog X.w) (r := true) ya yb da db hu (deq_hits (X := X) (H := H) ra rb em) (fin_bl I q ?_)
  have l1 := Paired.length ra
  have l2 := Paired.length rb
  simp [l1, l2]
end
theorem ob_eqK {w : Wd} {neg : Bool} : OpB w (rDEq neg) (dEqK neg) := by
  intro s σ b e x y d vx vy Q S zx zy hg R
  unfold dEqK at hg
  split at hg
  · rename_i ks ls hk hl
    split at hg
    · rename_i he
      cases hg
      obtain ⟨a, va, l, rfl, h1, h2⟩ := zx.dict S hk
      obtain ⟨a', vb, l', rfl, h1', h2'⟩ := zy.dict S hl
      refine ⟨a, a', va, vb, rfl, rfl, h1, h1', ?_, ?_⟩
      · rcases he with he | he
        · left
          have : ks = [] := by simpa using he
          subst this
          exact (ownk_nil.mp h2).1
        · right
          have : ls = [] := by simpa using he
          subst this
          exact (ownk_nil.mp h2').1
      · rw [h2.length, h2'.length]
        exact R.now S (fz_bl.mpr rfl)
    · cases hg
  · cases hg
def dEqA := orD dEq (dEqK false)
def dNeA := orD dNe (dEqK true)
section
variable {X : Cx} {w : Wd}
theorem r_eqA (o : Okx w X) : OpR X (compareOp .Eq) (fun x y H Q => rEqD w.K x y H Q ∨ rDEq false x y H Q) := by
  have := o.u
  exact (r_eq o).or (op_dEq (by omega))
theorem r_neA (o : Okx w X) : OpR X (compareOp .NotEq) (fun x y H Q => rNeD w.K x y H Q ∨ rDEq true x y H Q) := by
  have := o.u
  exact (r_ne o).or (op_dNe (by omega))
theorem ob_eqA : OpB w (fun x y H Q => rEqD w.K x y H Q ∨ rDEq false x y H Q) dEqA := ob_eq.or ob_eqK
theorem ob_neA : OpB w (fun x y H Q => rNeD w.K x y H Q ∨ rDEq true x y H Q) dNeA := ob_ne.or ob_eqK
def dIxA := orD dIx (orD dIxK dIxN)
theorem r_ixA (o : Okx w X) : IxR X (fun x y H Q => rIx w.K x y H Q ∨ rDGet x y H Q ∨ rNGet X w x y H Q) := by
  have := o.u
  exact (r_ix o).or ((ix_dk (by omega)).or (ix_ns o.P o.W o.u))
theorem ob_ixA : OpB w (fun x y H Q => rIx w.K x y H Q ∨ rDGet x y H Q ∨ rNGet X w x y H Q) dIxA := ob_ix.or (ob_ixK.or ob_ixN)
end
def itItems (f : EM) : LM := fun e => (f e).bind fun x e1 => match x with
  | .dic kvs => .ok (kvs.map fun p => .tup [p.1, p.2]) e1
  | _ => .stuck
theorem FzK.get {w : Wd} {G : Gs} : ∀ {kvs : List (D × D)} {ks : List (Key × V)} {i : Nat} {p : D × D}, FzK w G kvs ks → kvs[i]? = some p → ∃ k v, ks[i]? = some (k, v) ∧ dkey p.1 = some k ∧ Fz w G p.2 v
  | [], ks, i, p, h, e => by simp at e
  | (k, d) :: r, ks, 0, p, h, e => by
    obtain ⟨key, v, t, rfl, h0, h1, h2⟩ := fzk_cons.mp h
    simp at e
    subst e
    exact ⟨key, v, rfl, h0, h1⟩
  | (k, d) :: r, ks, i + 1, p, h, e => by
    obtain ⟨key, v, t, rfl, h0, h1, h2⟩ := fzk_cons.mp h
    obtain ⟨k', v', e', z⟩ := FzK.get (i := i) h2 (by simpa using e)
    exact ⟨k', v', by simpa using e', z⟩
section
variable {X : Cx} {W : Wx} {s : Bool} {w : Wd} {pos p tpos kpos cpos apos : Pos} {x c : Expr} {elts : List Expr} {f g : EM} {kk j : Nat}
end
def kints? : List (D × D) → Option (List Int)
  | [] => some []
  | (.int i, _) :: r => (kints? r).map (i :: ·)
  | _ => none
def dMinK : D → Option D
  | .odic kvs => match kints? kvs with
    | some (n :: ns) => some (.int (minL n ns))
    | _ => none
  | _ => none
def un2 (g g' : D → Option D) : D → Option D := fun x => match g x with
  | some d => some d
  | none => g' x
def dMinA := un2 dMin dMinK
def rMinA (K : PySem.W.Frag) : List V → Hp → VK → Prop := fun xs H Q => rMin K xs H Q ∨ rMinK xs H Q
end Vm

set_option maxHeartbeats 1000000
namespace Vm
open PySem L2
def filD (kvs : List (D × D)) (y : D) : List (D × D) := kvs.filter fun p => !kq p.1 y
section
variable {w : Wd} {G : Gs} {H : Hp}
end
section
variable {w : Wd} {b b0 : Bs} {σ : L2.St} {e : En} {x : Ix} {d d' : D} {u' : HO} {a : Addr} {l l' : List Addr}
end
def ePopD (i : Nat) (fk : EM) : EM := fun e => match e.sl[i]? with
  | some (some (.odic _)) => (fk e).bind fun y e1 => match e1.sl[i]? with
    | some (some (.odic kvs)) => match dkey y, lkD kvs y with
      | some _, some d => .ok d ⟨e1.sl.set i (some (.odic (filD kvs y))), e1.mu⟩
      | _, _ => .stuck
    | _ => .stuck
  | _ => .stuck
section
variable {X : Cx} {W : Wx} {s : Bool} {w : Wd} {pos p ap cp ep sp bp apos cpos : Pos} {x c : Expr} {fk fx : EM}
end
end Vm

set_option maxHeartbeats 1000000
namespace Vm
open PySem L2
def app1 : List (D × D) → D → D → Option (List (D × D))
  | [], _, _ => none
  | (k, d) :: r, y, x => if kq k y then (match d with
    | .olst xs => if xs.length < LIM then some ((k, .olst (xs ++ [x])) :: r) else none
    | _ => none) else (app1 r y x).map ((k, d) :: ·)
section
variable {w : Wd} {G : Gs} {H : Hp}
theorem OwnK.app1 {y x : D} {v : V} {ky : Key} (hy : dkey y = some ky) (z : Fz w G x v) : ∀ {kvs kvs3 : List (D × D)} {ks : List (Key × V)} {l : List Addr}, OwnK w G H kvs ks l → l.Nodup → Vm.app1 kvs y x = some kvs3 →
    ∃ p xs, valV ks ky = some (.ref p) ∧ H p = some (.lst xs) ∧ xs.length < sizeLine ∧ p ∈ l ∧ kvs3.length = kvs.length ∧ OwnK w G (upd H p (.lst (xs ++ [v]))) kvs3 ks l
  | [], kvs3, ks, l, h, hn, e => by cases e
  | (k, d) :: r, kvs3, ks, l, h, hn, e => by
    obtain ⟨key, u, t, l1, l2, rfl, h0, h1, h2, rfl⟩ := ownk_cons.mp h
    obtain ⟨n1, n2, n3⟩ := List.nodup_append.mp hn
    unfold Vm.app1 at e
    rw [kq_dkey h0 hy] at e
    by_cases hk : key = ky
    · rw [decide_eq_true hk, if_pos rfl] at e
      cases d <;> try cases e
      rename_i xs
      have e' : (if xs.length < LIM then some ((k, D.olst (xs ++ [x])) :: r) else none) = some kvs3 := e
      split at e'
      · rename_i hl
        cases e'
        obtain ⟨p, vs, l', rfl, k1, k2, k3, rfl⟩ := own_olst.mp h1
        have np : ∀ c ∈ l', c ≠ p := fun c hc z => (List.nodup_cons.mp n1).1 (z ▸ hc)
        refine ⟨p, vs, valV_pos hk, k1, by rw [k3.length]; exact Nat.lt_of_lt_of_le hl (lim_size (Nat.le_refl _)), List.mem_append_left _ (List.mem_cons_self ..), by simp, ownk_cons.mpr ⟨key, .ref p, t, p :: l', l2, rfl, h0, own_olst.mpr ⟨p, vs ++ [v], l' ++ [], rfl, upd_same, by rw [List.length_append]; exact lim_size (show xs.length + 1 ≤ LIM from hl), ?_, by simp⟩, ?_, rfl⟩⟩
        · exact (k3.keep (.refl _) fun c hc u hu => (upd_ne (np c hc)).trans hu).append (FzL.one z).own
        · refine h2.keep (.refl _) fun c hc u hu => ?_
          have : c ≠ p := fun z => n3 p (List.mem_cons_self ..) c hc z.symm
          exact (upd_ne this).trans hu
      · cases e'
    · rw [decide_eq_false hk, if_neg (by decide)] at e
      obtain ⟨kvs4, e4, rfl⟩ := Option.map_eq_some_iff.mp e
      obtain ⟨p, xs, k1, k2, k3, k4, k5, k6⟩ := OwnK.app1 hy z h2 n2 e4
      refine ⟨p, xs, by rw [valV_neg hk]; exact k1, k2, k3, List.mem_append_right _ k4, by simp [k5], ownk_cons.mpr ⟨key, u, t, l1, l2, rfl, h0, h1.keep (.refl _) fun c hc u hu => ?_, k6, rfl⟩⟩
      have : c ≠ p := fun z => n3 c hc p k4 z
      exact (upd_ne this).trans hu
end
def sdTail (i : Nat) (fx : EM) (y : D) (e1 : En) : So := ofE (fx e1) fun x e2 => match e2.sl[i]? with
  | some (some (.odic kvs2)) => match app1 kvs2 y x with
    | some kvs3 => .nx (e2.put (.s i) (some (.odic kvs3)))
    | none => .stuck
  | _ => .stuck
def sSdApp (i : Nat) (fk fx : EM) : SM := fun e => match e.sl[i]? with
  | some (some (.odic _)) => ofE (fk e) fun y e1 => match e1.sl[i]?, dkey y with
    | some (some (.odic kvs)), some _ => if kvs.length < LIM then (match lkD kvs y with
      | some (.olst _) => sdTail i fx y e1
      | some _ => .stuck
      | none => sdTail i fx y (e1.put (.s i) (some (.odic (kvs ++ [(y, .olst [])]))))) else .stuck
    | _, _ => .stuck
  | _ => .stuck
section
variable {w : Wd} {W : Wx} {σ : L2.St} {b : Bs} {e : En} {i : Nat} {D' : Ends} {fx : EM} {y : D} {ky : Key} {a : Addr} {ks : List (Key × V)} {v0 : V}
end
section
variable {X : Cx} {W : Wx} {s : Bool} {w : Wd} {pos p lp ap1 ap2 cp1 cp2 : Pos} {x c : Expr} {fk fx : EM}
end
end Vm

set_option maxHeartbeats 1000000
namespace Vm
open PySem L2
inductive LockK (Q : VK) (x : V) : Hp → Prop
  | now {H : Hp} : Q x H → LockK Q x H
  | lock {H : Hp} (a : Addr) (u : HO) : H a = some u → Mut (some u) → (∀ od, LockK Q x (upd H a (.frz od u))) → LockK Q x H
theorem LockK.run {X : Cx} {pins : List (Addr × Obj)} {σ : L2.St} {s : Shared} {Q : VK} {x : V} {H : Hp} (h : LockK Q x H) (I : Inv X pins σ H s) : ∃ H', Inv X pins σ H' s ∧ Q x H' := by
  induction h with
  | now q => exact ⟨_, I, q⟩
  | lock a u e mu k ih =>
    obtain ⟨od, I1⟩ := I.lock e mu
    exact ih od I1
def tLocks (t : TE) : TE := fun σ H Q => t σ H (LockK Q)
theorem pe_locks {X : Cx} {e : Expr} {t : TE} (h : PE X e t) : PE X e (tLocks t) := ⟨fun pins s σ H Q I q => thn (h.run pins s σ H _ I q) fun v s1 ⟨x, H1, I1, r, k⟩ => by
  obtain ⟨H', I2, q⟩ := k.run I1
  exact ⟨x, H', I2, r, q⟩⟩
structure Fr (b b' : Bs) (l : List Addr) : Prop where
  o : b'.o = b.o
  r : b'.G.ρ = b.G.ρ
  f : ∀ a u, b.G.F a = some u → b'.G.F a = some u
  h : ∀ c, c ∉ l → b'.H c = b.H c ∧ b'.G.F c = b.G.F c
theorem Fr.refl {b : Bs} : Fr b b [] := ⟨rfl, rfl, fun _ _ h => h, fun _ _ => ⟨rfl, rfl⟩⟩
theorem Fr.le {b b' : Bs} {l : List Addr} (f : Fr b b' l) : b.G.le b'.G := ⟨f.f, fun n a h => by rw [f.r]; exact h⟩
theorem Fr.own {b b' : Bs} {l : List Addr} (f : Fr b b' l) {a : Addr} : b'.own a ↔ b.own a := by
  unfold Bs.own
  rw [f.o]
theorem Fr.trans {b b' b'' : Bs} {l l' : List Addr} (f : Fr b b' l) (g : Fr b' b'' l') : Fr b b'' (l ++ l') := ⟨g.o.trans f.o, g.r.trans f.r, fun a u h => g.f a u (f.f a u h), fun c hc => by
  have h1 : c ∉ l := fun z => hc (List.mem_append_left _ z)
  have h2 : c ∉ l' := fun z => hc (List.mem_append_right _ z)
  exact ⟨(g.h c h2).1.trans (f.h c h1).1, (g.h c h2).2.trans (f.h c h1).2⟩⟩
mutual
def frzT : D → Option D
  | .olst ds => (frzTL ds).map .lst
  | .otup ds => (frzTL ds).map .tup
  | .odic kvs => (frzTK kvs).map .dic
  | .odix kvs => (frzTK kvs).map .dix
  | .oins _ _ _ => none
  | .non => some .non
  | .bl b => some (.bl b)
  | .int i => some (.int i)
  | .str x => some (.str x)
  | .tup xs => some (.tup xs)
  | .tux xs => some (.tux xs)
  | .lst xs => some (.lst xs)
  | .rol xs => some (.rol xs)
  | .dic xs => some (.dic xs)
  | .dix xs => some (.dix xs)
  | .ins c fs => some (.ins c fs)
  | .loc n => some (.loc n)
  | .exn c ds => some (.exn c ds)
  | .fn ds => some (.fn ds)
  | .otbl _ => none
def frzTL : List D → Option (List D)
  | [] => some []
  | d :: ds => (frzT d).bind fun d' => (frzTL ds).map (d' :: ·)
def frzTK : List (D × D) → Option (List (D × D))
  | [] => some []
  | (k, d) :: r => (frzT d).bind fun d' => (frzTK r).map ((k, d') :: ·)
end
theorem frzT_F {d : D} (h : isF d = true) : frzT d = some d := by
  cases d <;> first | (cases h; done) | simp [frzT]
theorem frzTL_len : ∀ {ds ds' : List D}, frzTL ds = some ds' → ds'.length = ds.length
  | [], ds', h => by cases (show some [] = some ds' by simpa [frzTL] using h); rfl
  | d :: ds, ds', h => by
    obtain ⟨d1, h1, h2⟩ := Option.bind_eq_some_iff.mp (show (frzT d).bind (fun d' => (frzTL ds).map (d' :: ·)) = some ds' by simpa [frzTL] using h)
    obtain ⟨ds1, h3, rfl⟩ := Option.map_eq_some_iff.mp h2
    simp [frzTL_len h3]
theorem frzTK_len : ∀ {ds ds' : List (D × D)}, frzTK ds = some ds' → ds'.length = ds.length
  | [], ds', h => by cases (show some [] = some ds' by simpa [frzTK] using h); rfl
  | (k, d) :: ds, ds', h => by
    obtain ⟨d1, h1, h2⟩ := Option.bind_eq_some_iff.mp (show (frzT d).bind (fun d' => (frzTK ds).map ((k, d') :: ·)) = some ds' by simpa [frzTK] using h)
    obtain ⟨ds1, h3, rfl⟩ := Option.map_eq_some_iff.mp h2
    simp [frzTK_len h3]
def Bs.lockAt (b : Bs) (a : Addr) (u : HO) : Bs := ⟨⟨upd b.G.F a u, b.G.ρ⟩, upd b.H a u, b.o⟩
section
variable {w : Wd} {b0 b b' : Bs} {σ : L2.St} {e : En} {a : Addr} {u u0 : HO}
theorem Fr.fix (hF : b.G.F a = none) : Fr b (b.fix a u) [a] := ⟨rfl, rfl, fun c x q => (upd_ne (ne_of_none q hF)).trans q, fun c hc => ⟨rfl, upd_ne (by simpa using hc)⟩⟩
theorem Fr.lockAt (hF : b.G.F a = none) : Fr b (b.lockAt a u) [a] := ⟨rfl, rfl, fun c x q => (upd_ne (ne_of_none q hF)).trans q, fun c hc => ⟨upd_ne (by simpa using hc), upd_ne (by simpa using hc)⟩⟩
theorem Gr.lockAt (g : Gr false b0 b) (hF : b.G.F a = none) (hn : b0.H a = none ∨ b0.own a) : Gr false b0 (b.lockAt a u) where
  g := ⟨fun c x q => (upd_ne (ne_of_none (g.g.f c x q) hF)).trans (g.g.f c x q), g.g.r⟩
  k := fun c x q n => by
    have : c ≠ a := fun z => by
      subst z
      rcases hn with hn | hn
      · rw [q] at hn; cases hn
      · exact keeps_f n hn
    exact (upd_ne this).trans (g.k c x q n)
  n := fun c q => by
    by_cases h : c = a
    · subst h
      exact .inr hn.symm
    · have q' : upd b.G.F a u c ≠ none := q
      rw [upd_ne h] at q'
      exact g.n c q'
  p := g.p
  q := g.q
  h := fun c q => by
    have q' : upd b.H a u c = none := q
    by_cases h : c = a
    · rw [h, upd_same] at q'
      cases q'
    · rw [upd_ne h] at q'
      exact g.h c q'
theorem Sat.lockAt (S : Sat w b σ e) (hF : b.G.F a = none) (ho : ¬ b.own a) : Sat w (b.lockAt a u) σ e := by
  refine S.grow ⟨fun c x q => (upd_ne (ne_of_none q hF)).trans q, fun _ _ q => q⟩ (fun _ => rfl) rfl (fun c x q => ?_) (fun c x hc q => ?_) fun c q => ?_
  · have q' : upd b.G.F a u c = some x := q
    show upd b.H a u c = some x
    by_cases h : c = a
    · subst h
      rw [upd_same] at q' ⊢
      exact q'
    · rw [upd_ne h] at q' ⊢
      exact S.ex c x q'
  · have : c ≠ a := fun z => ho (z ▸ hc)
    exact (upd_ne this).trans q
  · have : c ≠ a := fun z => ho (z ▸ q)
    exact (upd_ne this).trans (S.there q).1
end
def Lone (b0 b : Bs) (l : List Addr) : Prop := l.Nodup ∧ ∀ a ∈ l, b.G.F a = none ∧ ¬ b.own a ∧ (b0.H a = none ∨ b0.own a)
theorem Lone.fr {b0 b b' : Bs} {l l' : List Addr} (h : Lone b0 b l) (f : Fr b b' l') (hd : ∀ a ∈ l, a ∉ l') : Lone b0 b' l := ⟨h.1, fun a ha => by
  obtain ⟨h1, h2, h3⟩ := h.2 a ha
  exact ⟨(f.h a (hd a ha)).2.trans h1, fun z => h2 (f.own.mp z), h3⟩⟩
theorem Lone.left {b0 b : Bs} {l l' : List Addr} (h : Lone b0 b (l ++ l')) : Lone b0 b l := ⟨(List.nodup_append.mp h.1).1, fun a ha => h.2 a (List.mem_append_left _ ha)⟩
theorem Lone.right {b0 b : Bs} {l l' : List Addr} (h : Lone b0 b (l ++ l')) : Lone b0 b l' := ⟨(List.nodup_append.mp h.1).2.1, fun a ha => h.2 a (List.mem_append_right _ ha)⟩
theorem Lone.off {b0 b : Bs} {l l' : List Addr} (h : Lone b0 b (l ++ l')) : ∀ a ∈ l', a ∉ l := fun a ha z => (List.nodup_append.mp h.1).2.2 a z a ha rfl
section
variable {w : Wd} {b0 : Bs} {σ : L2.St} {e : En} {Q : VK} {y : V}
mutual
theorem Own.freeze : ∀ {d d' : D} {v : V} {l : List Addr} {b : Bs}, Gr false b0 b → Sat w b σ e → Own w b.G b.H d v l → Lone b0 b l → frzT d = some d' →
    (∀ b', Gr false b0 b' → Sat w b' σ e → Fr b b' l → Fz w b'.G d' v → LockK Q y b'.H) → LockK Q y b.H
  | .olst ds, d', v, l, b, g, S, z, n, hf, k => by
    obtain ⟨ds', h1, rfl⟩ := Option.map_eq_some_iff.mp (show (frzTL ds).map D.lst = some d' by simpa [frzT] using hf)
    obtain ⟨a, vs, l', rfl, k1, k2, k3, rfl⟩ := own_olst.mp z
    have na := (List.nodup_cons.mp n.1).1
    have nl : Lone b0 b l' := ⟨(List.nodup_cons.mp n.1).2, fun c hc => n.2 c (List.mem_cons_of_mem _ hc)⟩
    refine OwnL.freeze g S k3 nl h1 fun b1 g1 S1 f1 z1 => ?_
    obtain ⟨m1, m2, m3⟩ := n.2 a (List.mem_cons_self ..)
    have e1 := (f1.h a na)
    have hF : b1.G.F a = none := e1.2.trans m1
    have gf : Gr false b0 (b1.fix a (.lst vs)) := Gr.fix g1 hF m3
    refine k (b1.fix a (.lst vs)) gf (S1.fix hF (e1.1.trans k1) fun z => m2 (f1.own.mp z)) ?_ (fz_lst.mpr ⟨a, vs, rfl, upd_same, by rw [frzTL_len h1]; exact k2, z1.mono (fix_le hF)⟩)
    have f2 : Fr b1 (b1.fix a (.lst vs)) [a] := Fr.fix hF
    have f3 := f1.trans f2
    exact ⟨f3.o, f3.r, f3.f, fun c hc => f3.h c fun z => hc ((List.mem_append.mp z).elim (fun z => List.mem_cons_of_mem _ z) fun z => by rw [show c = a by simpa using z]; exact List.mem_cons_self ..)⟩
  | .otup ds, d', v, l, b, g, S, z, n, hf, k => by
    obtain ⟨ds', h1, rfl⟩ := Option.map_eq_some_iff.mp (show (frzTL ds).map D.tup = some d' by simpa [frzT] using hf)
    obtain ⟨a, vs, l', rfl, k1, k2, k3, rfl⟩ := own_otup.mp z
    have na := (List.nodup_cons.mp n.1).1
    have nl : Lone b0 b l' := ⟨(List.nodup_cons.mp n.1).2, fun c hc => n.2 c (List.mem_cons_of_mem _ hc)⟩
    refine OwnL.freeze g S k3 nl h1 fun b1 g1 S1 f1 z1 => ?_
    obtain ⟨m1, m2, m3⟩ := n.2 a (List.mem_cons_self ..)
    have e1 := (f1.h a na)
    have hF : b1.G.F a = none := e1.2.trans m1
    have gf : Gr false b0 (b1.fix a (.tup vs)) := Gr.fix g1 hF m3
    refine k (b1.fix a (.tup vs)) gf (S1.fix hF (e1.1.trans k1) fun z => m2 (f1.own.mp z)) ?_ (fz_tup.mpr ⟨a, vs, rfl, upd_same, by rw [frzTL_len h1]; exact k2, z1.mono (fix_le hF)⟩)
    have f2 : Fr b1 (b1.fix a (.tup vs)) [a] := Fr.fix hF
    have f3 := f1.trans f2
    exact ⟨f3.o, f3.r, f3.f, fun c hc => f3.h c fun z => hc ((List.mem_append.mp z).elim (fun z => List.mem_cons_of_mem _ z) fun z => by rw [show c = a by simpa using z]; exact List.mem_cons_self ..)⟩
  | .odic kvs, d', v, l, b, g, S, z, n, hf, k => by
    obtain ⟨ds', h1, rfl⟩ := Option.map_eq_some_iff.mp (show (frzTK kvs).map D.dic = some d' by simpa [frzT] using hf)
    obtain ⟨a, ks, l', rfl, k1, k2, k3, rfl⟩ := own_odic.mp z
    have na := (List.nodup_cons.mp n.1).1
    have nl : Lone b0 b l' := ⟨(List.nodup_cons.mp n.1).2, fun c hc => n.2 c (List.mem_cons_of_mem _ hc)⟩
    refine OwnK.freeze g S k3 nl h1 fun b1 g1 S1 f1 z1 => ?_
    obtain ⟨m1, m2, m3⟩ := n.2 a (List.mem_cons_self ..)
    have e1 := (f1.h a na)
    have hF : b1.G.F a = none := e1.2.trans m1
    refine .lock a (.dK ks) (e1.1.trans k1) True.intro fun od => ?_
    refine k (b1.lockAt a (.frz od (.dK ks))) (g1.lockAt hF m3) (S1.lockAt hF fun z => m2 (f1.own.mp z)) ?_ (fz_dic.mpr ⟨a, od, ks, rfl, upd_same, by rw [frzTK_len h1]; exact k2, z1.mono (Fr.lockAt hF).le⟩)
    have f2 : Fr b1 (b1.lockAt a (.frz od (.dK ks))) [a] := Fr.lockAt hF
    have f3 := f1.trans f2
    exact ⟨f3.o, f3.r, f3.f, fun c hc => f3.h c fun z => hc ((List.mem_append.mp z).elim (fun z => List.mem_cons_of_mem _ z) fun z => by rw [show c = a by simpa using z]; exact List.mem_cons_self ..)⟩
  | .odix kvs, d', v, l, b, g, S, z, n, hf, k => by
    obtain ⟨ds', h1, rfl⟩ := Option.map_eq_some_iff.mp (show (frzTK kvs).map D.dix = some d' by simpa [frzT] using hf)
    obtain ⟨a, ks, l', rfl, k1, k2, k3, rfl⟩ := own_odix.mp z
    have na := (List.nodup_cons.mp n.1).1
    have nl : Lone b0 b l' := ⟨(List.nodup_cons.mp n.1).2, fun c hc => n.2 c (List.mem_cons_of_mem _ hc)⟩
    refine OwnN.freeze g S k3 nl h1 fun b1 g1 S1 f1 z1 => ?_
    obtain ⟨m1, m2, m3⟩ := n.2 a (List.mem_cons_self ..)
    have e1 := (f1.h a na)
    have hF : b1.G.F a = none := e1.2.trans m1
    refine .lock a (nst w a ks) (e1.1.trans k1) True.intro fun od => ?_
    refine k (b1.lockAt a (.frz od (nst w a ks))) (g1.lockAt hF m3) (S1.lockAt hF fun z => m2 (f1.own.mp z)) ?_ (fz_dix.mpr ⟨a, od, ks, rfl, upd_same, by rw [frzTK_len h1]; exact k2, z1.mono (Fr.lockAt hF).le⟩)
    have f2 : Fr b1 (b1.lockAt a (.frz od (nst w a ks))) [a] := Fr.lockAt hF
    have f3 := f1.trans f2
    exact ⟨f3.o, f3.r, f3.f, fun c hc => f3.h c fun z => hc ((List.mem_append.mp z).elim (fun z => List.mem_cons_of_mem _ z) fun z => by rw [show c = a by simpa using z]; exact List.mem_cons_self ..)⟩
  | .oins _ _ _, d', v, l, b, g, S, z, n, hf, k => by simp [frzT] at hf
  | .non, d', v, l, b, g, S, z, n, hf, k => Own.freezeF rfl g S z hf k
  | .bl _, d', v, l, b, g, S, z, n, hf, k => Own.freezeF rfl g S z hf k
  | .int _, d', v, l, b, g, S, z, n, hf, k => Own.freezeF rfl g S z hf k
  | .str _, d', v, l, b, g, S, z, n, hf, k => Own.freezeF rfl g S z hf k
  | .tup _, d', v, l, b, g, S, z, n, hf, k => Own.freezeF rfl g S z hf k
  | .tux _, d', v, l, b, g, S, z, n, hf, k => Own.freezeF rfl g S z hf k
  | .lst _, d', v, l, b, g, S, z, n, hf, k => Own.freezeF rfl g S z hf k
  | .rol _, d', v, l, b, g, S, z, n, hf, k => Own.freezeF rfl g S z hf k
  | .dic _, d', v, l, b, g, S, z, n, hf, k => Own.freezeF rfl g S z hf k
  | .dix _, d', v, l, b, g, S, z, n, hf, k => Own.freezeF rfl g S z hf k
  | .ins _ _, d', v, l, b, g, S, z, n, hf, k => Own.freezeF rfl g S z hf k
  | .loc _, d', v, l, b, g, S, z, n, hf, k => Own.freezeF rfl g S z hf k
  | .exn _ _, d', v, l, b, g, S, z, n, hf, k => Own.freezeF rfl g S z hf k
  | .fn _, d', v, l, b, g, S, z, n, hf, k => Own.freezeF rfl g S z hf k
  | .otbl _, d', v, l, b, g, S, z, n, hf, k => by simp [frzT] at hf
theorem Own.freezeF : ∀ {d d' : D} {v : V} {l : List Addr} {b : Bs}, isF d = true → Gr false b0 b → Sat w b σ e → Own w b.G b.H d v l → frzT d = some d' →
    (∀ b', Gr false b0 b' → Sat w b' σ e → Fr b b' l → Fz w b'.G d' v → LockK Q y b'.H) → LockK Q y b.H := by
  intro d d' v l b hF g S z hf k
  rw [frzT_F hF] at hf
  cases hf
  obtain ⟨z1, rfl⟩ := (own_fz hF).mp z
  exact k b g S .refl z1
theorem OwnL.freeze : ∀ {ds ds' : List D} {vs : List V} {l : List Addr} {b : Bs}, Gr false b0 b → Sat w b σ e → OwnL w b.G b.H ds vs l → Lone b0 b l → frzTL ds = some ds' →
    (∀ b', Gr false b0 b' → Sat w b' σ e → Fr b b' l → FzL w b'.G ds' vs → LockK Q y b'.H) → LockK Q y b.H
  | [], ds', vs, l, b, g, S, z, n, hf, k => by
    obtain ⟨rfl, rfl⟩ := ownl_nil.mp z
    cases (show some [] = some ds' by simpa [frzTL] using hf)
    exact k b g S .refl (fzl_nil.mpr rfl)
  | d :: ds, ds', vs, l, b, g, S, z, n, hf, k => by
    obtain ⟨d1, h1, h2⟩ := Option.bind_eq_some_iff.mp (show (frzT d).bind (fun d' => (frzTL ds).map (d' :: ·)) = some ds' by simpa [frzTL] using hf)
    obtain ⟨ds1, h3, rfl⟩ := Option.map_eq_some_iff.mp h2
    obtain ⟨v, r, l1, l2, rfl, z1, z2, rfl⟩ := ownl_cons.mp z
    refine Own.freeze g S z1 n.left h1 fun b1 g1 S1 f1 y1 => ?_
    refine OwnL.freeze g1 S1 (z2.keep f1.le fun c hc u hu => (f1.h c (n.off c hc)).1.trans hu) (n.right.fr f1 n.off) h3 fun b2 g2 S2 f2 y2 => ?_
    exact k b2 g2 S2 (f1.trans f2) (fzl_cons.mpr ⟨v, r, rfl, y1.mono f2.le, y2⟩)
theorem OwnK.freeze : ∀ {kvs kvs' : List (D × D)} {ks : List (Key × V)} {l : List Addr} {b : Bs}, Gr false b0 b → Sat w b σ e → OwnK w b.G b.H kvs ks l → Lone b0 b l → frzTK kvs = some kvs' →
    (∀ b', Gr false b0 b' → Sat w b' σ e → Fr b b' l → FzK w b'.G kvs' ks → LockK Q y b'.H) → LockK Q y b.H
  | [], ds', vs, l, b, g, S, z, n, hf, k => by
    obtain ⟨rfl, rfl⟩ := ownk_nil.mp z
    cases (show some [] = some ds' by simpa [frzTK] using hf)
    exact k b g S .refl (fzk_nil.mpr rfl)
  | (kd, d) :: ds, ds', vs, l, b, g, S, z, n, hf, k => by
    obtain ⟨d1, h1, h2⟩ := Option.bind_eq_some_iff.mp (show (frzT d).bind (fun d' => (frzTK ds).map ((kd, d') :: ·)) = some ds' by simpa [frzTK] using hf)
    obtain ⟨ds1, h3, rfl⟩ := Option.map_eq_some_iff.mp h2
    obtain ⟨key, v, r, l1, l2, rfl, z0, z1, z2, rfl⟩ := ownk_cons.mp z
    refine Own.freeze g S z1 n.left h1 fun b1 g1 S1 f1 y1 => ?_
    refine OwnK.freeze g1 S1 (z2.keep f1.le fun c hc u hu => (f1.h c (n.off c hc)).1.trans hu) (n.right.fr f1 n.off) h3 fun b2 g2 S2 f2 y2 => ?_
    exact k b2 g2 S2 (f1.trans f2) (fzk_cons.mpr ⟨key, v, r, rfl, z0, y1.mono f2.le, y2⟩)
theorem OwnN.freeze : ∀ {kvs kvs' : List (D × D)} {es : List (NestedKey × Addr × V)} {l : List Addr} {b : Bs}, Gr false b0 b → Sat w b σ e → OwnN w b.G b.H kvs es l → Lone b0 b l → frzTK kvs = some kvs' →
    (∀ b', Gr false b0 b' → Sat w b' σ e → Fr b b' l → FzN w b'.G kvs' es → LockK Q y b'.H) → LockK Q y b.H
  | [], ds', vs, l, b, g, S, z, n, hf, k => by
    obtain ⟨rfl, rfl⟩ := ownn_nil.mp z
    cases (show some [] = some ds' by simpa [frzTK] using hf)
    exact k b g S .refl (fzn_nil.mpr rfl)
  | (kd, d) :: ds, ds', vs, l, b, g, S, z, n, hf, k => by
    obtain ⟨d1, h1, h2⟩ := Option.bind_eq_some_iff.mp (show (frzT d).bind (fun d' => (frzTK ds).map ((kd, d') :: ·)) = some ds' by simpa [frzTK] using hf)
    obtain ⟨ds1, h3, rfl⟩ := Option.map_eq_some_iff.mp h2
    obtain ⟨key, a, v, r, l1, l2, rfl, z0, zd, zk, z1, z2, rfl⟩ := ownn_cons.mp z
    refine Own.freeze g S z1 n.left h1 fun b1 g1 S1 f1 y1 => ?_
    refine OwnN.freeze g1 S1 (z2.keep f1.le fun c hc u hu => (f1.h c (n.off c hc)).1.trans hu) (n.right.fr f1 n.off) h3 fun b2 g2 S2 f2 y2 => ?_
    exact k b2 g2 S2 (f1.trans f2) (fzn_cons.mpr ⟨key, a, v, r, rfl, z0, zd, (zk.mono f1.le).mono f2.le, y1.mono f2.le, y2⟩)
end
end
def frzA (f : EM) : EM := fun e => (f e).bind fun d e1 => lift (frzT d) e1
theorem zVA {X : Cx} {w : Wd} {W : Wx} {x : Expr} {f : EM} (h : PE X x (tV w W false f)) : PE X x (tZ w W false (frzA f)) := (pe_locks h).imp fun σ H Q ⟨b, e, he, S, q⟩ => by
  subst he
  refine ⟨b, e, rfl, S, ?_⟩
  unfold frzA at q
  cases hf : f e with
  | stuck => rw [hf] at q; exact q
  | exc c x e1 => rw [hf] at q; exact q
  | ok d e1 =>
    rw [hf] at q
    intro b1 g1 S1 v ⟨l, t1, t2, t3⟩
    have h1 : PR w W false σ b (lift (frzT d) e1) fun d b' _ => ∀ v, Fz w b'.G d v → Q v b'.H := q
    cases hd : frzT d with
    | none => rw [hd] at h1; exact h1.elim
    | some d' =>
      rw [hd] at h1
      exact t1.freeze g1 S1 ⟨t2, t3⟩ hd fun b' g' S' f' z => .now (h1 b' g' S' v z)
end Vm

set_option maxHeartbeats 1000000
namespace Vm
open PySem L2 PyProof.Rows
inductive Rp where
  | ok (d : D) | exc (c : Nat) (x : Option D) | stuck
abbrev PF := List D → Rp
mutual
def noLoc : D → Bool
  | .loc _ => false
  | .tup xs => noLocL xs
  | .tux xs => noLocL xs
  | .lst xs => noLocL xs
  | .rol xs => noLocL xs
  | .dic xs => noLocK xs
  | .dix xs => noLocK xs
  | .ins _ fs => noLocL fs
  | .exn _ fs => noLocL fs
  | .fn fs => noLocL fs
  | _ => true
def noLocL : List D → Bool
  | [] => true
  | d :: ds => noLoc d && noLocL ds
def noLocK : List (D × D) → Bool
  | [] => true
  | (k, d) :: ds => noLoc k && (noLoc d && noLocK ds)
end
def Gs.bare (G : Gs) : Gs := ⟨G.F, fun _ => none⟩
section
variable {w : Wd} {G : Gs}
mutual
theorem Fz.bare : ∀ {d : D} {v : V}, Fz w G d v → noLoc d = true → Fz w G.bare d v
  | .non, v, h, _ => fz_non.mpr (fz_non.mp h)
  | .bl _, v, h, _ => fz_bl.mpr (fz_bl.mp h)
  | .int _, v, h, _ => fz_int.mpr (fz_int.mp h)
  | .str _, v, h, _ => fz_str.mpr (fz_str.mp h)
  | .tup ds, v, h, n => by
    obtain ⟨a, vs, rfl, h1, h2, h3⟩ := fz_tup.mp h
    exact fz_tup.mpr ⟨a, vs, rfl, h1, h2, FzL.bare h3 (by simpa [noLoc] using n)⟩
  | .tux ds, v, h, n => by
    obtain ⟨a, o, vs, rfl, h1, hd, h2, h3⟩ := fz_tux.mp h
    exact fz_tux.mpr ⟨a, o, vs, rfl, h1, hd, h2, FzL.bare h3 (by simpa [noLoc] using n)⟩
  | .lst ds, v, h, n => by
    obtain ⟨a, vs, rfl, h1, h2, h3⟩ := fz_lst.mp h
    exact fz_lst.mpr ⟨a, vs, rfl, h1, h2, FzL.bare h3 (by simpa [noLoc] using n)⟩
  | .rol ds, v, h, n => by
    obtain ⟨a, vs, rfl, h1, h2, h3⟩ := fz_rol.mp h
    exact fz_rol.mpr ⟨a, vs, rfl, h1, h2, FzL.bare h3 (by simpa [noLoc] using n)⟩
  | .dic ds, v, h, n => by
    obtain ⟨a, o, vs, rfl, h1, h2, h3⟩ := fz_dic.mp h
    exact fz_dic.mpr ⟨a, o, vs, rfl, h1, h2, FzK.bare h3 (by simpa [noLoc] using n)⟩
  | .dix ds, v, h, n => by
    obtain ⟨a, o, vs, rfl, h1, h2, h3⟩ := fz_dix.mp h
    exact fz_dix.mpr ⟨a, o, vs, rfl, h1, h2, FzN.bare h3 (by simpa [noLoc] using n)⟩
  | .ins c ds, v, h, n => by
    obtain ⟨a, dx, vs, rfl, h1, h2, h3⟩ := fz_ins.mp h
    exact fz_ins.mpr ⟨a, dx, vs, rfl, h1, h2, FzL.bare h3 (by simpa [noLoc] using n)⟩
  | .olst _, v, h, _ => by simp [Fz] at h
  | .odic _, v, h, _ => by simp [Fz] at h
  | .odix _, v, h, _ => by simp [Fz] at h
  | .oins _ _ _, v, h, _ => by simp [Fz] at h
  | .loc _, v, h, n => by simp [noLoc] at n
  | .exn c ds, v, h, n => by
    obtain ⟨a, dx, vs, rfl, h1, h3, h4⟩ := fz_exn.mp h
    exact fz_exn.mpr ⟨a, dx, vs, rfl, h1, h3, FzL.bare h4 (by simpa [noLoc] using n)⟩
  | .fn _, v, h, n => by
    obtain ⟨a, c, q, vs, h1, h2, h3, h4⟩ := fz_fn.mp h
    exact fz_fn.mpr ⟨a, c, q, vs, h1, h2, h3, FzL.bare h4 (by simpa [noLoc] using n)⟩
  | .otbl _, v, h, n => by simp [Fz] at h
  | .otup _, v, h, n => by simp [Fz] at h
theorem FzL.bare : ∀ {ds : List D} {vs : List V}, FzL w G ds vs → noLocL ds = true → FzL w G.bare ds vs
  | [], vs, h, _ => fzl_nil.mpr (fzl_nil.mp h)
  | d :: ds, vs, h, n => by
    obtain ⟨v, r, rfl, h1, h2⟩ := fzl_cons.mp h
    have n' : noLoc d = true ∧ noLocL ds = true := by simpa [noLocL] using n
    exact fzl_cons.mpr ⟨v, r, rfl, Fz.bare h1 n'.1, FzL.bare h2 n'.2⟩
theorem FzK.bare : ∀ {ds : List (D × D)} {ks : List (Key × V)}, FzK w G ds ks → noLocK ds = true → FzK w G.bare ds ks
  | [], vs, h, _ => fzk_nil.mpr (fzk_nil.mp h)
  | (k, d) :: ds, vs, h, n => by
    obtain ⟨key, v, r, rfl, h0, h1, h2⟩ := fzk_cons.mp h
    have n' : noLoc k = true ∧ noLoc d = true ∧ noLocK ds = true := by simpa [noLocK] using n
    exact fzk_cons.mpr ⟨key, v, r, rfl, h0, Fz.bare h1 n'.2.1, FzK.bare h2 n'.2.2⟩
theorem FzN.bare : ∀ {ds : List (D × D)} {ks : List (NestedKey × Addr × V)}, FzN w G ds ks → noLocK ds = true → FzN w G.bare ds ks
  | [], vs, h, _ => fzn_nil.mpr (fzn_nil.mp h)
  | (k, d) :: ds, vs, h, n => by
    obtain ⟨key, a, v, r, rfl, h0, hd, hk, h1, h2⟩ := fzn_cons.mp h
    have n' : noLoc k = true ∧ noLoc d = true ∧ noLocK ds = true := by simpa [noLocK] using n
    exact fzn_cons.mpr ⟨key, a, v, r, rfl, h0, hd, Fz.bare hk n'.1, Fz.bare h1 n'.2.1, FzN.bare h2 n'.2.2⟩
end
end
def toRo (r : Rp) (mu : Mu) : Ro := match r with
  | .ok d => .ok d mu
  | .exc c x => .exc c x mu
  | .stuck => .stuck
def pureF (p : PF) : FV := fun mu ds => match mu with
  | [] => toRo (p ds) []
  | _ :: _ => if noLocL ds then toRo (p ds) mu else .stuck
def endP (r : So) : Rp := match r with
  | .rt d e => match e.mu with
    | [] => .ok d
    | _ :: _ => .stuck
  | .nx e => match e.mu with
    | [] => .ok .non
    | _ :: _ => .stuck
  | .exc c x e => match e.mu with
    | [] => .exc c x
    | _ :: _ => .stuck
  | _ => .stuck
@[irreducible] def runP (m n : Nat) (bd : SM) : PF := fun ds => if ds.length = m then endP (bd ⟨ds.map some ++ List.replicate n none, []⟩) else .stuck
def Bs.bare (b : Bs) : Bs := ⟨b.G.bare, b.H, fun _ => []⟩
def Bs.wrap (b b' : Bs) : Bs := ⟨⟨b'.G.F, b.G.ρ⟩, b'.H, b.o⟩
section
variable {w : Wd} {b b' : Bs} {mu : Mu} {d : D} {v : V}
theorem bare_own {a : Addr} : ¬ b.bare.own a := fun ⟨_, h⟩ => nomatch h
theorem Sat.bare (S : Sat w b [] ⟨[], mu⟩) : Sat w b.bare [] ⟨[], []⟩ where
  ex := S.ex
  le := rfl
  lm := fun n => ⟨fun _ => Nat.zero_le _, fun _ => rfl⟩
  sl := fun x d h => by
    cases x with
    | s i =>
      have h' : (([] : List (Option D))[i]?).getD none = some d := h
      simp at h'
    | m n =>
      have h' : (([] : List (Option D))[n]?).getD none = some d := h
      simp at h'
  em := fun _ _ => rfl
  ap := fun x y a h => nomatch h
  nd := fun _ => List.nodup_nil
  fo := fun x a h => nomatch h
theorem Gr.wrap (g : Gr false b.bare b') : Gr false b (b.wrap b') where
  g := ⟨g.g.f, fun _ _ h => h⟩
  k := fun a u h n => g.k a u h (keeps_no bare_own)
  n := fun a h => (g.n a h).imp (fun z => z) fun z => z.elim (fun z => absurd z bare_own) fun z => .inr z
  p := fun a h => .inl h
  q := fun h => by cases h
  h := g.h
theorem Sat.wrap (S : Sat w b [] ⟨[], mu⟩) (g : Gr false b.bare b') (S' : Sat w b' [] ⟨[], []⟩) : Sat w (b.wrap b') [] ⟨[], mu⟩ := by
  have g2 := Gr.wrap g
  refine S.grow g2.g (fun _ => rfl) rfl S'.ex (fun a u _ h => g.k a u h (keeps_no bare_own)) fun a h => ?_
  cases q : b'.G.F a with
  | none => exact q
  | some u =>
    obtain ⟨hF, u', hu⟩ : b.G.F a = none ∧ ∃ u, b.H a = some u := ⟨let ⟨x, hx⟩ := h; S.fo x a hx, (S.there h).2⟩
    rcases g.n a (by rw [q]; intro z; cases z) with z | z | z
    · exact absurd hF z
    · exact absurd z bare_own
    · have z' : b.H a = none := z
      rw [hu] at z'
      cases z'
theorem Tmp.wrap (S : Sat w b [] ⟨[], mu⟩) (t : Tmp w b.bare b' d v) (S' : Sat w b' [] ⟨[], []⟩) : Tmp w b (b.wrap b') d v := by
  obtain ⟨l, t1, t2, t3⟩ := t
  have le : b'.G.le (b.wrap b').G := ⟨fun _ _ h => h, fun n a h => by
    have := (S'.lm n).mpr (Nat.zero_le _)
    rw [this] at h
    cases h⟩
  refine ⟨l, t1.keep le fun _ _ _ h => h, t2, fun a ha => ?_⟩
  obtain ⟨k1, k2, k3⟩ := t3 a ha
  have hn : b.H a = none := k3.elim (fun z => z) fun z => absurd z bare_own
  refine ⟨k1, fun ⟨x, hx⟩ => ?_, .inl hn⟩
  obtain ⟨u, hu⟩ := (S.there ⟨x, hx⟩).2
  rw [hn] at hu
  cases hu
end
theorem pure_in {w : Wd} {b : Bs} {mu : Mu} {p : PF} {ds : List D} {vs : List V} {P : Ro → Prop} (S : Sat w b [] ⟨[], mu⟩) (z : FzL w b.G ds vs) (h : P (pureF p mu ds)) (hs : ¬ P .stuck) : FzL w b.bare.G ds vs ∧ P (toRo (p ds) mu) := by
  cases mu with
  | nil =>
    refine ⟨?_, h⟩
    have : b.bare.G = b.G := by
      show (⟨b.G.F, fun _ => none⟩ : Gs) = b.G
      have : b.G.ρ = fun _ => none := funext fun n => (S.lm n).mpr (Nat.zero_le _)
      cases hG : b.G
      rw [hG] at this
      simp at this
      rw [this]
    rw [this]
    exact z
  | cons c mu =>
    have h' : P (if noLocL ds then toRo (p ds) (c :: mu) else .stuck) := h
    split at h'
    · rename_i hn
      exact ⟨z.bare hn, h'⟩
    · exact absurd h' hs
theorem fn_p {P : Program} {w : World} {W : Wd} {K : PySem.W.Frag} {mg : Str → Option Value} {base : Heap} {x qual : Str} {params : Arguments} {body : List Stmt} {scope : Scope} {dvs : List V} {kws : List (Str × V)} {f : Addr} {fd : FuncData}
    {N ps : List Str} {k m n : Nat} {bd : SM} (F : FunD K x qual params body scope dvs kws f fd) (S : FnScope N ps scope) (hps : ps.length = m) (hls : N.length - ps.length = n)
    (hb : ∀ (cdv : Value) (A : Around) (outer : List Env) (s : Shared) (H : Hp) (vs : List V) (E : XK), Room k (A.deeper (envOfC qual scope s.heap.objs.size f cdv)) →
      PSs (cxOf CX0 P w K mg base N qual scope f cdv A outer s H E).nox body (tS W W0 bd)) :
    FnOk P w K mg base CX0 (k + 1) f fd ps (spF W (pureF (runP m n bd))) := by
  have red : ∀ vs H Q E, spF W (pureF (runP m n bd)) vs H Q E → ∃ b mu ds, H = b.H ∧ Sat W b [] ⟨[], mu⟩ ∧ FzL W b.bare.G ds vs ∧ ds.length = m ∧ (match toRo (endP (bd ⟨ds.map some ++ List.replicate n none, []⟩)) mu with
      | .ok d mu' => ∀ v b', Gr false b b' → Sat W b' [] ⟨[], mu'⟩ → Tmp W b b' d v → Q v b'.H
      | _ => False) := fun vs H Q E ⟨b, mu, ds, e, S0, z, h⟩ => by
    obtain ⟨z0, h⟩ := pure_in (P := fun r => match r with
      | .ok d mu' => ∀ v b', Gr false b b' → Sat W b' [] ⟨[], mu'⟩ → Tmp W b b' d v → Q v b'.H
      | _ => False) S0 z h (fun h => h)
    unfold runP at h
    by_cases hl : ds.length = m
    · rw [if_pos hl] at h
      exact ⟨b, mu, ds, e, S0, z0, hl, h⟩
    · rw [if_neg hl] at h
      exact h.elim
  have len : ∀ vs H Q E, spF W (pureF (runP m n bd)) vs H Q E → vs.length = m := fun vs H Q E h => by
    obtain ⟨b, mu, ds, _, _, z, hl, _⟩ := red vs H Q E h
    rw [z.length, hl]
  refine F.ok S (fun vs H Q E h => by rw [len vs H Q E h, hps]) fun cdv A outer s H vs Q E hr h => ⟨_, (hb cdv A outer s H vs E hr).nox, ?_⟩
  have hl := len vs H Q E h
  obtain ⟨b, mu, ds, rfl, S0, z, hl2, h⟩ := red vs H Q E h
  have e1 : L2.start N vs = vs.map some ++ List.replicate n none := by
    unfold L2.start
    rw [hl, ← hps, hls]
  rw [e1]
  refine ⟨b.bare, _, rfl, S0.bare.start z, ?_⟩
  cases hbd : bd ⟨ds.map some ++ List.replicate n none, []⟩ with
  | rt d' e' =>
    rw [hbd] at h
    intro b' σ' v g S' t
    cases hm : e'.mu with
    | nil =>
      have h' : ∀ v b', Gr false b b' → Sat W b' [] ⟨[], mu⟩ → Tmp W b b' d' v → Q v b'.H := by
        simp only [endP, hm] at h
        exact h
      have S2 := S'.top
      rw [hm] at S2
      have g2 : Gr false b.bare b'.top := g.trans Gr.top
      have t2 : Tmp W b.bare b'.top d' v := t.stay (Gr.top (s := false))
      exact h' v (b.wrap b'.top) (Gr.wrap g2) (S0.wrap g2 S2) (t2.wrap S0 S2)
    | cons c r =>
      simp only [endP, hm] at h
      exact h.elim
  | nx e' =>
    rw [hbd] at h
    intro b' σ' g S'
    cases hm : e'.mu with
    | nil =>
      have h' : ∀ v b', Gr false b b' → Sat W b' [] ⟨[], mu⟩ → Tmp W b b' .non v → Q v b'.H := by
        simp only [endP, hm] at h
        exact h
      have S2 := S'.top
      rw [hm] at S2
      have g2 : Gr false b.bare b'.top := g.trans Gr.top
      exact h' .non (b.wrap b'.top) (Gr.wrap g2) (S0.wrap g2 S2) (Fz.tmp (fz_non.mpr rfl))
    | cons c r =>
      simp only [endP, hm] at h
      exact h.elim
  | bk e' => rw [hbd] at h; exact h.elim
  | ct e' => rw [hbd] at h; exact h.elim
  | exc _ _ e' =>
    rw [hbd] at h
    cases hm : e'.mu with
    | nil => simp only [endP, hm] at h; exact h.elim
    | cons c r => simp only [endP, hm] at h; exact h.elim
  | stuck => rw [hbd] at h; exact h.elim
end Vm

set_option maxHeartbeats 1000000
namespace Vm
open PySem L2 PyProof.Rows
def Wd.on (w : Wd) (x : Option Addr) : Wd := ⟨w.P, w.W, w.K, w.cls, w.flds, x, w.lam⟩
section
variable {w : Wd} {G : Gs} {H : Hp} {x : Option Addr}
mutual
theorem Fz.on : ∀ {d : D} {v : V}, Fz w G d v → Fz (w.on x) G d v
  | .non, v, h => fz_non.mpr (fz_non.mp h)
  | .bl _, v, h => fz_bl.mpr (fz_bl.mp h)
  | .int _, v, h => fz_int.mpr (fz_int.mp h)
  | .str _, v, h => fz_str.mpr (fz_str.mp h)
  | .tup ds, v, h => by
    obtain ⟨a, vs, rfl, h1, h2, h3⟩ := fz_tup.mp h
    exact fz_tup.mpr ⟨a, vs, rfl, h1, h2, FzL.on h3⟩
  | .tux ds, v, h => by
    obtain ⟨a, o, vs, rfl, h1, hd, h2, h3⟩ := fz_tux.mp h
    exact fz_tux.mpr ⟨a, o, vs, rfl, h1, hd, h2, FzL.on h3⟩
  | .lst ds, v, h => by
    obtain ⟨a, vs, rfl, h1, h2, h3⟩ := fz_lst.mp h
    exact fz_lst.mpr ⟨a, vs, rfl, h1, h2, FzL.on h3⟩
  | .rol ds, v, h => by
    obtain ⟨a, vs, rfl, h1, h2, h3⟩ := fz_rol.mp h
    exact fz_rol.mpr ⟨a, vs, rfl, h1, h2, FzL.on h3⟩
  | .dic ds, v, h => by
    obtain ⟨a, o, vs, rfl, h1, h2, h3⟩ := fz_dic.mp h
    exact fz_dic.mpr ⟨a, o, vs, rfl, h1, h2, FzK.on h3⟩
  | .dix ds, v, h => by
    obtain ⟨a, o, vs, rfl, h1, h2, h3⟩ := fz_dix.mp h
    exact fz_dix.mpr ⟨a, o, vs, rfl, h1, h2, FzN.on h3⟩
  | .ins c ds, v, h => by
    obtain ⟨a, dx, vs, rfl, h1, h2, h3⟩ := fz_ins.mp h
    exact fz_ins.mpr ⟨a, dx, vs, rfl, h1, h2, FzL.on h3⟩
  | .olst _, v, h => by simp [Fz] at h
  | .odic _, v, h => by simp [Fz] at h
  | .odix _, v, h => by simp [Fz] at h
  | .oins _ _ _, v, h => by simp [Fz] at h
  | .loc _, v, h => fz_loc.mpr (fz_loc.mp h)
  | .exn c ds, v, h => by
    obtain ⟨a, dx, vs, rfl, h1, h3, h4⟩ := fz_exn.mp h
    exact fz_exn.mpr ⟨a, dx, vs, rfl, h1, h3, FzL.on h4⟩
  | .fn _, v, h => by
    obtain ⟨a, c, q, vs, h1, h2, h3, h4⟩ := fz_fn.mp h
    exact fz_fn.mpr ⟨a, c, q, vs, h1, h2, h3, FzL.on h4⟩
  | .otbl _, v, h => by simp [Fz] at h
  | .otup _, v, h => by simp [Fz] at h
theorem FzL.on : ∀ {ds : List D} {vs : List V}, FzL w G ds vs → FzL (w.on x) G ds vs
  | [], vs, h => fzl_nil.mpr (fzl_nil.mp h)
  | d :: ds, vs, h => by
    obtain ⟨v, r, rfl, h1, h2⟩ := fzl_cons.mp h
    exact fzl_cons.mpr ⟨v, r, rfl, Fz.on h1, FzL.on h2⟩
theorem FzK.on : ∀ {ds : List (D × D)} {ks : List (Key × V)}, FzK w G ds ks → FzK (w.on x) G ds ks
  | [], vs, h => fzk_nil.mpr (fzk_nil.mp h)
  | (k, d) :: ds, vs, h => by
    obtain ⟨key, v, r, rfl, h0, h1, h2⟩ := fzk_cons.mp h
    exact fzk_cons.mpr ⟨key, v, r, rfl, h0, Fz.on h1, FzK.on h2⟩
theorem FzN.on : ∀ {ds : List (D × D)} {ks : List (NestedKey × Addr × V)}, FzN w G ds ks → FzN (w.on x) G ds ks
  | [], vs, h => fzn_nil.mpr (fzn_nil.mp h)
  | (k, d) :: ds, vs, h => by
    obtain ⟨key, a, v, r, rfl, h0, hd, hk, h1, h2⟩ := fzn_cons.mp h
    exact fzn_cons.mpr ⟨key, a, v, r, rfl, h0, hd, Fz.on hk, Fz.on h1, FzN.on h2⟩
end
mutual
theorem Own.on : ∀ {d d' : D} {v : V} {l : List Addr}, frzT d = some d' → Own w G H d v l → Own (w.on x) G H d v l
  | .olst ds, d', v, l, hf, z => by
    obtain ⟨ds', h1, _⟩ := Option.map_eq_some_iff.mp (show (frzTL ds).map D.lst = some d' by simpa [frzT] using hf)
    obtain ⟨a, vs, l', rfl, k1, k2, k3, rfl⟩ := own_olst.mp z
    exact own_olst.mpr ⟨a, vs, l', rfl, k1, k2, OwnL.on h1 k3, rfl⟩
  | .otup ds, d', v, l, hf, z => by
    obtain ⟨ds', h1, _⟩ := Option.map_eq_some_iff.mp (show (frzTL ds).map D.tup = some d' by simpa [frzT] using hf)
    obtain ⟨a, vs, l', rfl, k1, k2, k3, rfl⟩ := own_otup.mp z
    exact own_otup.mpr ⟨a, vs, l', rfl, k1, k2, OwnL.on h1 k3, rfl⟩
  | .odic kvs, d', v, l, hf, z => by
    obtain ⟨ds', h1, _⟩ := Option.map_eq_some_iff.mp (show (frzTK kvs).map D.dic = some d' by simpa [frzT] using hf)
    obtain ⟨a, vs, l', rfl, k1, k2, k3, rfl⟩ := own_odic.mp z
    exact own_odic.mpr ⟨a, vs, l', rfl, k1, k2, OwnK.on h1 k3, rfl⟩
  | .odix kvs, d', v, l, hf, z => by
    obtain ⟨ds', h1, _⟩ := Option.map_eq_some_iff.mp (show (frzTK kvs).map D.dix = some d' by simpa [frzT] using hf)
    obtain ⟨a, vs, l', rfl, k1, k2, k3, rfl⟩ := own_odix.mp z
    exact own_odix.mpr ⟨a, vs, l', rfl, k1, k2, OwnN.on h1 k3, rfl⟩
  | .oins _ _ _, d', v, l, hf, z => by simp [frzT] at hf
  | .non, d', v, l, hf, z => let ⟨h1, h2⟩ := (own_fz rfl).mp z; (own_fz rfl).mpr ⟨h1.on, h2⟩
  | .bl _, d', v, l, hf, z => let ⟨h1, h2⟩ := (own_fz rfl).mp z; (own_fz rfl).mpr ⟨h1.on, h2⟩
  | .int _, d', v, l, hf, z => let ⟨h1, h2⟩ := (own_fz rfl).mp z; (own_fz rfl).mpr ⟨h1.on, h2⟩
  | .str _, d', v, l, hf, z => let ⟨h1, h2⟩ := (own_fz rfl).mp z; (own_fz rfl).mpr ⟨h1.on, h2⟩
  | .tup _, d', v, l, hf, z => let ⟨h1, h2⟩ := (own_fz rfl).mp z; (own_fz rfl).mpr ⟨h1.on, h2⟩
  | .tux _, d', v, l, hf, z => let ⟨h1, h2⟩ := (own_fz rfl).mp z; (own_fz rfl).mpr ⟨h1.on, h2⟩
  | .lst _, d', v, l, hf, z => let ⟨h1, h2⟩ := (own_fz rfl).mp z; (own_fz rfl).mpr ⟨h1.on, h2⟩
  | .rol _, d', v, l, hf, z => let ⟨h1, h2⟩ := (own_fz rfl).mp z; (own_fz rfl).mpr ⟨h1.on, h2⟩
  | .dic _, d', v, l, hf, z => let ⟨h1, h2⟩ := (own_fz rfl).mp z; (own_fz rfl).mpr ⟨h1.on, h2⟩
  | .dix _, d', v, l, hf, z => let ⟨h1, h2⟩ := (own_fz rfl).mp z; (own_fz rfl).mpr ⟨h1.on, h2⟩
  | .ins _ _, d', v, l, hf, z => let ⟨h1, h2⟩ := (own_fz rfl).mp z; (own_fz rfl).mpr ⟨h1.on, h2⟩
  | .loc _, d', v, l, hf, z => let ⟨h1, h2⟩ := (own_fz rfl).mp z; (own_fz rfl).mpr ⟨h1.on, h2⟩
  | .exn _ _, d', v, l, hf, z => let ⟨h1, h2⟩ := (own_fz rfl).mp z; (own_fz rfl).mpr ⟨h1.on, h2⟩
  | .fn _, d', v, l, hf, z => let ⟨h1, h2⟩ := (own_fz rfl).mp z; (own_fz rfl).mpr ⟨h1.on, h2⟩
  | .otbl _, d', v, l, hf, z => by simp [frzT] at hf
theorem OwnL.on : ∀ {ds ds' : List D} {vs : List V} {l : List Addr}, frzTL ds = some ds' → OwnL w G H ds vs l → OwnL (w.on x) G H ds vs l
  | [], ds', vs, l, hf, z => ownl_nil.mpr (ownl_nil.mp z)
  | d :: ds, ds', vs, l, hf, z => by
    obtain ⟨d1, h1, h2⟩ := Option.bind_eq_some_iff.mp (show (frzT d).bind (fun d' => (frzTL ds).map (d' :: ·)) = some ds' by simpa [frzTL] using hf)
    obtain ⟨ds1, h3, _⟩ := Option.map_eq_some_iff.mp h2
    obtain ⟨v, r, l1, l2, rfl, z1, z2, rfl⟩ := ownl_cons.mp z
    exact ownl_cons.mpr ⟨v, r, l1, l2, rfl, Own.on h1 z1, OwnL.on h3 z2, rfl⟩
theorem OwnK.on : ∀ {kvs kvs' : List (D × D)} {ks : List (Key × V)} {l : List Addr}, frzTK kvs = some kvs' → OwnK w G H kvs ks l → OwnK (w.on x) G H kvs ks l
  | [], ds', vs, l, hf, z => ownk_nil.mpr (ownk_nil.mp z)
  | (kd, d) :: ds, ds', vs, l, hf, z => by
    obtain ⟨d1, h1, h2⟩ := Option.bind_eq_some_iff.mp (show (frzT d).bind (fun d' => (frzTK ds).map ((kd, d') :: ·)) = some ds' by simpa [frzTK] using hf)
    obtain ⟨ds1, h3, _⟩ := Option.map_eq_some_iff.mp h2
    obtain ⟨key, v, r, l1, l2, rfl, z0, z1, z2, rfl⟩ := ownk_cons.mp z
    exact ownk_cons.mpr ⟨key, v, r, l1, l2, rfl, z0, Own.on h1 z1, OwnK.on h3 z2, rfl⟩
theorem OwnN.on : ∀ {kvs kvs' : List (D × D)} {es : List (NestedKey × Addr × V)} {l : List Addr}, frzTK kvs = some kvs' → OwnN w G H kvs es l → OwnN (w.on x) G H kvs es l
  | [], ds', vs, l, hf, z => ownn_nil.mpr (ownn_nil.mp z)
  | (kd, d) :: ds, ds', vs, l, hf, z => by
    obtain ⟨d1, h1, h2⟩ := Option.bind_eq_some_iff.mp (show (frzT d).bind (fun d' => (frzTK ds).map ((kd, d') :: ·)) = some ds' by simpa [frzTK] using hf)
    obtain ⟨ds1, h3, _⟩ := Option.map_eq_some_iff.mp h2
    obtain ⟨key, a, v, r, l1, l2, rfl, z0, zd, zk, z1, z2, rfl⟩ := ownn_cons.mp z
    exact ownn_cons.mpr ⟨key, a, v, r, l1, l2, rfl, z0, zd, zk.on, Own.on h1 z1, OwnN.on h3 z2, rfl⟩
end
end
abbrev IF := List D → Option (List D)
def endI (c : Nat) (r : So) : Option (List D) := match r with
  | .nx e => match e.mu, e.sl[0]? with
    | [], some (some (Vm.D.oins c' true fs)) => if c' = c then some fs else none
    | _, _ => none
  | _ => none
@[irreducible] def runI (c m n : Nat) (bd : SM) : IF := fun ds => if ds.length = m then endI c (bd ⟨some (.oins c true []) :: (ds.map some ++ List.replicate n none), []⟩) else none
def mkP (c nf : Nat) (q : IF) : PF := fun ds => match (q ds).bind frzTL with
  | some fs => if fs.length = nf then .ok (.ins c fs) else .stuck
  | none => .stuck
def spI (w : Wd) (c : Nat) (q : IF) : Sp := fun vs H Q _ => ∃ b mu ds x dx args fs, vs = .ref x :: args ∧ H = upd (upd b.H dx (.own x)) x (.ins (w.cls c) dx []) ∧ b.H x = none ∧ b.H dx = none ∧ dx ≠ x ∧ Sat w b [] ⟨[], mu⟩ ∧ FzL w b.bare.G ds args ∧ q ds = some fs ∧
  ∀ b' l, Gr false b b' → Sat w b' [] ⟨[], mu⟩ → Own (w.on (some x)) b'.G b'.H (.oins c true fs) (.ref x) l → Lone b b' l → (∀ a ∈ l, b.H a = none) → Q .non b'.H
end Vm

set_option maxHeartbeats 1000000
namespace Vm
open PySem L2 PyProof.Rows
structure Mkc (P : Program) (w : World) (K : PySem.W.Frag) (mg : Str → Option Value) (base : Heap) (k : Nat) (C : Addr) (x : Str) (sp : Sp) : Prop where
  ex : ∃ (f : Addr) (fd : FuncData) (ps : List Str), Mk K C f ∧ FnOk P w K mg base CX0 k f fd ps sp ∧ mg x = some (.ref C) ∧ Binds K fd ps []
section
variable {X : Cx} {W : Wx} {w : Wd} {pos p : Pos} {x : Str} {a : Expr} {es : List Expr} {ar : LM} {k c nf : Nat} {q : IF}
end
end Vm

set_option maxHeartbeats 1000000
namespace Vm
open PySem L2
def eSelf (i c j : Nat) : EM := fun e => match e.sl[i]? with
  | some (some (.oins c' _ ds)) => if c' = c then (match ds[j]? with
    | some d => if isF d then .ok d e else .stuck
    | none => .stuck) else .stuck
  | _ => .stuck
def sSelf (i c j : Nat) (fv : EM) : SM := fun e => ofE (fv e) fun d e1 => match e1.sl[i]? with
  | some (some (.oins c' t ds)) => if c' = c ∧ ds.length = j then .nx (e1.put (.s i) (some (.oins c' t (ds ++ [d])))) else .stuck
  | _ => .stuck
def sSelfIx (i c j : Nat) (fk fv : EM) : SM := fun e => ofE (fv e) fun d e1 => match e1.sl[i]? with
  | some (some (.oins c1 _ ds1)) => if c1 = c then (match ds1[j]? with
    | some (.odic _) => ofE (fk e1) fun y e2 => match e2.sl[i]? with
      | some (some (.oins c' t ds)) => if c' = c then (match ds[j]?, dkey y with
        | some (.odic kvs), some _ => if kvs.length < LIM then .nx (e2.put (.s i) (some (.oins c' t (ds.set j (.odic (putD kvs y d)))))) else .stuck
        | _, _ => .stuck) else .stuck
      | _ => .stuck
    | _ => .stuck) else .stuck
  | _ => .stuck
section
variable {X : Cx} {W : Wx} {s : Bool} {w : Wd} {pos p ap tp : Pos} {x c : Expr} {fk fv : EM}
end
end Vm

set_option maxHeartbeats 1000000
namespace Vm
open PySem L2
def lcOut (g : GM) (tt : TM) (it1 : LM) (g1 : GM) (tt1 : TM) (te : EM) (vs vs1 : List Nat) : List D → List D → En → Rs (List D)
  | [], acc, e => .ok acc e
  | d :: ds, acc, e => match g d e with
    | none => .stuck
    | some e1 => (tt e1).nox.bind fun k e2 => if k = true then (it1 e2).nox.bind fun ds1 e3 => (lcGo g1 tt1 te vs1 ds1 acc (wipeE e3 vs1)).bind fun acc' e4 => lcOut g tt it1 g1 tt1 te vs vs1 ds acc' (wipeE e4 vs)
      else lcOut g tt it1 g1 tt1 te vs vs1 ds acc (wipeE e2 vs)
def eLc2 (it : LM) (g : GM) (tt : TM) (it1 : LM) (g1 : GM) (tt1 : TM) (te : EM) (vs vs1 : List Nat) : EM := fun e => (it e).bind fun ds e1 => if clear e1 vs = false then .stuck else (lcOut g tt it1 g1 tt1 te vs vs1 ds [] (wipeE e1 vs)).nox.bind fun rs e2 => lift (mkLst rs) (back e1 vs e2)
section
variable {W : Wx} {s : Bool} {w : Wd} {it it1 : LM} {g g1 : GM} {tt tt1 : TM} {te : EM} {vs vs1 : List Nat}
def LcAt (w : Wd) (s : Bool) (b1 : Bs) (G0 : Gs) (σ : L2.St) (A : Addr) (K : List D → En → Prop) (H : Hp) : Prop :=
  ∃ b' e' acc av l, H = b'.H ∧ Gr s b1 b' ∧ G0.le b'.G ∧ Sat w b' σ e' ∧ Made w b1 b' A acc av l ∧ acc.length ≤ LIM ∧ K acc e'
end
end Vm

set_option maxHeartbeats 1000000
namespace Vm
open PySem L2
section
variable {X : Cx} {W : Wx} {s : Bool} {w : Wd} {pos spos py : Pos} {x elt tg iter tg1 iter1 : Expr} {ifs ifs1 : List Expr} {scope : Scope} {own : List (Str × Nat)} {it it1 : LM} {g g1 : GM} {tt tt1 : TM} {te f : EM} {vs1 : List Nat}
end
def charsD (x : Str) : List D := x.cps.toList.map fun c => .str ⟨#[c]⟩
def itStr (f : EM) : LM := fun e => (f e).bind fun d e1 => match d with
  | .str x => if (charsD x).all (fun d => match d with | .str y => PyData.strOk y | _ => false) then .ok (charsD x) e1 else .stuck
  | _ => .stuck
section
variable {X : Cx} {W : Wx} {s : Bool} {w : Wd} {pos : Pos} {x tg : Expr} {f : EM}
end
def rTupX (K : PySem.W.Frag) : List V → Hp → VK → Prop := fun xs H Q => ∃ p ys, xs = [.ref p] ∧ SqL K H p ys ∧ ∀ l o, H l = none → o.dict = none → Q (.ref l) (upd H l (.frz o (.tup ys)))
def dTupleX : D → Option D
  | .lst ds => some (.tux ds)
  | .rol ds => some (.tux ds)
  | .olst ds => if ds.all isF then some (.tux ds) else none
  | _ => none
theorem Ret.tux {w : Wd} {s : Bool} {b : Bs} {σ : L2.St} {e : En} {Q : VK} (S : Sat w b σ e) {ds : List D} {vs : List V} (r : Ret w s b σ e (.tux ds) Q) {p : Addr} {o : Obj} (hp : b.H p = none) (ho : o.dict = none) (hl : ds.length ≤ sizeLine) (z : FzL w b.G ds vs) : Q (.ref p) (upd b.H p (.frz o (.tup vs))) :=
  r.new S hp (fz_tux.mpr ⟨p, o, vs, rfl, upd_same, ho, hl, z.mono (Gr.new (s := true) (S.fresh_F hp) hp).g⟩)
def pairs? : List D → Option (List (D × D))
  | [] => some []
  | .tup [k, v] :: r => if (dkey k).isSome then (pairs? r).map ((k, v) :: ·) else none
  | _ :: _ => none
def dDictP : D → Option D := fun d => (litems? d).bind fun ds => if ds.length ≤ LIM then (pairs? ds).map fun ps => .odic (ps.foldl (fun acc p => putD acc p.1 p.2) []) else none
def rDictP (K : PySem.W.Frag) : List V → Hp → VK → Prop := fun xs H Q => ∃ (a : Addr) (ps : List Addr) (kvs : List (Key × V)), xs = [.ref a] ∧ SqL K H a (ps.map V.ref) ∧ Paired (fun p kv => SqT K H p [kV kv.1, kv.2]) ps kvs ∧
    ∀ p, H p = none → Q (.ref p) (upd H p (.dK (mergeK [] kvs)))
theorem FzK.merge {w : Wd} {G : Gs} {H : Hp} : ∀ {ps : List (D × D)} {kvs : List (Key × V)} {acc : List (D × D)} {ks : List (Key × V)}, FzK w G ps kvs → OwnK w G H acc ks [] → OwnK w G H (ps.foldl (fun acc p => putD acc p.1 p.2) acc) (mergeK ks kvs) []
  | [], kvs, acc, ks, h, z => by
    cases fzk_nil.mp h
    exact z
  | (k, d) :: ps, kvs, acc, ks, h, z => by
    obtain ⟨key, v, t, rfl, h0, h1, h2⟩ := fzk_cons.mp h
    obtain ⟨l', k1, _, k3⟩ := z.put h0 h1 List.nodup_nil
    have : l' = [] := by
      cases l' with
      | nil => rfl
      | cons a l => cases k3 a (List.mem_cons_self ..)
    subst this
    show OwnK w G H (ps.foldl (fun acc p => putD acc p.1 p.2) (putD acc k d)) (mergeK (putK ks key v) t) []
    exact FzK.merge h2 k1
theorem fold_len : ∀ (ps acc : List (D × D)), (ps.foldl (fun acc p => putD acc p.1 p.2) acc).length ≤ acc.length + ps.length
  | [], acc => by simp
  | p :: ps, acc => by
    have h1 := fold_len ps (putD acc p.1 p.2)
    have h2 := length_putD p.1 p.2 acc
    simp only [List.foldl_cons, List.length_cons]
    omega
def dRev : D → Option D := fun d => (fitems? d).bind fun ds => match d with
  | .tup _ => none
  | .tux _ => none
  | _ => some (.olst ds.reverse)
end Vm

set_option maxHeartbeats 1000000
namespace Vm
open PySem L2
def tyB : D → Option String
  | .non => some "NoneType"
  | .dic _ => some "dict"
  | .odic _ => some "dict"
  | d => tyN d
def dIsC (c : Nat) : D → Option D
  | .ins c' _ => if c' = c then some (.bl true) else none
  | d => (tyB d).map fun _ => .bl false
def NotC (K : PySem.W.Frag) (C : Addr) : Prop := ∀ t ∈ ["NoneType", "bool", "int", "str", "tuple", "list", "dict"], PySem.W.kitOne K (.type t) (.ref C) = some false
def leD (a b : D) : Bool := !PySem.W.dataLt (pd b) (pd a)
def insD (a : D) : List D → List D
  | [] => [a]
  | b :: r => if leD a b then a :: b :: r else b :: insD a r
def isortD : List D → List D
  | [] => []
  | a :: r => insD a (isortD r)
def tupN : D → Bool
  | .tup (_ :: _) => true
  | .tux (_ :: _) => true
  | _ => false
def plainS : D → Bool
  | .bl _ => true
  | .int _ => true
  | .str _ => true
  | .lst _ => true
  | .rol _ => true
  | _ => false
def okS (ds : List D) : Bool := decide (ds.length ≤ LIM) && (plnL DEP ds && ((ds.all fun a => ds.all fun b => PySem.W.alike (pd a) (pd b)) && (ds.all tupN || ds.all plainS)))
def rSortD (w : Wd) : List V → Hp → VK → Prop := fun xs H Q => ∃ (G : Gs) (a : Addr) (vs : List V) (ds : List D), xs = [.ref a] ∧ SqL w.K H a vs ∧ FzL w G ds vs ∧ (∀ a u, G.F a = some u → H a = some u) ∧ okS ds = true ∧
  ∀ vs', FzL w G (isortD ds) vs' → ∀ p, H p = none → Q (.ref p) (upd H p (.lst vs'))
section
variable {w : Wd} {G : Gs} {H : Hp} {X : Cx}
end
def dSorted : D → Option D := fun d => match d with
  | .tup _ => none
  | .tux _ => none
  | d => (fitems? d).bind fun ds => if okS ds then some (.olst (isortD ds)) else none
end Vm

set_option maxHeartbeats 1000000
namespace Vm
open PySem L2
theorem OpB.v {w : Wd} {r : R2} {g : D → D → Option D} (h : OpB w r g) : OpBO w r g := by
  intro s σ b e x y d vx vy Q S zx zy hg R
  exact h S zx zy hg fun v b' g' S' z => R v b' g' S' z.tmp
theorem OpBO.or {w : Wd} {r r' : R2} {g g' : D → D → Option D} (h : OpBO w r g) (h' : OpBO w r' g') : OpBO w (fun x y H Q => r x y H Q ∨ r' x y H Q) (orD g g') := by
  intro s σ b e x y d vx vy Q S zx zy hg R
  unfold orD at hg
  cases hq : g x y with
  | some d' =>
    rw [hq] at hg
    cases hg
    exact .inl (h S zx zy hq R)
  | none =>
    rw [hq] at hg
    exact .inr (h' S zx zy hg R)
def dCatS : D → D → Option D
  | .str i, .str j => if i.length + j.length ≤ LIM ∧ PyData.strOk (i ++ j) = true then some (.str (i ++ j)) else none
  | _, _ => none
def rCatX : R2 := fun x y H Q => ∃ i j, x = .str i ∧ y = .str j ∧ i.length + j.length ≤ sizeLine ∧ Q (.str (i ++ j)) H
theorem ob_catS {w : Wd} : OpB w rCatX dCatS := by
  intro s σ b e x y d vx vy Q S zx zy hg R
  cases x <;> try cases hg
  cases y <;> try cases hg
  rename_i i j
  have hg' : (if i.length + j.length ≤ LIM ∧ PyData.strOk (i ++ j) = true then some (D.str (i ++ j)) else none) = some d := hg
  split at hg'
  · rename_i h
    cases hg'
    obtain ⟨rfl, _⟩ := zx.str
    obtain ⟨rfl, _⟩ := zy.str
    exact ⟨i, j, rfl, rfl, lim_size h.1, R.now S (fz_str.mpr ⟨rfl, h.2⟩)⟩
  · cases hg'
def dAddA := orD dAddI (orD dCatT (orD dCatS dCatL))
def dMulA := orD dMulI (orD dRepT dRepL)
theorem ob_addA {w : Wd} : OpBO w (fun x y H Q => rI0 (fun i j => .int (i + j)) x y H Q ∨ rCatA w.K x y H Q ∨ rCatX x y H Q ∨ rCat x y H Q) dAddA := ob_addI.v.or (ob_catT.v.or (ob_catS.v.or ob_catL))
theorem ob_mulA {w : Wd} : OpBO w (fun x y H Q => rI CMulW (fun i j => .int (i * j)) x y H Q ∨ rRepA w.K x y H Q ∨ rRep x y H Q) dMulA := ob_mulI.v.or (ob_repT.v.or ob_repL)
theorem r_addA {w : Wd} {X : Cx} (o : Okx w X) : OpR X (binaryOp .Add) (fun x y H Q => rI0 (fun i j => .int (i + j)) x y H Q ∨ rCatA w.K x y H Q ∨ rCatX x y H Q ∨ rCat x y H Q) := op_add.or ((r_catT o).or (op_add_str.or op_cat))
theorem r_mulA {w : Wd} {X : Cx} (o : Okx w X) : OpR X (binaryOp .Mult) (fun x y H Q => rI CMulW (fun i j => .int (i * j)) x y H Q ∨ rRepA w.K x y H Q ∨ rRep x y H Q) := op_mulW.or ((r_repT o).or op_rep)
def dSlA : D → Option Int → Option Int → Option D := fun x l h => match dSlT x l h with
  | some d => some d
  | none => dSlL x l h
section
variable {X : Cx} {W : Wx} {s : Bool} {w : Wd} {pos p2 : Pos} {x : Expr} {lo hi : Option Expr} {fx : EM} {fl fh : OM}
theorem vSlA (o : Okx w X) (hx : PE X x (tZ w W s fx)) (hl : PO X lo (tP w W s fl)) (hh : PO X hi (tP w W s fh)) : PE X (.Subscript x (.Slice lo hi none p2) pos) (tV w W s (eSl dSlA fx fl fh)) := (pe_slice ((slT o).or (slL o)) hx hl hh).imp fun σ H Q ⟨b, e, he, S, h⟩ => by
  subst he
  refine ⟨b, e, rfl, S, (PR.bind h).mono fun d b1 e1 g1 S1 h1 v z => ⟨b1, e1, rfl, S1, (PR.bind h1).mono fun l b2 e2 g2 S2 h2 => ⟨b2, e2, rfl, S2, (PR.bind h2).mono fun k b3 e3 g3 S3 h3 => ?_⟩⟩⟩
  obtain ⟨d', hd, R⟩ := PR.retV (g1.trans (g2.trans g3)) h3
  unfold dSlA at hd
  have z3 := (z.mono g2.g).mono g3.g
  split at hd
  · rename_i d2 hd2
    cases hd
    left
    cases d <;> try cases hd2
    rename_i xs
    obtain ⟨a, vs, rfl, h1, h2, h3⟩ := fz_tup.mp z3
    refine ⟨a, vs, rfl, SqT.of (S3.ex _ _ h1), fun q => ?_, fun _ p hp => ?_⟩
    · rw [h3.length] at q
      rw [cut_whole _ _ _ q] at R
      exact R.now S3 (Fz.tmp (fz_tup.mpr ⟨a, vs, rfl, h1, h2, h3⟩))
    · exact Ret.tup S3 (fun v b' g' S' z => R v b' g' S' z.tmp) hp (Nat.le_trans (cutD_length _ _ _) h2) (h3.cut _ _)
  · right
    obtain ⟨xs, hx, rfl⟩ := Option.map_eq_some_iff.mp (show (litems? d).map _ = some d' from hd)
    obtain ⟨a, vs, rfl, h1, h2, h3⟩ := z3.br.list S3 hx
    exact ⟨a, vs, rfl, SqL.of h1, fun p hp => R.lst S3 hp (Nat.le_trans (cutD_length _ _ _) h2) (h3.cut _ _)⟩
end
section
variable {X : Cx} {W : Wx} {s : Bool} {w : Wd} {pos p2 pu pc : Pos} {x : Expr} {fx : EM} {j : Nat}
end
def eDic1 (fk fv : EM) : EM := fun e => (fk e).bind fun k e1 => (fv e1).bind fun v e2 => if (dkey k).isSome then .ok (.odic [(k, v)]) e2 else .stuck
def eDix1 (fk fv : EM) : EM := fun e => (fk e).bind fun k e1 => (fv e1).bind fun v e2 => if (nkey k).isSome then .ok (.odix [(k, v)]) e2 else .stuck
section
variable {X : Cx} {W : Wx} {s : Bool} {w : Wd} {pos : Pos} {x c : Expr} {fk fv : EM}
theorem vDic1 (hk : PE X x (tZ w W s fk)) (hv : PE X c (tZ w W s fv)) : PE X (.Dict [some x] [c] pos) (tV w W s (eDic1 fk fv)) := (pe_disp (pps_cons hk hv pps_nil) rfl rfl (by simp) (by simp)).imp fun σ H Q ⟨b, e, he, S, h⟩ => by
  subst he
  intro p hp
  have gl : Gr s b (b.lay p (.dK [])) := Gr.lay hp
  have pF := S.fresh_F hp
  have pO := S.fresh_own hp
  unfold eDic1 at h
  refine ⟨b.lay p (.dK []), e, rfl, S.lay hp, ?_⟩
  cases hfk : fk e with
  | stuck => rw [hfk] at h; exact h
  | exc c x e1 => rw [hfk] at h; exact PR.later gl h
  | ok k e1 =>
    rw [hfk] at h
    have h : PR w W s σ b ((fv e1).bind fun v e2 => if (dkey k).isSome then Rs.ok (D.odic [(k, v)]) e2 else .stuck) fun d b' _ => ∀ v, Tmp w b b' d v → Q v b'.H := h
    intro b1 g1 S1 vk zk
    refine ⟨b1, e1, rfl, S1, ?_⟩
    have g01 : Gr s b b1 := gl.trans g1
    cases hfv : fv e1 with
    | stuck => rw [hfv] at h; exact h
    | exc c x e2 => rw [hfv] at h; exact PR.later g01 h
    | ok d e2 =>
      rw [hfv] at h
      have h : PR w W s σ b (if (dkey k).isSome then Rs.ok (D.odic [(k, d)]) e2 else .stuck) fun d b' _ => ∀ v, Tmp w b b' d v → Q v b'.H := h
      split at h
      · rename_i hky
        obtain ⟨ky, hky⟩ := Option.isSome_iff_exists.mp hky
        intro b2 g2 S2 vd zd
        have g12 : Gr s (b.lay p (.dK [])) b2 := g1.trans g2
        have hlp : (b.lay p (.dK [])).H p = some (.dK []) := upd_same
        have hp2 : b2.H p = some (.dK []) := g12.k p _ hlp (keeps_no fun ⟨y, hy⟩ => pO ⟨y, hy⟩)
        have hno : ¬ b2.own p := fun z => (g12.p p z).elim (fun ⟨y, hy⟩ => pO ⟨y, hy⟩) fun z => by
          rw [hlp] at z
          cases z
        have hF : b2.G.F p = none := by
          cases q : b2.G.F p with
          | none => rfl
          | some u =>
            rcases g12.n p (by rw [q]; intro z; cases z) with z | z | z
            · exact absurd pF z
            · exact absurd z (fun ⟨y, hy⟩ => pO ⟨y, hy⟩)
            · rw [hlp] at z
              cases z
        have g02 : Gr s b b2 := gl.trans g12
        refine ⟨hp2, [(ky, vd)], by rw [dkey_kV zk hky]; rfl, by simp, ?_⟩
        show Q (.ref p) (upd b2.H p (.dK [(ky, vd)]))
        refine h (b2.lay p (.dK [(ky, vd)])) ?_ (S2.side hF hno) (.ref p) ⟨[p], own_odic.mpr ⟨p, [(ky, vd)], [], rfl, upd_same, by show 1 ≤ sizeLine; decide, ownk_cons.mpr ⟨ky, vd, [], [], [], rfl, hky, zd.own, ownk_nil.mpr ⟨rfl, rfl⟩, rfl⟩, rfl⟩, by simp, fun a ha => ?_⟩
        · refine ⟨g02.g, fun a u q n => (upd_ne (ne_of_none q hp)).trans (g02.k a u q n), g02.n, g02.p, g02.q, fun a q => ?_⟩
          have q' : upd b2.H p (.dK [(ky, vd)]) a = none := q
          by_cases ha : a = p
          · rw [ha]
            exact hp
          · rw [upd_ne ha] at q'
            exact g02.h a q'
        · have : a = p := by simpa using ha
          subst this
          exact ⟨hF, hno, .inl hp⟩
      · exact h.elim
end
end Vm

set_option maxHeartbeats 1000000
namespace Vm
open PySem L2 PyProof.Rows
structure Mk1 (K : PySem.W.Frag) (mg : Str → Option Value) (C : Addr) (x qual : Str) (st : Stmt) : Prop where
  ex : ∃ f fd, Mk K C f ∧ mg x = some (.ref C) ∧ FunD K "__init__" qual (defArgs st) (defBody st) (defScope st) [] [] f fd
section
variable {X : Cx} {W : Wx} {s : Bool} {w : Wd} {pos : Pos} {a c d ce : Expr} {fa fb fc f : EM} {t ta tb : TM} {r r' : R2} {g g' : D → D → Option D} {op op' : CmpOp}
def tIfD (t f g : TM) : TM := fun e => (t e).bind fun k e1 => if k = true then f e1 else g e1
end
end Vm

set_option maxHeartbeats 1000000
namespace Vm
open PySem L2 PyProof.Rows
def BrL (w : Wd) (b : Bs) : List D → List V → Prop
  | [], vs => vs = []
  | d :: ds, vs => ∃ v r, vs = v :: r ∧ Br w b d v ∧ BrL w b ds r
def tK (w : Wd) (W : Wx) (s : Bool) (f : LM) : TA := fun σ H Q => ∃ b e, H = b.H ∧ Sat w b σ e ∧ PR w W s σ b (f e) fun ds b' _ => ∀ vs, BrL w b' ds vs → Q vs b'.H
section
variable {X : Cx} {W : Wx} {s : Bool} {w : Wd} {pos p : Pos} {x : Expr} {es : List Expr} {f : EM} {g : LM}
end
def lendD : D → Option D
  | .olst ds => if ds.all isF then some (.lst ds) else none
  | d => if isF d then some d else none
def lendL : List D → Option (List D)
  | [] => some []
  | d :: ds => (lendD d).bind fun d' => (lendL ds).map (d' :: ·)
def lentF (b : Bs) : Hp := fun a => match b.G.F a with
  | some u => some u
  | none => match b.H a with
    | some (.lst vs) => some (.lst vs)
    | _ => none
def Bs.lent (b : Bs) : Bs := ⟨⟨lentF b, fun _ => none⟩, b.H, fun _ => []⟩
def Bs.got (b b' : Bs) : Bs := ⟨b.G, b'.H, b.o⟩
section
variable {w : Wd} {b b' : Bs} {σ : L2.St} {e : En} {s : Bool}
theorem lent_le : (⟨b.G.F, fun _ => none⟩ : Gs).le b.lent.G := ⟨fun a u h => by
  show lentF b a = some u
  have h' : b.G.F a = some u := h
  unfold lentF
  rw [h'], fun _ _ h => by cases h⟩
theorem lent_ex (S : Sat w b σ e) : ∀ a u, lentF b a = some u → b.H a = some u := fun a u h => by
  unfold lentF at h
  split at h
  · rename_i u' hu
    cases h
    exact S.ex a _ hu
  · split at h
    · rename_i vs hv
      cases h
      exact hv
    · cases h
theorem lent_own {a : Addr} : ¬ b.lent.own a := fun ⟨_, h⟩ => nomatch h
theorem Sat.lent {w' : Wd} (S : Sat w b σ e) : Sat w' b.lent [] ⟨[], []⟩ where
  ex := lent_ex S
  le := rfl
  lm := fun n => ⟨fun _ => Nat.zero_le _, fun _ => rfl⟩
  sl := fun x d h => by
    cases x with
    | s i =>
      have h' : (([] : List (Option D))[i]?).getD none = some d := h
      simp at h'
    | m n =>
      have h' : (([] : List (Option D))[n]?).getD none = some d := h
      simp at h'
  em := fun _ _ => rfl
  ap := fun x y a h => nomatch h
  nd := fun _ => List.nodup_nil
  fo := fun x a h => nomatch h
theorem Gr.got (g : Gr false b.lent b') : Gr s b (b.got b') where
  g := .refl _
  k := fun a u h _ => g.k a u h (keeps_no lent_own)
  n := fun a h => .inl h
  p := fun a h => .inl h
  q := fun _ n a h => .inl ⟨n, h⟩
  h := g.h
theorem Sat.got (S : Sat w b σ e) (g : Gr false b.lent b') : Sat w (b.got b') σ e :=
  S.grow (.refl _) (fun _ => rfl) rfl (fun a u h => g.k a u (S.ex a u h) (keeps_no lent_own)) (fun a u _ h => g.k a u h (keeps_no lent_own)) fun a h => (S.there h).1
theorem fz_bare (n : e.mu = [] ∨ noLoc d = true) (S : Sat w b σ e) {d : D} {v : V} (hn : e.mu = [] ∨ noLoc d = true) (z : Fz w b.G d v) : Fz w ⟨b.G.F, fun _ => none⟩ d v := by
  rcases hn with hn | hn
  · have : (⟨b.G.F, fun _ => none⟩ : Gs) = b.G := by
      have h2 : b.G.ρ = fun _ => none := funext fun n => (S.lm n).mpr (by rw [hn]; exact Nat.zero_le _)
      cases hG : b.G
      rw [hG] at h2
      simp at h2
      rw [h2]
    rw [this]
    exact z
  · exact z.bare hn
theorem Br.lent (S : Sat w b σ e) {d d' : D} {v : V} (z : Br w b d v) (h : lendD d = some d') (hn : e.mu = [] ∨ noLoc d' = true) : Fz w b.lent.G d' v := by
  have fin : ∀ {d : D}, isF d = true → Br w b d v → (e.mu = [] ∨ noLoc d = true) → Fz w b.lent.G d v := fun {d} hF z hn => (fz_bare (d := d) hn S hn (z.fz hF)).mono lent_le
  unfold lendD at h
  split at h
  · rename_i ds
    split at h
    · rename_i hf
      cases h
      obtain ⟨a, vs, l, rfl, h1, h2, h3⟩ := z.olst
      have z3 := (h3.fz hf).1
      refine fz_lst.mpr ⟨a, vs, rfl, ?_, h2, ?_⟩
      · show lentF b a = _
        unfold lentF
        split
        · rename_i u hu
          rw [S.ex a u hu] at h1
          exact h1
        · rw [h1]
      · rcases hn with hn | hn
        · refine FzL.mono lent_le ?_
          have : (⟨b.G.F, fun _ => none⟩ : Gs) = b.G := by
            have h2 : b.G.ρ = fun _ => none := funext fun n => (S.lm n).mpr (by rw [hn]; exact Nat.zero_le _)
            cases hG : b.G
            rw [hG] at h2
            simp at h2
            rw [h2]
          rw [this]
          exact z3
        · exact FzL.mono lent_le (FzL.bare z3 (by simpa [noLoc] using hn))
    · cases h
  · split at h
    · rename_i hF
      cases h
      exact fin hF z hn
    · cases h
theorem BrL.lent (S : Sat w b σ e) : ∀ {ds ds' : List D} {vs : List V}, BrL w b ds vs → lendL ds = some ds' → (e.mu = [] ∨ noLocL ds' = true) → FzL w b.lent.G ds' vs
  | [], ds', vs, z, h, _ => by
    cases h
    exact fzl_nil.mpr z
  | d :: ds, ds', vs, z, h, hn => by
    obtain ⟨v, r, rfl, z1, z2⟩ := z
    obtain ⟨d1, h1, h2⟩ := Option.bind_eq_some_iff.mp (show (lendD d).bind (fun d' => (lendL ds).map (d' :: ·)) = some ds' from h)
    obtain ⟨ds1, h3, rfl⟩ := Option.map_eq_some_iff.mp h2
    have hn' : (e.mu = [] ∨ noLoc d1 = true) ∧ (e.mu = [] ∨ noLocL ds1 = true) := by
      rcases hn with hn | hn
      · exact ⟨.inl hn, .inl hn⟩
      · have : noLoc d1 = true ∧ noLocL ds1 = true := by simpa [noLocL] using hn
        exact ⟨.inr this.1, .inr this.2⟩
    exact fzl_cons.mpr ⟨v, r, rfl, z1.lent S h1 hn'.1, BrL.lent S z2 h3 hn'.2⟩
end
def okMu (e : En) (ds : List D) : Bool := match e.mu with
  | [] => true
  | _ :: _ => noLocL ds
def eCallL (p : PF) (ar : LM) : EM := fun e => (ar e).bind fun ds e1 => match lendL ds with
  | some ds' => if okMu e1 ds' then (match p ds' with
    | .ok d => if flat d then .ok d e1 else .stuck
    | _ => .stuck) else .stuck
  | none => .stuck
section
variable {X : Cx} {W : Wx} {s : Bool} {w : Wd} {pos p : Pos} {x : Str} {a : Expr} {es : List Expr} {ar : LM} {q : PF} {k : Nat}
end
end Vm

set_option maxHeartbeats 1000000
namespace Vm
open PySem L2
def mergeN (es more : List (NestedKey × Addr × V)) : List (NestedKey × Addr × V) := more.foldl (fun acc e => putN acc e.1 e.2.1 e.2.2) es
theorem NE.merge : ∀ {more : List (NestedKey × Addr × V)} {ps : List (NestedKey × Addr × Value)} {es : List (NestedKey × Addr × V)} {xs : List (NestedKey × Addr × Value)}, NE more ps → NE es xs → NE (mergeN es more) (storedAllH xs ps)
  | _, _, _, _, .nil, h => h
  | _, _, es, xs, .cons (a := p) (b := q) (l₁ := r) (l₂ := t) h g, k => by
    have : NE (putN es p.1 p.2.1 p.2.2) (storedH xs q.1 q.2.1 q.2.2) := by
      rw [← h.1, ← h.2.1]
      exact NE.put h.2.2 k
    show NE (mergeN (putN es p.1 p.2.1 p.2.2) r) (storedAllH (storedH xs q.1 q.2.1 q.2.2) t)
    exact NE.merge g this
def rDictN (X : Cx) (w : Wd) : List V → Hp → VK → Prop := fun xs H Q => ∃ (a : Addr) (ts : List Addr) (es : List (NestedKey × Addr × V)), xs = [.ref a] ∧ SqL w.K H a (ts.map V.ref) ∧ Paired (fun t e => SqT w.K H t [.ref e.2.1, e.2.2]) ts es ∧ NKs X H es ∧
  ∀ p, H p = none → Q (.ref p) (upd H p (nst w p (mergeN [] es)))
def npairs? : List D → Option (List (D × D))
  | [] => some []
  | .tup [k, v] :: r => if (nkey k).isSome then (npairs? r).map ((k, v) :: ·) else none
  | _ :: _ => none
def dDictN : D → Option D := fun d => (litems? d).bind fun ds => if ds.length ≤ LIM then (npairs? ds).map fun ps => .odix (ps.foldl (fun acc p => putD acc p.1 p.2) []) else none
theorem FzN.merge {w : Wd} {G : Gs} {H : Hp} : ∀ {ps : List (D × D)} {more : List (NestedKey × Addr × V)} {acc : List (D × D)} {es : List (NestedKey × Addr × V)}, FzN w G ps more → OwnN w G H acc es [] → OwnN w G H (ps.foldl (fun acc p => putD acc p.1 p.2) acc) (mergeN es more) []
  | [], kvs, acc, ks, h, z => by
    cases fzn_nil.mp h
    exact z
  | (k, d) :: ps, kvs, acc, ks, h, z => by
    obtain ⟨key, a, v, t, rfl, h0, hd, hk, h1, h2⟩ := fzn_cons.mp h
    obtain ⟨l', k1, _, k3⟩ := z.put h0 hd hk h1 List.nodup_nil
    have : l' = [] := by
      cases l' with
      | nil => rfl
      | cons a l => cases k3 a (List.mem_cons_self ..)
    subst this
    show OwnN w G H (ps.foldl (fun acc p => putD acc p.1 p.2) (putD acc k d)) (mergeN (putN ks key a v) t) []
    exact FzN.merge h2 k1
def un2O (g g' : D → Option D) : D → Option D := fun x => match g x with
  | some d => some d
  | none => g' x
def dDictA := un2O dDictP dDictN
end Vm

set_option maxHeartbeats 1000000
namespace VmT
open PySem PyProof.Rows HT
open PySem.SeqAt
open PySem.AutoSeq1 (wpAny_loadPart')
open PySem.MeetsSeq PySem.MeetsSeq2 PySem.MeetsSeq3
section
variable {prog : Program} {w : World} {A : Around} {E : Value → Shared → Prop} {s : Shared}
end
end VmT
namespace Vm
open PySem L2
def rRev (K : PySem.W.Frag) : V → Hp → VK → Prop := fun x H1 Q => ∃ a xs, x = .ref a ∧ ((SqL K H1 a xs ∧ ∀ p, H1 p = none → Q (.ref p) (upd H1 p (.lst xs.reverse))) ∨ (SqT K H1 a xs ∧ ∀ p, H1 p = none → Q (.ref p) (upd H1 p (.tup xs.reverse))))
def dRevA : D → Option D := fun d => match d with
  | .tup ds => some (.tup ds.reverse)
  | .tux ds => some (.tup ds.reverse)
  | d => dRev d
section
variable {X : Cx} {W : Wx} {s : Bool} {w : Wd} {pos p2 pu pc : Pos} {x : Expr} {fx : EM} {j : Nat}
end
end Vm

namespace VmH
open PySem PySem.Spec PyProof.Rows L2 He
end VmH

set_option maxHeartbeats 1000000
namespace VmX
open PySem PySem.Spec PyProof.Rows L2 NdefX
structure Ei (P : Program) (K : PySem.W.Frag) (C fI : Addr) (F : NF) (x fld : Str) : Prop where
  T : OexC K C
  iC : PySem.W.findIn K (.ref C) "__init__" = some (some (.ref fI))
  tI : PySem.W.typeIn K (.ref fI) = some (.type "function")
  noat : PySem.W.findIn K (.ref C) fld = some none
  body : ∃ p0 p1 p2 p3 p4 p5 p6 p7 p8 p9, F.body = [.Expr (.Call (.Attribute (.Call (.Name "super" p0) [] [] p1) "__init__" p2) [.Name x p3] [] p4) p5, .Assign [.Attribute (.Name "self" p6) fld p7] (.Name x p8) p9] ∧ (∃ pl : Sem Bool, ∀ env : Env, eval (.Call (.Attribute (.Call (.Name "super" p0) [] [] p1) "__init__" p2) [.Name x p3] [] p4) env = (do
      let ov ← attributeBase (.Call (.Name "super" p0) [] [] p1) "__init__" env (eval (.Call (.Name "super" p0) [] [] p1) env)
      standAt p2.atName
      let (f, first) ← holding [ov] (getMethod ov "__init__" pl)
      callWith p4 f first (backTo p4 (starEach [.Name x p3] env)) [])) ∧ (∀ env : Env, swapsWith (.Call (.Attribute (.Call (.Name "super" p0) [] [] p1) "__init__" p2) [.Name x p3] [] p4) none p5.line env = pure false) ∧ ∀ env : Env, swapsWith (.Name x p8) (some (.Attribute (.Name "self" p6) fld p7)) p9.line env = pure false
  hd : ∃ ar, (F.params.posonlyargs ++ F.params.args).head? = some ar ∧ ar.arg = "self"
  sc : NScope ["self", x, "__class__"] ["self", x] ["__class__"] F.scope
  sup : F.scope.names.lookup ("super" : Str) = some .globalImplicit
  cell : ∃ cc cl cld csl, F.cl = [(("__class__" : Str), cc)] ∧ K.lookup cc = some ⟨cl, cld, .cell (some (.ref C)), csl⟩
  code : ∃ ccl cdd vs ccs file tf, K.lookup F.c = some ⟨ccl, cdd, .fields vs, ccs⟩ ∧ vs[2]? = some (.str file tf) ∧ ((P.main.file : Str) == file) = true
  cls : ∃ cd, PySem.W.clsIn K C = some cd
  own : PySem.W.mroIn K C (.ref C) = some true
  supC : PySem.W.ks_superIn K C C "__init__" = some (some (.builtin "ValueError.__init__"))
  opq : PySem.W.nsIn K cStatics "thirdparty.any" = some none
  veC : PySem.W.subIn K (.ref C) (.type "ValueError") = some true
  top : (P.main.scope.names.lookup ("super" : Str)).isSome = false
def spE (C : Addr) (fld : Str) : Sp := fun vs H Q _ => ∃ a y, vs = [.ref a, y] ∧ H a = some (exo a C none) ∧ ∀ d, H d = none → d ≠ a → Q .non (upd (upd H d (exd d [(fld, y)])) a (exo a C (some d)))
theorem call_mw {prog : Program} {w : World} {A : Around} {E : Value → Shared → Prop} {hh : Heap} {g : Array GenState} {d : Drawn} {tk : Nat} {os : OsState} {nm q : Str} {C N : Addr} {bs bm : List Value} {hdct : Bool} {sn : List Str} {sub : List Value} {ab : Bool} {col : Option Bool} {dd : Option Addr} {k0 k1 k2 k3 k5 : Option Value}
    {u e t0 : Addr} {rest : List Value} {Q : Value → Shared → Prop}
    (hC : hh.get? C = some (excClassObj nm q C N bs bm hdct sn sub ab col dd k0 k1 k2 k3 k5 "ValueError.__new__")) (he : hh.get? e = some (PySem.W.excObj C t0 none .none)) (hu : hh.get? u = some (PySem.W.kxs_mw "ValueError.__init__" e)) (hz : rest.length ≤ sizeLine)
    (hq : ∀ h' t1, (∀ b o, b ≠ e → hh.get? b = some o → h'.get? b = some o) → h'.get? e = some (PySem.W.excObj C t1 none .none) → Q .none ⟨h', g, d, tk, os⟩) :
    wpAny (model prog w) A (call (.ref u) rest) Q E ⟨hh, g, d, tk, os⟩ := by
  have kind : (Value.type "method-wrapper" == Value.type "method" || Value.type "method-wrapper" == Value.type "builtin_function_or_method" || Value.type "method-wrapper" == Value.type "method-wrapper") = true := by decide
  have init : codeAny (model prog w) A (.call (.ref u) ⟨rest, []⟩) (callEnd Q E) ⟨hh, g, d, tk, os⟩ := by
    apply codeAny_of_tree
    show wpAny _ A.in1 (callAny (.ref u) ⟨rest, []⟩) _ _ _
    simp only [callAny]
    refine wpAny_bind (wpAny_load hu ?_)
    simp only [PySem.W.kxs_mw, kind, if_true]
    refine PySem.W.KFB.if_so (by decide) ?_
    refine wpAny_bind (PySem.W.check_bound_init PySem.F.excBase_ValueError.toExcCallFacts hC he rfl ?_)
    exact wpAny_bind (wpAny_pure (wpAny_pure ⟨Code.quiet_builtin _ (by decide +kernel), codeAny_builtin PySem.F.excBase_ValueError.initEntry (PySem.W.exc_init_tree (cls := .ref C) (t0 := t0) (dv := none) (c2 := .none) (c3 := .none) (b4 := .bool false) he hz fun h' k e' _ => hq h' _ k e')⟩))
  exact wpAny_call init
theorem cls_at {K : PySem.W.Frag} {h : Heap} {C : Addr} {cd : ClassData} (e : PySem.W.clsIn K C = some cd) (X : K.In h) : ∃ o, h.get? C = some o ∧ o.data = .cls cd := by
  cases q : K.lookup C with
  | none =>
    unfold PySem.W.clsIn at e
    rw [q] at e
    cases e
  | some o =>
    obtain ⟨oc, od, dt, sl⟩ := o
    unfold PySem.W.clsIn at e
    rw [q] at e
    cases dt <;> first | (cases e; exact ⟨_, X _ _ q, rfl⟩) | cases e
theorem ei_ok {CX : CXT} {P : Program} {w : World} {K : PySem.W.Frag} {mg : Str → Option Value} {base : Heap} {k : Nat} {C fI : Addr} {F : NF} {x fld : Str} {dV kV doc pm ct oc : Value} {an od : Option Addr} {osl : Array (Option Value)}
    (lk : K.lookup fI = some ⟨oc, od, .func (PySem.W.fnX F.name F.qual F.params F.body F.scope F.cl dV kV doc pm an (.ref F.c) ct), osl⟩) (hcd : PySem.W.codeIn K (.ref F.c) F.qual = true) (I : Ei P K C fI F x fld) (hms : mg "super" = none) (hdb : (x == ("__debug__" : Str)) = false) (hcd2 : (x == ("__classdict__" : Str)) = false) :
    FnOk P w K mg base CX (k + 1) fI (PySem.W.fnX F.name F.qual F.params F.body F.scope F.cl dV kV doc pm an (.ref F.c) ct) ["self", x] (spE C fld) := by
  obtain ⟨T, iC, tI, noat, ⟨p0, p1, p2, p3, p4, p5, p6, p7, p8, p9, hbody, ⟨pl, hev⟩, hsw, hsw2⟩, ⟨ar, hhd, harg⟩, S, sup, ⟨cc, cl, cld, csl, hcl, hcc⟩, ⟨ccl, cdd, vs2, ccs, file, tf, hcode, hvs2, hfile⟩, ⟨cd, hcd1⟩, own, supC, opq, veC, top⟩ := I
  refine ⟨fun vs H Q E ⟨a, y, e, _⟩ => by rw [e]; rfl, fun A outer s H args us vs Q E hr e0 hb r hsp => ?_⟩
  obtain ⟨a, y, rfl, ea, hq⟩ := hsp
  have KX : K.In s.heap := e0.mod.kin.keeps fun b o e => (e0.bs b o e).1
  have lim : s.heap.NoLimit := e0.mod.nolimit.keeps fun b o e => (e0.bs b o e).1
  refine PySem.codeAny_call_function hr.depth (KX _ _ lk) rfl S.co S.gen rfl (PySem.W.codeRec_of KX hcd) (hb _ _ _ _ ?_)
  refine wpAny_newFunctionEnv S.nocell (fun ⟨n, _⟩ hy => S.par n (List.of_mem_zip hy).1) (fun h₁ hns hsb => ⟨lim.fresh _ hsb, ?_⟩) S.kind
  show codeAny _ _ (.func F.body (envF F fI s.heap.objs.size)) _ _
  have kp : ∀ b o, s.heap.get? b = some o → h₁.get? b = some o := fun b o e => hsb.extBut b o (Nat.ne_of_lt (Heap.lt_size e)) (Heap.get?_push_of_some _ e)
  have hcc0 : base.get? cc = some ⟨cl, cld, .cell (some (.ref C)), csl⟩ := e0.mod.kin _ _ hcc
  have CA : CellsAt F.cl ["__class__"] [some (.ref C)] s.heap H := by
    rw [hcl]
    refine ⟨rfl, fun z c hz => ?_, fun z1 z2 c h1 h2 => ?_, fun i z hi => ?_⟩
    · by_cases hzz : z = "__class__"
      · subst hzz
        have : c = cc := by simpa [List.lookup] using hz.symm
        subst this
        exact ⟨(e0.bs _ _ hcc0).2, _, _, (e0.bs _ _ hcc0).1, rfl⟩
      · have e2 : (z == ("__class__" : Str)) = false := by simpa using hzz
        simp [List.lookup, e2] at hz
    · by_cases hz1 : z1 = "__class__"
      · by_cases hz2 : z2 = "__class__"
        · rw [hz1, hz2]
        · have e2 : (z2 == ("__class__" : Str)) = false := by simpa using hz2
          simp [List.lookup, e2] at h2
      · have e2 : (z1 == ("__class__" : Str)) = false := by simpa using hz1
        simp [List.lookup, e2] at h1
    · cases i with
      | zero =>
        have : z = "__class__" := by simpa using hi.symm
        subst this
        refine ⟨cc, by simp [List.lookup], fun v hv => ?_⟩
        have : v = .ref C := by simpa using hv.symm
        subst this
        exact ⟨_, rfl, _, (e0.bs _ _ hcc0).1, rfl⟩
      | succ i => simp at hi
  have J : L2.Inv (ncx CX P w K mg base [("self" : Str), x, "__class__"] F fI A outer s H E) [] (startF [("self" : Str), x, "__class__"] [.ref a, y] [some (.ref C)]) H { s with heap := h₁, toks := s.toks + ([("self" : Str), x].zip us).length } := inv_startN S hr.hd e0 rfl r CA hns kp
  refine PySem.ks_codeAny_funcAt ?_
  rw [hbody]
  generalize hs1 : ({ s with heap := h₁, toks := s.toks + ([("self" : Str), x].zip us).length } : Shared) = s1 at J ⊢
  obtain ⟨hp, g, d, t, os⟩ := s1
  have KX1 : K.In hp := J.kIn
  obtain ⟨nm, q, N, bs, bm, sn, sub, ab, col, dd, k0, k1, k2, k3, k5, hC, hbm⟩ := T.cls
  obtain ⟨t1, ho⟩ := exo_at J.hok ea
  refine PySem.ks_wpAt_execs_cons (PySem.ks_wpAt_Expr_any (hi := J.quiet) (hs := hsw _) (PySem.ks_wpAt_MethodCall (he := hev _) (PySem.ks_wpAt_super_base (s := ⟨hp, g, d, t, os⟩) (f := fI) (cc := F.c) (ar := ar) (env := envF F fI s.heap.objs.size) (show F.scope.names.lookup ("super" : Str) = _ from sup) (S.frk "__class__" (by simp)) (by decide) rfl (KX1 _ _ lk) rfl hhd rfl (KX1 _ _ hcode) rfl hvs2 hfile top ?_)))
  obtain ⟨mb, hb1, hb2⟩ := J.mod.blt
  refine PySem.W.ks_loadName_global S.kind sup (PySem.Calls.loadGlobal_builtin (env := envF F fI s.heap.objs.size) (J.mod.glob.keeps J.bk) hms (hb1.keeps J.bk) ((hb2 _ (by decide +kernel)).trans (by decide +kernel)) ⟨rfl, ?_⟩)
  refine wpAny_loadName_free S.kind (S.frk "__class__" (by simp)) (show F.cl.lookup ("__class__" : Str) = some cc by rw [hcl]; rfl) ⟨_, KX1 _ _ hcc, rfl⟩ ?_
  obtain ⟨m, hm, hl⟩ := J.loc
  obtain ⟨u0, ru0, lu0⟩ := hl 0 "self" (.ref a) rfl rfl (.inl (S.par "self" (by simp)))
  obtain rfl : u0 = Value.ref a := ru0
  have hself : m "self" = some (.ref a) := by
    rcases lu0 with ⟨_, e⟩ | ⟨e, _⟩
    · exact e
    · have := S.par "self" (by simp)
      have e' : F.scope.names.lookup ("self" : Str) = some .cell ∨ F.scope.names.lookup ("self" : Str) = some .free := e
      rw [this] at e'
      rcases e' with e' | e' <;> cases e'
  rw [harg]
  refine wpAny_loadName_local S.kind (S.par "self" (by simp)) hm hself ?_
  obtain ⟨oD, hD1, hD2⟩ := cls_at hcd1 KX1
  refine PySem.ks_wpAny_isType_cls hD1 hD2 ⟨rfl, ?_⟩
  refine PySem.ks_wpAny_call_super hD1 hD2 ho rfl (fun c e => by cases e) (PySem.W.looks_mroIn KX1 own) (fun h' e k => ?_)
  have J2 := J.kept (t' := t) k
  have KX2 : K.In h' := J2.kIn
  have ho2 := k _ _ ho
  unfold PySem.W.ks_superIn at supC
  rw [hcd1] at supC
  have I2 : PySem.W.InstAt h' a (PySem.W.excObj C t1 none .none) C none := ⟨ho2, rfl, rfl, trivial⟩
  refine PySem.W.kxs_getMethod PySem.W.kxs_ValueError e (PySem.W.looks_opaque KX2 opq) (l₀ := cd.mro) (fun A Q E s k q => wpAny_bind ((PySem.W.looks_clsIn KX2 hcd1) A _ E s k (wpAny_pure q))) rfl KX2 supC (I2.type.andThen (PySem.W.looks_subIn KX2 veC)) (PySem.W.ks_ne KX2 I2 hcd1) (by decide) ?_
  have k3 : ∀ b o, h'.get? b = some o → (h'.push (PySem.W.kxs_mw "ValueError.__init__" a)).get? b = some o := fun b o e => Heap.get?_push_of_some _ e
  have J3 := J2.kept (t' := t + 1) k3
  have hu3 : (h'.push (PySem.W.kxs_mw "ValueError.__init__" a)).get? h'.objs.size = some (PySem.W.kxs_mw "ValueError.__init__" a) := Heap.get?_push_at rfl rfl
  have Ip : L2.Inv (ncx CX P w K mg base [("self" : Str), x, "__class__"] F fI A outer s H E) [(h'.objs.size, PySem.W.kxs_mw "ValueError.__init__" a)] (startF [("self" : Str), x, "__class__"] [.ref a, y] [some (.ref C)]) H ⟨h'.push (PySem.W.kxs_mw "ValueError.__init__" a), g, d, t + 1, os⟩ :=
    ⟨J3.ok, J3.os, J3.bare, J3.base, J3.loc, J3.cell, J3.free, J3.freeC, fun p hp => by
      have hp' : p ∈ ([] : List (Addr × Obj)) ++ [(h'.objs.size, PySem.W.kxs_mw "ValueError.__init__" a)] := hp
      have : p = (h'.objs.size, PySem.W.kxs_mw "ValueError.__init__" a) := by simpa using hp'
      subst this
      exact ⟨hu3, J2.hok.fresh (Nat.le_refl _), fun z => absurd J2.lt (by rw [← z]; exact Nat.lt_irrefl _), J2.nofs (Nat.le_refl _), fun v z => by cases z⟩, J3.hok, J3.len⟩
  have hst : starEach [.Name x p3] (envF F fI s.heap.objs.size) = (false, eval (.Name x p3) (envF F fI s.heap.objs.size)) :: starEach [] (envF F fI s.heap.objs.size) := rfl
  have PAx : PA (ncx CX P w K mg base [("self" : Str), x, "__class__"] F fI A outer s H E) [.Name x p3] _ := pa_cons (pv 1 rfl (.inl (S.par x (by simp))) hdb hcd2) pa_nil hst
  have key : ∀ {R : List Value → Shared → Prop}, (∀ us s2, L2.Inv (ncx CX P w K mg base [("self" : Str), x, "__class__"] F fI A outer s H E) [(h'.objs.size, PySem.W.kxs_mw "ValueError.__init__" a)] (startF [("self" : Str), x, "__class__"] [.ref a, y] [some (.ref C)]) H s2 → Vals [y] us → R us s2) →
      wpAny (model P w) (A.deeper (envF F fI s.heap.objs.size)) (spliced (backTo p4 (starEach [.Name x p3] (envF F fI s.heap.objs.size)))) R (ncx CX P w K mg base [("self" : Str), x, "__class__"] F fI A outer s H E).xe ⟨h'.push (PySem.W.kxs_mw "ValueError.__init__" a), g, d, t + 1, os⟩ := fun {R} hR =>
    thn (PAx.run p4 _ _ _ H (fun vs H1 => vs = [y] ∧ H1 = H) Ip ⟨y, rfl, rfl, rfl⟩) fun us s2 ⟨vs, H1, I4, r1, ev, eH⟩ => by
      subst ev eH
      exact hR us s2 I4 r1
  rw [hst] at key
  show wpAny _ _ (callWith p4 (.ref h'.objs.size) [] (backTo p4 (starEach [.Name x p3] (envF F fI s.heap.objs.size))) []) _ _ _
  rw [hst]
  refine PySem.W.kxs_callWith (u := h'.objs.size) (x := a) (i := "ValueError.__init__") rfl (PySem.Calls.evalArgs_plain (key fun us s2 I4 r1 => ?_))
  have hu4 := (I4.pin (h'.objs.size, PySem.W.kxs_mw "ValueError.__init__" a) (by simp)).1
  refine ⟨hu4, ?_⟩
  obtain ⟨hp4, g4, d4, tk4, os4⟩ := s2
  obtain ⟨t4, ho4⟩ := exo_at I4.hok ea
  have J4 : L2.Inv (ncx CX P w K mg base [("self" : Str), x, "__class__"] F fI A outer s H E) [] (startF [("self" : Str), x, "__class__"] [.ref a, y] [some (.ref C)]) H ⟨hp4, g4, d4, tk4, os4⟩ := ⟨I4.ok, I4.os, I4.bare, I4.base, I4.loc, I4.cell, I4.free, I4.freeC, (fun p hp => absurd (show p ∈ ([] : List (Addr × Obj)) ++ [] from hp) (by simp)), I4.hok, I4.len⟩
  refine call_mw (I4.kIn _ _ hC) ho4 hu4 (by show us.length ≤ _; rw [← r1.length, sizeLine_eq]; show 1 ≤ 16777216; omega) fun h5 t5 k5 he5 => ?_
  have J5 := J4.write (t' := tk4) (x := a) (e := a) (o := exo a C none) (by rw [ea]; exact True.intro) (.inl rfl) k5 ⟨_, he5⟩ (exo_ok he5)
  have eu : upd H a (exo a C none) = H := by
    funext b
    by_cases hb : b = a
    · rw [hb, upd_same, ea]
    · rw [upd_ne hb]
  rw [eu] at J5
  refine wpAt_of_wpAny ?_
  have PB : PSs (ncx CX P w K mg base [("self" : Str), x, "__class__"] F fI A outer s H E) [.Assign [.Attribute (.Name "self" p6) fld p7] (.Name x p8) p9] _ :=
    pss_one (ps_ost (pv 0 rfl (.inl (S.par "self" (by simp))) (by decide) (by decide)) (pv 1 rfl (.inl (S.par x (by simp))) hdb hcd2) (hsw2 _))
  refine wpAny_mono (PB.run [] _ _ H { nx := fun _ H' => Q .non H', rt := Q } J5 ⟨y, rfl, .ref a, rfl, a, C, rfl, T, noat, .inl ⟨ea, fun d h1 h2 => hq d h1 h2⟩⟩) (fun fl s' hs => ?_) fun e s' hs => hs
  have fin : ∀ {σ' : L2.St} {H' : Hp} {v : V} {u : Value}, L2.Inv (ncx CX P w K mg base [("self" : Str), x, "__class__"] F fI A outer s H E) [] σ' H' s' → L2.RelV v u → Q v H' → CE outer P w H s Q u s' :=
    fun {σ' H' v u} J rv q => ⟨v, H', J.os, J.bare, J.base, J.hok, rv, q⟩
  cases fl with
  | ret u =>
    obtain ⟨v, σ', H', J, rv, q⟩ := hs
    exact fin J rv q
  | next =>
    obtain ⟨σ', H', J, q⟩ := hs
    exact fin (v := V.non) (u := Value.none) J rfl q
  | brk =>
    obtain ⟨_, _, _, q⟩ := hs
    exact False.elim q
  | cont =>
    obtain ⟨_, _, _, q⟩ := hs
    exact False.elim q
end VmX

set_option maxHeartbeats 1000000
namespace VmX
open PySem PySem.Spec PyProof.Rows L2
def exK (cls : Value) (d : Option Addr) (a : Addr) : HO := .ext fun h => ∃ (oe : Obj) (vs : Array Value), h.get? a = some oe ∧ oe.cls = cls ∧ oe.dict = d ∧ oe.data = .fields vs
section
variable {X : Cx} {pins : List (Addr × Obj)} {σ : L2.St} {H : Hp} {s : Shared}
end
def wKeep (K : PySem.W.Frag) (c : Value) (i : Nat) (ts : Addr → Value → Option Addr → TS) (D : Ends) : WX := fun cls d σ H =>
  PySem.W.exmOne K cls c = some true ∧ ∀ a, H a = none → ts a cls d { nx := fun σ' H' => H' a = none → D.nx (σ'.set i none) (upd H' a (exK cls d a)), rt := fun _ _ => False, bk := fun _ _ => False, ct := fun _ _ => False } (σ.set i (some (.ref a))) H
structure Cau (X : Cx) (pins : List (Addr × Obj)) (σ : L2.St) (H : Hp) (a : Addr) (n0 : Prop) (good : Shared → Prop) : Prop where
  na : H a = none
  new : n0
  apart : ∀ p ∈ X.pn ++ pins, p.1 ≠ a
  nL : a ≠ X.env.locals
  nF : a ∉ X.fs
  inv : ∀ s, good s → L2.Inv X pins σ H s
section
variable {X : Cx} {x n : Str} {c : Value} {i : Nat} {body suite : List Stmt} {b₀ : Stmt} {np pos pos' : Pos} {tb : WX → TS} {ts : Addr → Value → Option Addr → TS}
end
end VmX

set_option maxHeartbeats 1000000
namespace Vm
open PySem L2 PyProof.Rows
def ExAt (w : Wd) (b : Bs) (c : Nat) (x : Option D) (d : Option Addr) : Prop := match x with
  | none => d = none
  | some y => ∃ dd v, d = some dd ∧ b.G.F dd = some (.xd ((w.flds c).zip [v])) ∧ (w.flds c).length = 1 ∧ Fz w b.G y v
def dW (w : Wd) (W : WX) : Wx := fun c x b e => ∀ σ d, Sat w b σ e → ExAt w b c x d → W (.ref (w.cls c)) d σ b.H
theorem ExAt.mono {w : Wd} {b b' : Bs} {c : Nat} {x : Option D} {d : Option Addr} (h : ExAt w b c x d) (k : b.G.le b'.G) : ExAt w b' c x d := by
  cases x with
  | none => exact h
  | some y =>
    obtain ⟨dd, v, h1, h2, h3, h4⟩ := h
    exact ⟨dd, v, h1, k.f _ _ h2, h3, h4.mono k⟩
def spX (w : Wd) (F : FV) : Sp := fun vs H Q E => ∃ b mu ds, H = b.H ∧ Sat w b [] ⟨[], mu⟩ ∧ FzL w b.G ds vs ∧ match F mu ds with
  | .ok d mu' => ∀ v b', Gr false b b' → Sat w b' [] ⟨[], mu'⟩ → Tmp w b b' d v → Q v b'.H
  | .exc c x mu' => ∀ b' d, Gr false b b' → Sat w b' [] ⟨[], mu'⟩ → ExAt w b' c x d → E (.ref (w.cls c)) d b'.H
  | .stuck => False
structure FnX (P : Program) (w : World) (K : PySem.W.Frag) (mg : Str → Option Value) (base : Heap) (k : Nat) (x : Str) (sp : Sp) : Prop where
  ex : ∃ (f : Addr) (fd : FuncData) (ps : List Str), FnOk P w K mg base (L2.CX P w) k f fd ps sp ∧ mg x = some (.ref f) ∧ PySem.W.keepIn K (.ref f) = true ∧ Binds K fd ps []
theorem Def1.fnX {P : Program} {w : World} {K : PySem.W.Frag} {mg : Str → Option Value} {base : Heap} {x qual : Str} {st : Stmt} {k : Nat} {sp : Sp} {ps : List Str} (D : Def1 K mg x qual st) (hb : ∀ f fd, FunD K x qual (defArgs st) (defBody st) (defScope st) [] [] f fd → Binds K fd ps [])
    (h : ∀ f fd, FunD K x qual (defArgs st) (defBody st) (defScope st) [] [] f fd → FnOk P w K mg base (L2.CX P w) k f fd ps sp) : FnX P w K mg base k x sp := by
  obtain ⟨f, fd, hm, F⟩ := D.ex
  exact ⟨f, fd, ps, h f fd F, hm, F.kp, hb f fd F⟩
def callX (F : FV) (ds : List D) (e : En) : Rs D := match F e.mu ds with
  | .ok d mu => .ok d ⟨e.sl, mu⟩
  | .exc c x mu => .exc c x ⟨e.sl, mu⟩
  | .stuck => .stuck
def eCallX (F : FV) (ar : LM) : EM := fun e => (ar e).bind fun ds e1 => callX F ds e1
section
variable {X : Cx} {W : WX} {s : Bool} {w : Wd} {pos p pos' apos : Pos} {x : Str} {a : Expr} {es : List Expr} {F : FV} {ar : LM} {k : Nat} {f : EM}
structure ExM (P : Program) (K : PySem.W.Frag) (mg : Str → Option Value) (C : Addr) (fld : Str) : Prop where
  ex : ∃ (fI : Addr) (F : NdefX.NF) (x : Str) (dV kV doc pm ct oc : Value) (an od : Option Addr) (osl : Array (Option Value)), K.lookup fI = some ⟨oc, od, .func (PySem.W.fnX F.name F.qual F.params F.body F.scope F.cl dV kV doc pm an (.ref F.c) ct), osl⟩ ∧ PySem.W.codeIn K (.ref F.c) F.qual = true ∧ VmX.Ei P K C fI F x fld ∧ mg "super" = none ∧
    (x == ("__debug__" : Str)) = false ∧ (x == ("__classdict__" : Str)) = false ∧ Binds K (PySem.W.fnX F.name F.qual F.params F.body F.scope F.cl dV kV doc pm an (.ref F.c) ct) ["self", x] []
def sRaise (c : Nat) (f : EM) : SM := fun e => ofE (f e) fun d e1 => .exc c (some d) e1
end
end Vm

set_option maxHeartbeats 1000000
namespace Vm
open PySem L2 PyProof.Rows
def sTry (i j : Nat) (es : List Nat) (bd : SM) : SM := fun e => match bd e with
  | .exc c (some x) e1 => if es.contains c = true ∧ i < e1.sl.length ∧ j < e1.sl.length then .nx ⟨(e1.sl.set j (some (.exn c [x]))).set i none, e1.mu⟩ else .stuck
  | .exc _ none _ => .stuck
  | r => r
section
variable {w : Wd} {b : Bs} {σ : L2.St} {e : En}
theorem Sat.any (S : Sat w b σ e) {i : Nat} {v : Option V} (h : e.at (.s i) = none) : Sat w b (σ.set i v) e := by
  refine ⟨S.ex, by rw [List.length_set]; exact S.le, S.lm, fun y d hd => ?_, S.em, S.ap, S.nd, S.fo⟩
  obtain ⟨u, h1, h2⟩ := S.sl y d hd
  refine ⟨u, ?_, h2⟩
  cases y with
  | s k =>
    have hk : i ≠ k := fun z => by
      subst z
      rw [h] at hd
      cases hd
    show ((σ.set i v)[k]?).getD none = some u
    rw [List.getElem?_set_ne hk]
    exact h1
  | m n => exact h1
end
section
variable {X : Cx} {W : Wx} {w : Wd} {x n m : Str} {i j : Nat} {body : List Stmt} {np pos pos' p1 p2 p3 : Pos} {bd : SM} {es : List Nat} {hE : Addr}
end
def eExnF (es : List Nat) (f : EM) : EM := fun e => (f e).bind fun d e1 => match d with
  | .exn c [x] => if es.contains c then .ok x e1 else .stuck
  | _ => .stuck
def ExnF (w : Wd) (es : List Nat) (fn : Str) : Prop := ∀ c ∈ es, XfC w.K (w.cls c) ∧ PySem.W.findIn w.K (.ref (w.cls c)) fn = some none ∧ w.flds c = [fn]
def tXk (K : PySem.W.Frag) (fn : Str) (te : TE) : TE := fun σ H Q => te σ H fun x H1 => ∃ (a C dd : Addr) (v : V), x = .ref a ∧ XfC K C ∧ PySem.W.findIn K (.ref C) fn = some none ∧ H1 a = some (exH C dd a) ∧ H1 dd = some (.xd [(fn, v)]) ∧ Q v H1
theorem pe_xk {X : Cx} {e : Expr} {te : TE} {pos : Pos} {n : Str} (he : PE X e te) (hb : attributeBase e n X.env (eval e X.env) = eval e X.env := by rfl) : PE X (.Attribute e n pos) (tXk X.K n te) := by
  refine ⟨fun pins s σ H Q I h => ?_⟩
  refine attr_of hb (thn (he.run pins s σ H _ I h) fun u s1 hh => ?_)
  obtain ⟨x, H1, I1, rx, a, C, dd, v, ex, T, hno, ea, ed, q⟩ := hh
  subst ex
  obtain rfl : u = Value.ref a := rx
  have hx : ObjOk X.prog X.w H1 s1.heap a (exH C dd a) := I1.hok a _ ea
  obtain ⟨⟨oe, vs, ha, h1, h2, h3⟩, _, _⟩ := hx
  have hd : ObjOk X.prog X.w H1 s1.heap dd (.xd [(n, v)]) := I1.hok dd _ ed
  obtain ⟨mA, hns, hr⟩ := hd
  obtain ⟨od, ho, hl⟩ := lookIn_ns hns
  obtain ⟨u, hu, ru⟩ := RelO.some_of (v := v) (o := mA n) (by have := hr n; simpa [List.lookup] using this)
  have J : PySem.W.InstAt s1.heap a oe C (some od) := ⟨ha, h1, by unfold PySem.W.notCls; rw [h3] <;> rfl, by rw [h2]; exact ho⟩
  exact PySem.HandSPX.exc_get I1.kIn J T.ga T.gg T.exC (PySem.W.findObj_own T.hdC hno rfl (by rw [hl, hu])) (handed_of ru) ⟨v, H1, I1.tok _, ru, q⟩
section
variable {X : Cx} {W : Wx} {s : Bool} {w : Wd} {x : Expr} {pos p p2 : Pos} {f : EM} {es : List Nat} {fn : Str}
theorem zExnF (o : Okx w X) (T : ExnF w es fn) (h : PE X x (tZ w W s f)) (hb : attributeBase x fn X.env (eval x X.env) = eval x X.env := by rfl) : PE X (.Attribute x fn pos) (tZ w W s (eExnF es f)) := (pe_xk h hb).imp fun σ H Q ⟨b, e, he, S, h⟩ => by
  subst he
  refine ⟨b, e, rfl, S, (PR.bind h).mono fun d b1 e1 g1 S1 h1 v z => ?_⟩
  cases d <;> try exact h1.elim
  rename_i c ds
  cases ds with
  | nil => exact h1.elim
  | cons y r =>
    cases r with
    | cons _ _ => exact h1.elim
    | nil =>
      have h1 : PR w W s σ b1 (if es.contains c then Rs.ok y e1 else .stuck) fun d b' _ => ∀ v, Fz w b'.G d v → Q v b'.H := h1
      split at h1
      · rename_i hc
        obtain ⟨T1, T2, T3⟩ := T c (by simpa using hc)
        obtain ⟨a, dd, vs, rfl, kx, k3, k4⟩ := fz_exn.mp z
        obtain ⟨k1, k2⟩ := kx.resolve_right fun z => by rw [T3] at z; cases z.1
        obtain ⟨v, r, rfl, k5, k6⟩ := fzl_cons.mp k4
        cases fzl_nil.mp k6
        rw [T3] at k2
        refine ⟨a, w.cls c, dd, v, rfl, by rw [o.K]; exact T1, by rw [o.K]; exact T2, S1.ex _ _ k1, S1.ex _ _ k2, ?_⟩
        exact h1 b1 (Gr.refl b1) S1 v k5
      · exact h1.elim
def dIsE (es : List Nat) (c : Nat) : D → Option D := fun d => match d with
  | .exn c' _ => if es.contains c' then some (.bl (decide (c' = c))) else none
  | d => (tyB d).map fun _ => .bl false
def rIsX (K : PySem.W.Frag) : List V → Hp → VK → Prop := fun xs H Q => ∃ (a C dd : Addr) (fs : List (Str × V)) (c : V) (cv : Value) (b : Bool), xs = [.ref a, c] ∧ ((H a = some (exH C dd a) ∧ H dd = some (.xd fs)) ∨ H a = some (exZ C a)) ∧ ExcC K C ∧ (∀ u, RelV c u → u = cv) ∧ PySem.W.kitOne K (.ref C) cv = some b ∧ Q (.bl b) H
theorem call_isX {X : Cx} : CallR X (.builtin "isinstance") (rIsX X.K) := by
  intro pins s σ H xs us Q I r h
  obtain ⟨a, C, dd, fs, c, cv, b, rfl, ea, T, hcv, e, q⟩ := h
  cases r with
  | cons rx rr =>
    cases rr with
    | cons rt rr =>
      cases rr
      cases rx
      have ec := hcv _ rt
      subst ec
      have J : ∃ oe od, PySem.W.InstAt s.heap a oe C od := by
        rcases ea with ⟨ea, ed⟩ | ea
        · have hx : ObjOk X.prog X.w H s.heap a (exH C dd a) := I.hok a _ ea
          obtain ⟨⟨oe, vs, ha, h1, h2, h3⟩, _, _⟩ := hx
          have hd : ObjOk X.prog X.w H s.heap dd (.xd fs) := I.hok dd _ ed
          obtain ⟨mA, hns, hr⟩ := hd
          obtain ⟨od, ho, hl⟩ := lookIn_ns hns
          exact ⟨oe, some od, ha, h1, by unfold PySem.W.notCls; rw [h3] <;> rfl, by rw [h2]; exact ho⟩
        · have hx : ObjOk X.prog X.w H s.heap a (exZ C a) := I.hok a _ ea
          obtain ⟨⟨oe, vs, ha, h1, h2, h3⟩, _, _⟩ := hx
          exact ⟨oe, none, ha, h1, by unfold PySem.W.notCls; rw [h3] <;> rfl, by rw [h2]; trivial⟩
      obtain ⟨oe, od, J⟩ := J
      have hcl : (PySem.W.clsIn X.K C).isSome = true := by
        have := T.hd
        unfold PySem.W.hasDictIn at this
        cases q : PySem.W.clsIn X.K C with
        | none => rw [q] at this; cases this
        | some _ => rfl
      exact PySem.W.kia_one (PySem.W.kitx_exc hcl T.hg T.hk T.hs T.ha T.hn T.ht T.hm) I.kIn J e (fun z => nomatch z) fun tk => ⟨.bl b, H, I.kept (t' := tk) fun _ _ z => z, rfl, q⟩
def ExnI (w : Wd) (es : List Nat) (c : Nat) : Prop := NotC w.K (w.cls c) ∧ ∀ c' ∈ es, ExcC w.K (w.cls c') ∧ PySem.W.kitOne w.K (.ref (w.cls c')) (.ref (w.cls c)) = some (decide (c' = c))
theorem zIsE {x : Str} {a : Expr} {fa : EM} (c : Nat) (o : Okx w X) (hg : Gl X "isinstance") (hm : X.mg "isinstance" = none) (hg2 : Gl X x) (hm2 : X.mg x = some (.ref (w.cls c))) (T : ExnI w es c)
    (ha : PE X a (tB w W s fa)) (hdb : (x == ("__debug__" : Str)) = false := by decide) (hs : starEach [a, .Name x p2] X.env = (false, eval a X.env) :: starEach [.Name x p2] X.env := by rfl)
    (hs2 : starEach [.Name x p2] X.env = (false, eval (.Name x p2) X.env) :: starEach [] X.env := by rfl) (hpl : (backTo pos (starEach [.Name x p2] X.env)).any (·.1) = false := by rfl) :
    PE X (.Call (.Name "isinstance" p) [a, .Name x p2] [] pos) (tZ w W s (un (dIsE es c) fa)) :=
  (pe_callB (r := fun xs H Q => rIsi X.K xs H Q ∨ rIsX X.K xs H Q) (fun pins s σ H xs us Q I r h => h.elim (call_isi pins s σ H xs us Q I r) (call_isX pins s σ H xs us Q I r)) hg hm PyProof.Rows.boot_isinstance (pa_cons ha (pa_cons (pe_glob (v := .ref (w.cls c)) hg2 hm2 rfl hdb) pa_nil hs2) hs) (by decide) (by decide) hs hpl).imp fun σ H Q ⟨b, e, he, S, h⟩ => by
  subst he
  obtain ⟨nc, T⟩ := T
  refine ⟨b, e, rfl, S, (PR.bind h).mono fun d b1 e1 g1 S1 h1 v z => ?_⟩
  obtain ⟨t, ht, R⟩ := PR.ret h1
  have fin : ∀ (tn : Value) (k : Bool), PySem.W.kitOne w.K tn (.ref (w.cls c)) = some k → TyX w.K b1.H v tn → t = .bl k → rIsi X.K [v, .ref (w.cls c)] b1.H Q := fun tn k h2 h3 h4 => by
    rw [h4] at R
    rw [o.K]
    exact ⟨v, .ref (w.cls c), tn, .ref (w.cls c), k, rfl, .own _, h3, h2, R.now S1 (fz_bl.mpr rfl)⟩
  have go : ∀ tn, tyN d = some tn → tn ≠ "NoneType" → tn ∈ ["NoneType", "bool", "int", "str", "tuple", "list", "dict"] → t = .bl false → rIsi X.K [v, .ref (w.cls c)] b1.H Q := fun tn h2 h3 h4 h5 => fin (.type tn) false (nc tn h4) (br_tyX S1 z h2 h3) h5
  cases d
  case non =>
    cases ht
    refine .inl (fin (.type "NoneType") false (nc _ (by simp)) ?_ rfl)
    rw [z.non]
    exact .base .non
  case bl => cases ht; exact .inl (go _ rfl (by decide) (by simp) rfl)
  case int => cases ht; exact .inl (go _ rfl (by decide) (by simp) rfl)
  case str => cases ht; exact .inl (go _ rfl (by decide) (by simp) rfl)
  case tup => cases ht; exact .inl (go _ rfl (by decide) (by simp) rfl)
  case tux => cases ht; exact .inl (go _ rfl (by decide) (by simp) rfl)
  case lst => cases ht; exact .inl (go _ rfl (by decide) (by simp) rfl)
  case olst => cases ht; exact .inl (go _ rfl (by decide) (by simp) rfl)
  case dic =>
    cases ht
    obtain ⟨a', o', ks, rfl, k1, _⟩ := fz_dic.mp (z.fz rfl)
    exact .inl (fin (.type "dict") false (nc _ (by simp)) (.fDict (S1.ex _ _ k1)) rfl)
  case odic =>
    cases ht
    obtain ⟨l, z, _⟩ := z
    obtain ⟨a', ks, l', rfl, k1, _⟩ := own_odic.mp z
    exact .inl (fin (.type "dict") false (nc _ (by simp)) (.base (.dK k1)) rfl)
  case exn c' fs =>
    have ht' : (if es.contains c' then some (D.bl (decide (c' = c))) else none) = some t := ht
    split at ht'
    · rename_i hc
      cases ht'
      obtain ⟨T1, T2⟩ := T c' (by simpa using hc)
      obtain ⟨a', dd, vs, rfl, kx, _⟩ := fz_exn.mp (z.fz rfl)
      exact .inr ⟨a', w.cls c', dd, (w.flds c').zip vs, .ref (w.cls c), .ref (w.cls c), _, rfl, kx.elim (fun ⟨k1, k2⟩ => .inl ⟨S1.ex _ _ k1, S1.ex _ _ k2⟩) (fun k => .inr (S1.ex _ _ k.2)), by rw [o.K]; exact T1, fun u hu => hu, by rw [o.K]; exact T2, R.now S1 (fz_bl.mpr rfl)⟩
    · cases ht'
  all_goals cases ht
end
end Vm

set_option maxHeartbeats 1000000
namespace VmX
open PySem PySem.Spec PyProof.Rows L2
abbrev Calm (A : Around) : Prop := A.guards = some []
theorem Calm.deeper {A : Around} (h : Calm A) (env : Env) : Calm (A.deeper env) := h
structure FnG (P : Program) (w : World) (K : PySem.W.Frag) (mg : Str → Option Value) (base : Heap) (CX : CXT) (k : Nat) (f : Addr) (fd : FuncData) (ps : List Str) (sp : Sp) : Prop where
  len : ∀ vs H Q E, sp vs H Q E → vs.length = ps.length
  run : ∀ (A : Around) (outer : List Env) (s : Shared) (H : Hp) (args : Args) (us : List Value) (vs : List V) (Q : VK) (E : XK), Room k A → Calm A → Env0 P w K mg base A outer s H → BindsTo s fd args (ps.zip us) → Vals vs us → sp vs H Q E →
    codeAny (model P w) A (.call (.ref f) args) (CR CX outer P w H s Q E) s
section
variable {P : Program} {w : World} {K : PySem.W.Frag} {mg : Str → Option Value} {base : Heap} {CX : CXT} {j k : Nat} {f : Addr} {fd : FuncData} {ps : List Str} {sp : Sp}
theorem FnG.of (F : FnOk P w K mg base CX k f fd ps sp) : FnG P w K mg base CX k f fd ps sp := ⟨F.len, fun A outer s H args us vs Q E hr _ => F.run A outer s H args us vs Q E hr⟩
theorem FnG.mono (F : FnG P w K mg base CX j f fd ps sp) (h : j ≤ k) : FnG P w K mg base CX k f fd ps sp := ⟨F.len, fun A outer s H args us vs Q E hr => F.run A outer s H args us vs Q E (hr.mono h)⟩
theorem leave {X : Cx} {H : Hp} {s s' : Shared} {Q : VK} {fl : Flow} (hP : X.prog = P) (hw : X.w = w) (h0 : X.H_0 = H) (hs0 : X.s_0 = s) (hex : X.ex = []) (q : SP X [] { nx := fun _ H' => Q .non H', rt := Q } fl s') : CE X.outer P w H s Q (match fl with | .ret v => v | _ => .none) s' := by
  subst hP hw h0 hs0
  have done : ∀ {σ H' v u}, L2.Inv X [] σ H' s' → RelV v u → Q v H' → CE X.outer X.prog X.w X.H_0 X.s_0 Q u s' := fun J rv q => ⟨_, _, J.os, J.bare, by have := J.base; rw [hex] at this; exact this, J.hok, rv, q⟩
  cases fl with
  | next => exact let ⟨_, _, J, q⟩ := q; done (v := .non) (u := .none) J rfl q
  | ret u => exact let ⟨_, _, _, J, r, q⟩ := q; done J r q
  | brk => exact let ⟨_, _, _, z⟩ := q; z.elim
  | cont => exact let ⟨_, _, _, z⟩ := q; z.elim
theorem leave_ne {X : Cx} {s' : Shared} {Q : VK} {fl : Flow} (q : SP X [] { nx := fun _ H' => Q .non H', rt := Q } fl s') : fl ≠ .brk ∧ fl ≠ .cont := by
  cases fl with
  | brk => exact let ⟨_, _, _, z⟩ := q; z.elim
  | cont => exact let ⟨_, _, _, z⟩ := q; z.elim
  | next => exact ⟨by simp, by simp⟩
  | ret u => exact ⟨by simp, by simp⟩
end
section
variable {P : Program} {w : World} {K : PySem.W.Frag} {mg : Str → Option Value} {base : Heap} {x qual : Str} {params : Arguments} {body : List Stmt} {scope : Scope} {dvs : List V} {kws : List (Str × V)} {f : Addr} {fd : FuncData}
theorem okG {CX : CXT} {N ps : List Str} {k : Nat} {sp : Sp} (F : FunD K x qual params body scope dvs kws f fd) (S : FnScope N ps scope) (len : ∀ vs H Q E, sp vs H Q E → vs.length = ps.length)
    (hbody : ∀ (cdv : Value) (A : Around) (outer : List Env) (s : Shared) (H : Hp) (vs : List V) (Q : VK) (E : XK), Room k (A.deeper (envOfC qual scope s.heap.objs.size f cdv)) → Calm A → sp vs H Q E →
      ∃ t, PSs (cxOf CX P w K mg base N qual scope f cdv A outer s H E) body t ∧ t { nx := fun _ H' => Q .non H', rt := Q } (start N vs) H) : FnG P w K mg base CX (k + 1) f fd ps sp := by
  obtain ⟨oc, od, dV, kV, doc, pm, an, cdv, ct, osl, rfl, lk, hcd, _, _⟩ := F.ex
  refine ⟨len, fun A outer s H args us vs Q E hr hg e0 hb r hsp => ?_⟩
  have stays : ∀ b o, base.get? b = some o → s.heap.get? b = some o := fun b o e => (e0.bs b o e).1
  have KX := e0.mod.kin.keeps stays
  have kinds : ∀ q ∈ ps.zip us, scope.names.lookup q.1 = some .local ∨ (scope.names.lookup q.1 = some .cell ∧ ((cellsFrom (s.heap.objs.size + 1) scope.names []).lookup q.1).isSome = true) := fun q hq =>
    (S.par q.1 (List.of_mem_zip (a := q.1) (b := q.2) hq).1).imp id fun c => ⟨c, PySem.W.cellsFrom_some _ _ _ (.inl c)⟩
  have enter := wpAny_newFunctionEnv_cells (M := model P w) (A := A.in1) (E := fun e s' => CR CX outer P w H s Q E (.error e) s') (globals := mainGlobals) (qual := qual ++ ".<locals>.") (func := some f) (code := cdv) (builtins := builtinsNs) (Q := fun env s1 => s1.heap.NoLimit ∧ codeAny (model P w) A (.func body env) (CR CX outer P w H s Q E) s1) S.kind kinds (fun env he s1 x => by
    subst he
    refine ⟨(e0.mod.nolimit.keeps stays).keeps x.toInCall.keep, codeAny_func ?_⟩
    obtain ⟨t, ht, hq⟩ := hbody cdv A outer s H vs Q E (hr.deeper _) hg hsp
    have start_ : L2.Inv (cxOf CX P w K mg base N qual scope f cdv A outer s H E) [] (start N vs) H s1 := inv_start (qual := qual) (f := f) (cd := cdv) S hr.hd e0 (len _ _ _ _ hsp) r x
    show wpAny (model P w) (A.deeper (envOfC qual scope s.heap.objs.size f cdv)) (execs body (envOfC qual scope s.heap.objs.size f cdv)) _ _ s1
    refine wpAny_mono (ht.run [] s1 _ H _ start_ hq) (fun fl s' out => ?_) fun _ _ z => z
    have n := leave_ne out
    have l := leave (P := P) (w := w) rfl rfl rfl rfl rfl out
    cases fl with
    | ret u => exact l
    | next => exact l
    | brk => exact absurd rfl n.1
    | cont => exact absurd rfl n.2)
  exact codeAny_call_function hr.depth (KX _ _ lk) rfl S.co S.gen rfl (PySem.W.codeRec_of KX hcd) (hb _ _ _ _ enter)
end
section
variable {X : Cx} {CX : CXT} {k : Nat} {f : Addr} {fd : FuncData} {ps : List Str} {sp : Sp} {E : L2.St → XK} {x : Str} {p pos : Pos} {e : Expr} {es : List Expr} {t : TA}
theorem pe_callG (F : FnG X.prog X.w X.K X.mg X.base CX k f fd ps sp) (hr : Room k X.A) (hq : Calm X.A) (hg : Gl X x) (hm : X.mg x = some (.ref f)) (hk : PySem.W.keepIn X.K (.ref f) = true) (hb : Binds X.K fd ps []) (hx : ∀ σ, PassesAt CX X σ (E σ))
    (ha : PA X (e :: es) t) (hdb : (x == ("__debug__" : Str)) = false := by decide) (he : starEach (e :: es) X.env = (false, eval e X.env) :: starEach es X.env := by rfl) (hpl : (backTo pos (starEach es X.env)).any (·.1) = false := by rfl) :
    PE X (.Call (.Name x p) (e :: es) [] pos) (tCallS sp E t) := by
  constructor
  intro pins s σ H Q I h
  apply wpAny_Call_Name_kw (ld_glob I hg hm ?_ hdb)
  have args : wpAny (model X.prog X.w) X.A (spliced (backTo pos (starEach (e :: es) X.env))) (fun us s1 => X.K.In s1.heap ∧ wpAny (model X.prog X.w) X.A (call (.ref f) us) (EP X pins σ Q) X.xe s1) X.xe s := by
    refine wpAny_mono (ha.run pos pins s σ H _ I h) (fun us s1 ⟨vs, H1, J, r, q⟩ => ⟨J.kIn, ?_⟩) fun _ _ z => z
    have long : us.length = ps.length := by rw [← r.length]; exact F.len _ _ _ _ q
    have binds := hb s1 us J.kIn (by simpa using long)
    rw [List.append_nil] at binds
    refine wpAny_call (codeAny_mono (F.run X.A X.stack s1 H1 ⟨us, []⟩ us vs Q (E σ) hr hq J.env0 binds r q) fun res s2 out => ?_)
    cases res with
    | error er => exact hx σ pins H1 s1 er s2 J out
    | ok fl =>
      cases fl with
      | ret u => exact J.after out
      | next => exact out.elim
      | brk => exact out.elim
      | cont => exact out.elim
  exact PySem.W.callWith_K (h₀ := X.base) I.ok.mod.kin hk args he hpl
end
theorem script_heap {P : Program} {w : World} {K : PySem.W.Frag} {h : Heap} {a : Addr} {vs : List Value} {ns : List Int} (KX : K.In h) (ha : h.get? a = some { cls := .type "list", data := .seq vs.toArray }) (hi : IntsAre vs ns) (hl : ns.length ≤ sizeLine) :
    ∃ H : Hp, Only H ∧ SqL K H a (ns.map V.int) ∧ HOk P w H h ∧ (∀ b, b ≠ a → H b = none) ∧ (H a = none ∨ K.lookup a = none) := by
  cases hk : K.lookup a with
  | some o =>
    have e := (KX a o hk).symm.trans ha
    cases e
    refine ⟨fun _ => none, fun _ => .inl rfl, .inr ⟨_, vs.toArray, _, hk, rfl, rfl, rfl, ?_, ?_⟩, (fun b u z => nomatch (show (none : Option HO) = some u from z)), fun _ _ => rfl, .inl rfl⟩
    · rw [List.size_toArray, hi.length]
      exact hl
    · have := vals_ints hi
      simpa using this
  | none =>
    let H : Hp := fun b => if b = a then some (.frz { cls := .type "list", data := .seq vs.toArray } (.lst (ns.map V.int))) else none
    have Ha : H a = some (.frz { cls := .type "list", data := .seq vs.toArray } (.lst (ns.map V.int))) := if_pos rfl
    have Hn : ∀ b, b ≠ a → H b = none := fun b hb => if_neg hb
    refine ⟨H, fun b => ?_, .inl (.inr ⟨_, Ha⟩), fun b u z => ?_, Hn, .inr rfl⟩
    · rcases Classical.em (b = a) with rfl | hb
      · exact .inr ⟨_, _, Ha⟩
      · exact .inl (Hn b hb)
    · rcases Classical.em (b = a) with rfl | hb
      · rw [Ha] at z
        cases z
        exact ⟨ha, by rw [List.length_map]; exact hl, vs, _, vals_ints hi, ha⟩
      · rw [Hn b hb] at z
        cases z
theorem law_callG {P : Program} {w : World} {K : PySem.W.Frag} {mg mb : Str → Option Value} {k : Nat} {fa a : Addr} {fd : FuncData} {x : Str} {sp : Sp} {s₁ : Shared} {vs : List Value} {ns : List Int}
    (KX : K.In s₁.heap) (hns : s₁.heap.Ns mainGlobals mg) (hb : s₁.heap.Ns builtinsNs mb) (hbb : ∀ x : Str, x ≠ "__name__" → mb x = bootBuiltins x) (hlim : s₁.heap.NoLimit) (hg : s₁.gens = #[])
    (ha : s₁.heap.get? a = some { cls := .type "list", data := .seq vs.toArray }) (hi : IntsAre vs ns) (hl : ns.length ≤ sizeLine) (hr : Room k callerA)
    (F : ∀ base : Heap, K.In base → base.Ns mainGlobals mg → FnG P w K mg base CX0 k fa fd [x] sp) (hbind : ∀ (s : Shared) (u : Value), BindsTo s fd ⟨[u], []⟩ [(x, u)])
    (hsp : ∀ H : Hp, Only H → SqL K H a (ns.map V.int) → sp [.ref a] H (fun v _ => v = .bl true) E0) :
    codeAny (model P w) callerA (.call (.ref fa) ⟨[.ref a], []⟩) (fun r s' => r = .ok (.ret (.bool true)) ∧ OldK s₁.heap s'.heap ∧ s'.os = s₁.os ∧ AllBare s'.gens) s₁ := by
  obtain ⟨H, only, sq, hok, off, own⟩ := script_heap (P := P) (w := w) KX ha hi hl
  have free : ∀ {b : Addr} {o : Obj}, s₁.heap.get? b = some o → (∀ its n, o.data ≠ .seq its n) → H b = none := fun {b o} e d => off b fun z => by
    rw [z, ha] at e
    cases e
    exact d _ _ rfl
  have ground : ∀ {b : Addr} {m : Str → Option Value}, s₁.heap.Ns b m → (hidT s₁.heap H).Ns b m := fun {b m} ⟨o, es, ep, e, d, r⟩ => ⟨o, es, ep, hidT_get e (free e fun its n z => by rw [d] at z; cases z), d, r⟩
  have kin : K.In (hidT s₁.heap H) := fun b o e => hidT_get (KX b o e) (by
    rcases Classical.em (b = a) with rfl | hb
    · exact own.resolve_right fun z => by rw [z] at e; cases e
    · exact off b hb)
  obtain ⟨ml, hl1, hl2⟩ := hlim
  have e0 : Env0 P w K mg (hidT s₁.heap H) callerA [] s₁ H := {
    frames := rfl
    mod := ⟨kin, ground hns, ⟨mb, ground hb, hbb⟩, ⟨ml, ground hl1, hl2⟩⟩
    bs := fun b o e => of_hidT e
    bsz := Nat.le_of_eq (hidT_size _ _)
    funs := trivial
    frf := fun b hb => absurd (show b ∈ ([] : List Addr) from hb) (by simp)
    hok := hok
    bare := .of_eq hg }
  refine codeAny_mono ((F _ kin (ground hns)).run callerA [] s₁ H ⟨[.ref a], []⟩ [.ref a] [.ref a] _ _ hr rfl e0 (hbind s₁ (.ref a)) (.cons rfl .nil) (hsp H only sq)) fun r s' out => ?_
  cases r with
  | error e => exact out.elim
  | ok fl =>
    cases fl with
    | next => exact out.elim
    | brk => exact out.elim
    | cont => exact out.elim
    | ret u =>
      obtain ⟨v, H', os, bare, un, hok', rv, rfl⟩ := out
      have eu : u = Value.bool true := rv
      refine ⟨by rw [eu], OldK.of_keep fun b o e => ?_, os, bare⟩
      cases q : H b with
      | none => exact un.keep b o e q (by simp [frs]) (by simp)
      | some hb =>
        obtain ⟨o1, xs, z⟩ := (only b).resolve_left (by rw [q]; simp)
        have old := (hok b _ z).1
        have new := (hok' b _ (un.frzs b o1 _ z)).1
        rw [e] at old
        cases old
        exact new
theorem walk_ofG {l : PySem.W.OpenLaw} {n k : Nat} {q : Program} {loose : List Str} {XP : (Str → Option Value) → Heap → Prop} {YP : World → Heap → Prop} {d : DefRec} {x : Str}
    (hn : l.most = some n) (hn2 : n ≤ sizeLine) (hdf : d.params.defaults = []) (hr : Room k callerA)
    (F : ∀ (w : World) (mg : Str → Option Value) (fa : Addr) (h : Heap), YP w h → h.Ns mainGlobals mg → mg d.name = some (.ref fa) →
      ∃ (K : PySem.W.Frag) (fd : FuncData) (sp : Sp), K.In h ∧ (∀ (s : Shared) (u : Value), BindsTo s fd ⟨[u], []⟩ [(x, u)]) ∧
        (∀ (H : Hp) (a : Addr) (ns : List Int), ns.length ≤ n → Only H → SqL K H a (ns.map V.int) → sp [.ref a] H (fun v _ => v = .bl true) E0) ∧
        ∀ base : Heap, K.In base → base.Ns mainGlobals mg → FnG l.prog w K mg base CX0 k fa fd [x] sp) :
    PySem.W.WalkO q loose XP YP l.row.toRowW d [] (fun f vs => PySem.call f vs) :=
  Att.attach_call hn hdf fun w s₀ s₁ mg mb fa o pm cd doc a vs ns G Y _ _ _ hmg hobj hints hlen hg => by
    obtain ⟨K, fd, sp, KX, hb, hsp, hF⟩ := F w mg fa _ Y G.T.g hmg
    exact law_callG KX G.T.g G.T.b G.T.builtins G.T.nolimit hg hobj hints (Nat.le_trans hlen hn2) hr hF hb fun H only sq => hsp H a ns hlen only sq
end VmX

set_option maxHeartbeats 1000000
namespace Vm
open PySem L2 PyProof.Rows
def strOkL (l : List Nat) : Bool := l.all (· < 0x110000)
theorem strOk_list {x : Str} : PyData.strOk x = strOkL x.cps.toList := by
  unfold PyData.strOk strOkL
  rw [Array.all_toList]
theorem strOk_app {x y : Str} (h : PyData.strOk x = true) (h' : PyData.strOk y = true) : PyData.strOk (x ++ y) = true := by
  rw [strOk_list] at h h' ⊢
  show strOkL (x.cps ++ y.cps).toList = true
  unfold strOkL at h h' ⊢
  rw [Array.toList_append, List.all_append, h, h']
  rfl
theorem char_lt (c : Char) : c.toNat < 0x110000 := by
  rcases c.valid with h | h
  · exact Nat.lt_trans h (by decide)
  · exact h.2
theorem strOk_of (s : String) : PyData.strOk (Str.ofString s) = true := by
  rw [strOk_list, Str.ofString_eq_toList]
  unfold strOkL
  simp only [List.all_eq_true, List.mem_map, decide_eq_true_eq]
  rintro _ ⟨c, _, rfl⟩
  exact char_lt c
theorem reprChar_ok {q c : Nat} (hc : c < 0x110000) : ∀ d ∈ Builtin.Str.reprChar q c, d < 0x110000 := by
  have dig : ∀ (l : List Char), ∀ d ∈ l.map Char.toNat, d < 0x110000 := fun l d hd => by
    obtain ⟨c, _, rfl⟩ := List.mem_map.mp hd
    exact char_lt c
  intro d hd
  unfold Builtin.Str.reprChar at hd
  dsimp only at hd
  repeat' split at hd
  all_goals simp only [List.mem_append, List.mem_cons, List.mem_replicate, List.not_mem_nil, or_false] at hd
  all_goals first
    | omega
    | (rcases hd with hd | hd <;> first | omega | (rcases hd with hd | hd <;> first | omega | exact dig _ _ hd))
theorem reprText_ok {x : Str} (h : PyData.strOk x = true) : PyData.strOk (PySem.reprText x) = true := by
  rw [strOk_list] at h ⊢
  have hq : PySem.reprQuote x < 0x110000 := by
    unfold PySem.reprQuote
    split <;> decide
  have go : ∀ (l : List Nat) (acc : Array Nat), (∀ c ∈ l, c < 0x110000) → (∀ c ∈ acc.toList, c < 0x110000) → ∀ c ∈ (l.foldl (fun out c => out ++ (Builtin.Str.reprChar (PySem.reprQuote x) c).toArray) acc).toList, c < 0x110000 := by
    intro l
    induction l with
    | nil => exact fun acc _ h => h
    | cons c r ih =>
      intro acc hl ha
      refine ih _ (fun d hd => hl d (List.mem_cons_of_mem _ hd)) fun d hd => ?_
      rw [Array.toList_append] at hd
      rcases List.mem_append.mp hd with hd | hd
      · exact ha d hd
      · exact reprChar_ok (hl c (List.mem_cons_self ..)) d (by simpa using hd)
  unfold strOkL at h ⊢
  simp only [List.all_eq_true, decide_eq_true_eq] at h ⊢
  intro c hc
  unfold PySem.reprText at hc
  simp only [Array.toList_push, List.mem_append, List.mem_singleton] at hc
  rcases hc with hc | rfl
  · rw [← Array.foldl_toList] at hc
    exact go _ _ h (by intro d hd; have : d = PySem.reprQuote x := by simpa using hd
                       rw [this]; exact hq) c hc
  · exact hq
theorem join_ok {sep : Str} (hs : PyData.strOk sep = true) : ∀ {ts : List Str}, (∀ t ∈ ts, PyData.strOk t = true) → PyData.strOk (Str.join sep ts) = true
  | [], _ => by
    show PyData.strOk Str.empty = true
    decide +kernel
  | [x], h => h x (List.mem_cons_self ..)
  | x :: y :: r, h => strOk_app (strOk_app (h x (List.mem_cons_self ..)) hs) (join_ok hs fun t ht => h t (List.mem_cons_of_mem _ ht))
mutual
theorem shown_ok : ∀ p : PyData, p.canLay0 = true → PyData.strOk p.shown = true
  | .none, _ => by simp only [PyData.shown]; exact strOk_of _
  | .bool b, _ => by simp only [PyData.shown]; split <;> exact strOk_of _
  | .int i, _ => by simp only [PyData.shown]; exact strOk_of _
  | .str x, h => by
    simp only [PyData.shown]
    exact reprText_ok (by simpa only [PyData.canLay0] using h)
  | .list xs, h => by
    rw [PyData.shown_list]
    exact strOk_app (strOk_app (strOk_of _) (join_ok (strOk_of _) (shownAll_ok xs (by simpa only [PyData.canLay0] using h)))) (strOk_of _)
  | .tuple xs, h => by
    rw [PyData.shown_tuple]
    exact strOk_app (strOk_app (strOk_of _) (join_ok (strOk_of _) (shownAll_ok xs (by simpa only [PyData.canLay0] using h)))) (by split <;> exact strOk_of _)
  | .dict _, h => by simp only [PyData.canLay0] at h; cases h
theorem shownAll_ok : ∀ ps : List PyData, PyData.canLayAll0 ps = true → ∀ t ∈ PyData.shownAll ps, PyData.strOk t = true
  | [], _, t, ht => by
    simp only [PyData.shownAll] at ht
    cases ht
  | p :: ps, h, t, ht => by
    have h' : p.canLay0 = true ∧ PyData.canLayAll0 ps = true := by simpa only [PyData.canLayAll0, Bool.and_eq_true] using h
    simp only [PyData.shownAll] at ht
    rcases List.mem_cons.mp ht with rfl | ht
    · exact shown_ok p h'.1
    · exact shownAll_ok ps h'.2 t ht
end
def shOk (p : PyData) : Bool := p.intsShort 13 && (p.showable && decide (p.weight ≤ 2 ^ 20))
def dRepr : D → Option D := fun d => match d with
  | .int i => if i.natAbs.log2 < 1920 then some (.str (PyData.int i).shown) else none
  | .dic [] => some (.str (PyData.dict []).shown)
  | d => if pln DEP d = true ∧ shOk (pd d) = true then some (.str (pd d).shown) else none
def rRep (X : Cx) : List V → Hp → VK → Prop := fun xs H Q => (∃ v p, xs = [v] ∧ Dp X.K H v p ∧ p.canLay0 = true ∧ p.depth ≤ DEP ∧ ((∃ i : Int, p = .int i ∧ i.natAbs.log2 < 1920) ∨ shOk p = true) ∧ Q (.str p.shown) H) ∨
  ∃ a o, xs = [.ref a] ∧ H a = some (.frz o (.dK [])) ∧ Q (.str (PyData.dict []).shown) H
section
variable {X : Cx} {W : Wx} {s : Bool} {w : Wd} {pos p : Pos} {a : Expr} {fa : EM}
end
end Vm

set_option maxHeartbeats 1000000
namespace Vm
open PySem L2 PyProof.Rows
structure FnC (P : Program) (w : World) (K : PySem.W.Frag) (mg : Str → Option Value) (base : Heap) (k : Nat) (x : Str) (sp : Sp) : Prop where
  ex : ∃ (f : Addr) (fd : FuncData) (ps : List Str), VmX.FnG P w K mg base CX0 k f fd ps sp ∧ mg x = some (.ref f) ∧ PySem.W.keepIn K (.ref f) = true ∧ Binds K fd ps []
structure FnCX (P : Program) (w : World) (K : PySem.W.Frag) (mg : Str → Option Value) (base : Heap) (k : Nat) (x : Str) (sp : Sp) : Prop where
  ex : ∃ (f : Addr) (fd : FuncData) (ps : List Str), VmX.FnG P w K mg base (L2.CX P w) k f fd ps sp ∧ mg x = some (.ref f) ∧ PySem.W.keepIn K (.ref f) = true ∧ Binds K fd ps []
section
variable {P : Program} {w : World} {K : PySem.W.Frag} {mg : Str → Option Value} {base : Heap} {x qual : Str} {st : Stmt} {k : Nat} {sp : Sp} {ps : List Str}
theorem Def1.fnC (D : Def1 K mg x qual st) (hb : ∀ f fd, FunD K x qual (defArgs st) (defBody st) (defScope st) [] [] f fd → Binds K fd ps [])
    (h : ∀ f fd, FunD K x qual (defArgs st) (defBody st) (defScope st) [] [] f fd → VmX.FnG P w K mg base CX0 k f fd ps sp) : FnC P w K mg base k x sp := by
  obtain ⟨f, fd, hm, F⟩ := D.ex
  exact ⟨f, fd, ps, h f fd F, hm, F.kp, hb f fd F⟩
end
section
variable {W : Wd} {N ps : List Str} {m n : Nat} {bd : SM} {vs : List V} {H : Hp} {Q : VK} {E : XK}
theorem ent_v (hps : ps.length = m) (hls : N.length - ps.length = n) (h : spF W (runF m n bd) vs H Q E) : vs.length = m ∧ tS W W0 bd { nx := fun _ H' => Q .non H', rt := Q } (L2.start N vs) H := by
  obtain ⟨b, mu, ds, rfl, S0, z, h⟩ := h
  unfold runF at h
  by_cases hl2 : ds.length = m
  · have hl : vs.length = m := by rw [z.length, hl2]
    refine ⟨hl, ?_⟩
    have e1 : L2.start N vs = vs.map some ++ List.replicate n none := by
      unfold L2.start
      rw [hl, ← hps, hls]
    rw [e1]
    refine ⟨b, _, rfl, S0.start z, ?_⟩
    rw [if_pos hl2] at h
    unfold runB at h
    cases hbd : bd ⟨ds.map some ++ List.replicate n none, mu⟩ with
    | rt d' e' =>
      rw [hbd] at h
      exact fun b' σ' v g S' t => h v b'.top (g.trans Gr.top) S'.top (t.stay (Gr.top (s := false)))
    | nx e' =>
      rw [hbd] at h
      exact fun b' σ' g S' => h .non b'.top (g.trans Gr.top) S'.top (Fz.tmp (fz_non.mpr rfl))
    | bk e' => rw [hbd] at h; exact h.elim
    | ct e' => rw [hbd] at h; exact h.elim
    | exc _ _ e' => rw [hbd] at h; exact h.elim
    | stuck => rw [hbd] at h; exact h.elim
  · rw [if_neg hl2] at h
    exact h.elim
end
section
variable {P : Program} {w : World} {W : Wd} {K : PySem.W.Frag} {mg : Str → Option Value} {base : Heap} {x qual : Str} {params : Arguments} {body : List Stmt} {scope : Scope} {dvs : List V} {kws : List (Str × V)} {f : Addr} {fd : FuncData}
    {N ps : List Str} {k m n : Nat} {bd : SM}
theorem fn_vC (F : FunD K x qual params body scope dvs kws f fd) (S : FnScope N ps scope) (hps : ps.length = m) (hls : N.length - ps.length = n)
    (hb : ∀ (cdv : Value) (A : Around) (outer : List Env) (s : Shared) (H : Hp) (vs : List V) (E : XK), Room k (A.deeper (envOfC qual scope s.heap.objs.size f cdv)) → VmX.Calm A →
      PSs (cxOf CX0 P w K mg base N qual scope f cdv A outer s H E).nox body (tS W W0 bd)) :
    VmX.FnG P w K mg base CX0 (k + 1) f fd ps (spF W (runF m n bd)) :=
  VmX.okG F S (fun vs H Q E h => by rw [(ent_v (N := N) hps hls h).1, hps]) fun cdv A outer s H vs Q E hr hg h => ⟨_, (hb cdv A outer s H vs E hr hg).nox, (ent_v hps hls h).2⟩
end
section
variable {X : Cx} {W : Wx} {WW : WX} {s : Bool} {w : Wd} {pos p : Pos} {x : Str} {a : Expr} {es : List Expr} {F : FV} {ar : LM} {k : Nat}
theorem vCallC (F0 : FnC X.prog X.w X.K X.mg X.base k x (spF w F)) (hr : Room k X.A) (hq : X.A.guards = some []) (ha : PA X (a :: es) (tA w W s ar)) (hg : Gl X x := by rfl) (hdb : (x == ("__debug__" : Str)) = false := by decide)
    (he : starEach (a :: es) X.env = (false, eval a X.env) :: starEach es X.env := by rfl) (hpl : (backTo pos (starEach es X.env)).any (·.1) = false := by rfl) : PE X (.Call (.Name x p) (a :: es) [] pos) (tV w W s (eCall F ar)) := by
  obtain ⟨f, fd, ps, h1, h2, h3, h4⟩ := F0.ex
  refine (VmX.pe_callG (E := fun _ => E0) h1 hr hq hg h2 h3 h4 (fun σ pins H s e s' I c => c.elim) ha hdb he hpl).imp fun σ H Q h => ?_
  obtain ⟨b, e, rfl, S, h⟩ := h
  exact ⟨b, e, rfl, S, (PR.bind h).mono fun ds b1 e1 g1 S1 h1 vs zs => call_sp S1 g1 zs h1⟩
end
end Vm

namespace VmH
open PySem PySem.Spec PyProof.Rows L2 He
theorem oexB_ok {K : PySem.W.Frag} {C : Addr} (h : oexB K C = true) : ∃ nm q N bs bm sn sub ab col dd k0 k1 k2 k3 k5, K.lookup C = some (excClassObj nm q C N bs bm true sn sub ab col dd k0 k1 k2 k3 k5 "ValueError.__new__") ∧ PySem.HandSPX.refsVE bm = true := by
  unfold oexB at h
  split at h
  · rename_i t dd nm bs C' bm ns qn sn sub ab col k0 k1 k2 k3 n k5 hl
    simp only [Bool.and_eq_true, beq_iff_eq] at h
    obtain ⟨rfl, rfl, rfl, hb⟩ := h
    exact ⟨nm, qn, ns, bs, bm, sn, sub, ab, col, dd, k0, k1, k2, k3, k5, hl, hb⟩
  · cases h
structure XS (d : XD) (x : Str) : Prop where
  body : ∃ p0 p1 p2 p3 p4 p5 p6 p7 p8 p9, defBody d.st = [.Expr (.Call (.Attribute (.Call (.Name "super" p0) [] [] p1) "__init__" p2) [.Name x p3] [] p4) p5, .Assign [.Attribute (.Name "self" p6) d.fld p7] (.Name x p8) p9] ∧ (∃ pl : Sem Bool, ∀ env : Env, eval (.Call (.Attribute (.Call (.Name "super" p0) [] [] p1) "__init__" p2) [.Name x p3] [] p4) env = (do
      let ov ← attributeBase (.Call (.Name "super" p0) [] [] p1) "__init__" env (eval (.Call (.Name "super" p0) [] [] p1) env)
      standAt p2.atName
      let (f, first) ← holding [ov] (getMethod ov "__init__" pl)
      callWith p4 f first (backTo p4 (starEach [.Name x p3] env)) [])) ∧ (∀ env : Env, swapsWith (.Call (.Attribute (.Call (.Name "super" p0) [] [] p1) "__init__" p2) [.Name x p3] [] p4) none p5.line env = pure false) ∧ ∀ env : Env, swapsWith (.Name x p8) (some (.Attribute (.Name "self" p6) d.fld p7)) p9.line env = pure false
  hd : ∃ ar, ((defArgs d.st).posonlyargs ++ (defArgs d.st).args).head? = some ar ∧ ar.arg = "self"
  sc : NdefX.NScope ["self", x, "__class__"] ["self", x] ["__class__"] (defScope d.st)
  sup : (defScope d.st).names.lookup ("super" : Str) = some .globalImplicit
  nd : (x == ("__debug__" : Str)) = false
  nc : (x == ("__classdict__" : Str)) = false
  bind : ∀ (name qual : Str) (cl : List (Str × Addr)) (T : Addr) (kV doc pm : Value) (an : Option Addr) (cdv ct : Value) (us : List Value) (its : Array Value), us.length = 2 → its.size = 1 → ∃ k, bindArgs (PySem.W.fnX name qual (defArgs d.st) (defBody d.st) (defScope d.st) cl (.ref T) kV doc pm an cdv ct) ⟨us, []⟩ = seqItems? (.ref T) >>= k ∧ k (some its) = pure ([("self" : Str), x].zip us)
section
variable {P : Program} {K : PySem.W.Frag} {mg : Str → Option Value} {xs : List XD} {d : XD} {file x : Str}
structure XFacts (K : PySem.W.Frag) (xs : List XD) (d : XD) : Prop where
  xf : XfC K (ga K d.x)
  ec : ExcC K (ga K d.x)
  nc : Vm.NotC K (ga K d.x)
  na : PySem.W.findIn K (.ref (ga K d.x)) d.fld = some none
  em : PySem.W.exmOne K (.ref (ga K d.x)) (.ref (ga K "HushError")) = some true
  ki : ∀ d' ∈ xs, PySem.W.kitOne K (.ref (ga K d'.x)) (.ref (ga K d.x)) = some (decide (d'.x = d.x))
  eo : ∀ d' ∈ xs, PySem.W.exmOne K (.ref (ga K d.x)) (.ref (ga K d'.x)) = some (decide (d'.x = d.x))
theorem xfacts (b : excB file K xs d = true) : XFacts K xs d := by
  unfold excB at b
  simp only [Bool.and_eq_true] at b
  obtain ⟨b1, b2, b3, b4, b5, b6, b7, b8, b9, b10, b11, b12, b13, b14, b16, b15, b17⟩ := b
  have x := xfB_ok b1
  unfold isB at b2
  simp only [Bool.and_eq_true] at b2
  obtain ⟨i1, i2, i3, i4⟩ := b2
  refine ⟨x, ⟨x.ga, x.gg, x.exC, x.hdC, eqO_ok i1, eqO_ok i2, of_decide_eq_true i3, of_decide_eq_true i4⟩, fun t ht => ?_, eqO_ok b9, of_decide_eq_true b14, fun d' hd => of_decide_eq_true (List.all_eq_true.mp b15 d' hd), fun d' hd => of_decide_eq_true (List.all_eq_true.mp b17 d' hd)⟩
  unfold notB at b3
  exact of_decide_eq_true (List.all_eq_true.mp b3 t ht)
end
end VmH

set_option maxHeartbeats 1000000
namespace Vm
open PySem L2 PyProof.Rows
def sSet2 (i1 i2 : Nat) (f1 f2 fv : EM) : SM := fun e => ofE (fv e) fun d e1 => match d with
  | .tup [d1, d2] => hasO i1 e1 .stuck (ofE (f1 e1) fun j1 e2 => match chg i1 (kSetA j1 d1) e2 with
    | some e3 => hasO i2 e3 .stuck (ofE (f2 e3) fun j2 e4 => nxO (chg i2 (kSetA j2 d2) e4))
    | none => .stuck)
  | _ => .stuck
section
variable {X : Cx} {W : Wx} {s : Bool} {w : Wd} {pos p1 p2 : Pos} {x : Expr} {f1 f2 fv : EM}
end
def dIsiD (T : String) : D → Option D := fun d => match d with
  | .dic _ => (kitB "dict" T).map D.bl
  | d => dIsiN T d
def dIsB : D → D → Option D
  | .bl a, .bl b => some (.bl (a == b))
  | _, _ => none
def bls? : List D → Option (List Bool)
  | [] => some []
  | .bl x :: r => (bls? r).map (x :: ·)
  | _ :: _ => none
def firstB (q : Bool) : List Bool → Nat → Option Nat
  | [], _ => none
  | b :: r, n => if b = q then some n else firstB q r (n + 1)
def dIndexB : D → D → Option D
  | .lst ds, .bl q => match bls? ds with
    | some ns => (firstB q ns 0).map fun j => .int (j : Nat)
    | none => none
  | _, _ => none
section
variable {X : Cx} {W : Wx} {s : Bool} {w : Wd} {pos apos : Pos} {x : Expr} {f fa : EM}
end
end Vm

set_option maxHeartbeats 1000000
namespace Vm
open PySem L2 PyProof.Rows
structure NeC (K : PySem.W.Frag) (C f : Addr) : Prop where
  cls : ∃ nm q N bs hdct sn sub ab col dd k0 k1 k2 k3 k5 newId oc od es ep osl, K.lookup C = some (excClassObj nm q C N bs [.type "object"] hdct sn sub ab col dd k0 k1 k2 k3 k5 newId) ∧ K.lookup N = some ⟨oc, od, .dict es ep, osl⟩ ∧ StrKeys es ∧ nsFind es "__eq__" = some (.ref f) ∧ nsFind es "__ne__" = none
  fn : PySem.W.isFn K (.ref f) = true
def rNeO (C : Addr) (sp : Sp) : R2 := fun x y H Q => ∃ a b dx dy fs gs, x = .ref a ∧ y = .ref b ∧ H a = some (.ins C dx fs) ∧ H b = some (.ins C dy gs) ∧ sp [.ref a, .ref b] H (fun v H' => ∃ r, v = .bl r ∧ Q (.bl (!r)) H') E0
end Vm

set_option maxHeartbeats 1000000
namespace Vm
open PySem L2 PyProof.Rows
structure NeF (P : Program) (w : World) (K : PySem.W.Frag) (mg : Str → Option Value) (base : Heap) (k : Nat) (C : Addr) (sp : Sp) : Prop where
  ex : ∃ (f : Addr) (fd : FuncData) (ps : List Str), NeC K C f ∧ FnOk P w K mg base CX0 k f fd ps sp ∧ Binds K fd ps []
structure Ne1 (K : PySem.W.Frag) (C : Addr) (x qual : Str) (st : Stmt) : Prop where
  ex : ∃ f fd, NeC K C f ∧ FunD K x qual (defArgs st) (defBody st) (defScope st) [] [] f fd
theorem Ne1.fn {P : Program} {w : World} {K : PySem.W.Frag} {mg : Str → Option Value} {base : Heap} {C : Addr} {x qual : Str} {st : Stmt} {k : Nat} {sp : Sp} {ps : List Str} (D : Ne1 K C x qual st) (hb : ∀ f fd, FunD K x qual (defArgs st) (defBody st) (defScope st) [] [] f fd → Binds K fd ps [])
    (h : ∀ f fd, FunD K x qual (defArgs st) (defBody st) (defScope st) [] [] f fd → FnOk P w K mg base CX0 k f fd ps sp) : NeF P w K mg base k C sp := by
  obtain ⟨f, fd, h1, h3⟩ := D.ex
  exact ⟨f, fd, ps, h1, h f fd h3, hb f fd h3⟩
def eNeO (c : Nat) (F : FV) (f1 f2 : EM) : EM := fun e => (f1 e).bind fun x e1 => (f2 e1).bind fun y e2 => match x, y with
  | .ins c1 xs, .ins c2 ys => if c1 = c ∧ c2 = c then (callF F [.ins c1 xs, .ins c2 ys] e2).bind fun r e3 => (match r with
    | .bl t => .ok (.bl (!t)) e3
    | _ => .stuck) else .stuck
  | _, _ => .stuck
section
variable {X : Cx} {W : Wx} {s : Bool} {w : Wd} {pos apos : Pos} {a b ob : Expr} {F : FV} {k : Nat} {fa fb fo : EM} {m : Str}
end
end Vm

set_option maxHeartbeats 1000000
namespace VmH
open PySem PySem.Spec PyProof.Rows L2 He
end VmH

set_option maxHeartbeats 1000000
namespace Vm
open PySem L2 PyProof.Rows
section
variable {w : Wd} {G : Gs} {H : Hp}
end
def mkTupO (xs : List D) : Option D := if xs.length ≤ LIM then some (.otup xs) else none
def eTupO (g : LM) : EM := fun e => (g e).bind fun xs e1 => lift (mkTupO xs) e1
section
variable {X : Cx} {W : Wx} {s : Bool} {w : Wd} {pos : Pos} {x : Expr} {es : List Expr} {f : EM} {g : LM}
end
def dIxB : D → D → Option D
  | .otup xs, .int i => atI xs i
  | .olst xs, .int i => atI xs i
  | _, _ => none
section
variable {X : Cx} {W : Wx} {s : Bool} {w : Wd} {pos : Pos} {a c : Expr} {fa fb : EM}
end
def kAppIx (k : Nat) (y : D) : D → Option D
  | .otup ds => match ds[k]? with
    | some (.olst xs) => if xs.length < LIM then some (.otup (ds.set k (.olst (xs ++ [y])))) else none
    | _ => none
  | _ => none
def slotD (e : En) (i : Nat) : Option D := (e.sl[i]?).getD none
def sAppIx (i k : Nat) (f : EM) : SM := fun e => match (slotD e i).bind (kAppIx k .non) with
  | none => .stuck
  | some _ => ofE (f e) fun d e1 => match (slotD e1 i).bind (kAppIx k d) with
    | none => .stuck
    | some d2 => .nx ⟨e1.sl.set i (some d2), e1.mu⟩
section
variable {X : Cx} {W : Wx} {s : Bool} {w : Wd} {pos p p2 p3 ap cp : Pos} {x : Expr} {f : EM}
end
end Vm

set_option maxHeartbeats 1000000
namespace Vm
open PySem L2 PyProof.Rows
def Itn (w : Wd) (d : Addr) (o : Obj) (es : List (NestedKey × Addr × V)) : It :=
  ⟨fun i H => H d = some (.frz o (nst w d es)) ∧ i < es.length, fun i H x H' => H' = H ∧ ∃ k q v, es[i]? = some (k, q, v) ∧ x = .ref q, fun i H => H d = some (.frz o (nst w d es)) ∧ es.length ≤ i⟩
section
variable {P : Program} {w' : World} {w : Wd} {K : PySem.W.Frag} {tg : Expr} {d : Addr} {o : Obj} {es : Array DictEntry} {ep : Nat}
end
def iKeysN (w : Wd) (td : TE) : TI := fun σ H R => td σ H fun x H1 => ∃ d o kvs, x = .ref d ∧ H1 d = some (.frz o (nst w d kvs)) ∧ R (Itn w d o kvs) H1
theorem FzN.key {w : Wd} {G : Gs} : ∀ {kvs : List (D × D)} {es : List (NestedKey × Addr × V)} {i : Nat} {k d : D}, FzN w G kvs es → kvs[i]? = some (k, d) → ∃ nk q v, es[i]? = some (nk, q, v) ∧ Fz w G k (.ref q) ∧ Fz w G d v
  | [], es, i, k, d, h, e => by simp at e
  | (k0, d0) :: r, es, 0, k, d, h, e => by
    obtain ⟨nk, a, v, t, rfl, _, _, h1, h2, _⟩ := fzn_cons.mp h
    simp at e
    obtain ⟨rfl, rfl⟩ := e
    exact ⟨nk, a, v, rfl, h1, h2⟩
  | (k0, d0) :: r, es, i + 1, k, d, h, e => by
    obtain ⟨nk, a, v, t, rfl, _, _, _, _, h3⟩ := fzn_cons.mp h
    obtain ⟨nk', a', v', e', h1, h2⟩ := FzN.key (i := i) h3 (by simpa using e)
    exact ⟨nk', a', v', by simpa using e', h1, h2⟩
def itKeysN (f : EM) : LM := fun e => (f e).bind fun x e1 => match x with
  | .dix kvs => .ok (kvs.map Prod.fst) e1
  | _ => .stuck
section
variable {X : Cx} {W : Wx} {s : Bool} {w : Wd} {x tg : Expr} {f : EM}
end
end Vm

set_option maxHeartbeats 4000000
namespace VmK
open PySem PySem.W PySem.Calls PyProof.Rows PySem.HandSPX
section
variable {M : Model} {prog : Program} {w : World} {A : Around} {E : Value → Shared → Prop} {R : Result → Shared → Prop} {h : Heap} {g : Array GenState} {d : Drawn} {t : Nat} {os : OsState}
variable {nm q : Str} {C N : Addr} {bs bm bmB : List Value} {hdct : Bool} {sn : List Str} {sub : List Value} {ab : Bool} {col : Option Bool} {dd : Option Addr} {k0 k1 k2 k3 k5 : Option Value} {B newId initId : String} {kws : List (Str × Value)}
abbrev eco (nm q : Str) (C N : Addr) (bs bm : List Value) (hdct : Bool) (sn : List Str) (sub : List Value) (ab : Bool) (col : Option Bool) (dd : Option Addr) (k0 k1 k2 k3 k5 : Option Value) (newId : String) : Obj := excClassObj nm q C N bs bm hdct sn sub ab col dd k0 k1 k2 k3 k5 newId
theorem ckNew (F : ExcBaseFacts B newId initId bmB) (hT : ∀ X : String, bm.contains (.type X) = bmB.contains (.type X)) {Q : Unit → Shared → Prop}
    (hC : h.get? C = some (eco nm q C N bs bm hdct sn sub ab col dd k0 k1 k2 k3 k5 newId)) (hq : Q () ⟨h, g, d, t, os⟩) : wpAny M A (checkBuiltinCall newId ⟨[.ref C], kws⟩) Q E ⟨h, g, d, t, os⟩ := by
  have c1 : (Value.ref C :: bm).contains (.type B) = true := by rw [List.contains_cons, hT, F.hasB]; exact Bool.or_true _
  have s1 := F.noStar
  simp only [checkBuiltinCall, F.newKind, F.newSplit, F.newRow]
  repeat (first | refine wpAny_loadPart_at hC ?_ | (refine wpAny_isSubtype_exc hC ?_; rw [c1]) | refine wpAny_staticBase_exc hC ?_ | refine wpAny_madeBy_exc hC ?_ | simp only [bne_self_eq_false, Bool.false_eq_true, if_false] | wp_step)
  exact hq
theorem newK (F : ExcBaseFacts B newId initId bmB) (hT : ∀ X : String, bm.contains (.type X) = bmB.contains (.type X))
    (hC : h.get? C = some (eco nm q C N bs bm hdct sn sub ab col dd k0 k1 k2 k3 k5 newId))
    (hq : R (.ok (.ret (.ref (h.objs.size + 1)))) ⟨(h.push { cls := .type "tuple", data := .seq #[] }).push { cls := .ref C, data := .fields #[.ref h.objs.size, .none, .none, .none, .bool false, .none] }, g, d, t, os⟩) :
    codeAny (model prog w) A (.builtin newId ⟨[.ref C], kws⟩) R ⟨h, g, d, t, os⟩ := by
  have e0 := F.ends
  have c1 : (Value.ref C :: bm).contains (.type B) = true := by rw [List.contains_cons, hT, F.hasB]; exact Bool.or_true _
  have c2 : (Value.ref C :: bm).contains (.type "AttributeError") = false := by rw [List.contains_cons, hT, F.noAttr]; exact Bool.or_false _
  have c3 : (Value.ref C :: bm).contains (.type "NameError") = false := by rw [List.contains_cons, hT, F.noName]; exact Bool.or_false _
  refine codeAny_builtinAt F.entry ?_
  unfold Builtin.«BaseException.__new__»
  refine PySem.wpAt_bind ?_
  show PySem.wpAt _ _ _ (stack >>= _) _ _ _
  refine PySem.wpAt_bind (PySem.wpAt_stack fun p below => PySem.wpAt_of_wpAny ?_)
  wp_walk
  refine PySem.wpAt_of_wpAny ?_
  rw [F.owner]
  repeat (first | with_reducible refine wpAny_madeHere_exc F.canon hC ?_ | with_reducible refine wpAny_loadPart_at hC ?_ | (with_reducible refine wpAny_isSubtype_exc hC ?_; first | rw [c1] | rw [c2] | rw [c3]) | wp_step)
  show R _ _
  rw [Heap.size_push]
  exact hq
theorem ckTypeK (hC : h.get? C = some (eco nm q C N bs bm hdct sn sub ab col dd k0 k1 k2 k3 k5 newId)) {Q : Unit → Shared → Prop} (hq : Q () ⟨h, g, d, t, os⟩) : wpAny M A (checkBuiltinCall "type.__call__" ⟨[.ref C], kws⟩) Q E ⟨h, g, d, t, os⟩ := by
  have f1 := tc_sub
  have f2 : (⟨h, g, d, t, os⟩ : Shared).TypeIs (.ref C) "type" := ⟨_, hC, rfl⟩
  simp only [checkBuiltinCall, tc_kind, tc_split]
  repeat (any_goals (first | assumption | with_reducible refine wpAny_loadPart_at hC ?_ | with_reducible refine wpAny_onRaise ?_ | with_reducible refine wpAny_map ?_ | wp_step))
theorem typeCallK (F : ExcBaseFacts B newId initId bmB) (hT : ∀ X : String, bm.contains (.type X) = bmB.contains (.type X)) {fI : Addr} {Q : Fin → Shared → Prop}
    (hC : h.get? C = some (eco nm q C N bs bm hdct sn sub ab col dd k0 k1 k2 k3 k5 newId))
    (hi : W.Looks (model prog w) h (typeLookup (.ref C) "__init__") (some (.ref fI))) (hb : ∀ self, W.Looks (model prog w) h (bindSpecial (.ref fI) self) (.ref fI, [self]))
    (hq : codeAny (model prog w) A (.call (.ref fI) ⟨[.ref (h.objs.size + 1)], kws⟩)
      (fun r s' => match r with | .ok (.ret v) => v = .none ∧ Q (.done (.ret (.ref (h.objs.size + 1)))) s' | .ok _ => False | .error e => E e s')
      ⟨(h.push (W.kdv_tup [])).push (excO C h.objs.size), g, d, t, os⟩) :
    wpAny (model prog w) A (Builtin.«type.__call__» ⟨[.ref C], kws⟩) Q E ⟨h, g, d, t, os⟩ := by
  repeat (first | with_reducible refine wpAny_loadPart_at hC ?_ | with_reducible refine wpAny_madeBy_exc hC ?_ | wp_step)
  refine codeAny_call_builtin_code (Code.quiet_builtin _ F.quiet) (ckNew F hT hC ?_)
  refine newK F hT hC ?_
  show wpAny _ _ _ _ _ _
  have kk : ∀ b o, h.get? b = some o → ((h.push (W.kdv_tup [])).push (excO C h.objs.size)).get? b = some o := fun b o e => Heap.get?_push_of_some _ (Heap.get?_push_of_some _ e)
  have g1 := kk _ _ hC
  have g2 : ((h.push (W.kdv_tup [])).push (excO C h.objs.size)).get? (h.objs.size + 1) = some (excO C h.objs.size) := by heap_get
  have cc : (Value.ref C :: bm).contains (.ref C) = true := by simp
  have i1 := hi.keeps kk
  have b1 := (hb (.ref (h.objs.size + 1))).keeps kk
  unfold isInstance
  repeat (first | with_reducible refine wpAny_loadPart_at g2 ?_ | (with_reducible refine wpAny_isSubtype_exc g1 ?_; rw [cc]) | wp_step)
  show wpAny _ _ (typeLookup (.ref C) _) _ _ _
  refine i1.at (wpAny_holding (wpAny_bind (b1.at (wpAny_bind (wpAny_call (codeAny_mono hq fun r s' z => ?_))))))
  cases r with
  | error e => exact z
  | ok fl =>
    cases fl with
    | ret v =>
      obtain ⟨rfl, z⟩ := z
      first
        | exact wpAny_pure (wpAny_pure z)
        | (wp_walk; exact z)
    | next => exact z.elim
    | brk => exact z.elim
    | cont => exact z.elim
theorem callOwnK (F : ExcBaseFacts B newId initId bmB) (hT : ∀ X : String, bm.contains (.type X) = bmB.contains (.type X)) {fI : Addr}
    (hC : h.get? C = some (eco nm q C N bs bm hdct sn sub ab col dd k0 k1 k2 k3 k5 newId))
    (hi : W.Looks (model prog w) h (typeLookup (.ref C) "__init__") (some (.ref fI))) (hb : ∀ self, W.Looks (model prog w) h (bindSpecial (.ref fI) self) (.ref fI, [self]))
    (hq : codeAny (model prog w) (A.under (.builtin "type.__call__" ⟨[.ref C], kws⟩)) (.call (.ref fI) ⟨[.ref (h.objs.size + 1)], kws⟩) (W.InitBack (h.objs.size + 1) R)
      ⟨(h.push (W.kdv_tup [])).push (excO C h.objs.size), g, d, t, os⟩) :
    codeAny (model prog w) A (.call (.ref C) ⟨[], kws⟩) R ⟨h, g, d, t, os⟩ := by
  have f1 := tc_lookup
  have f2 := tc_bind (.ref C)
  have f3 : (⟨h, g, d, t, os⟩ : Shared).TypeIs (.ref C) "type" := ⟨_, hC, rfl⟩
  refine codeAny_of_tree ?_
  show wpAny _ _ (callAny (.ref C) _) _ _ _
  repeat (any_goals (first | assumption | with_reducible refine wpAny_loadPart_at hC ?_ | wp_step))
  refine ⟨rfl, codeAny_call_builtin_at (Code.quiet_builtin _ (by decide +kernel)) entry_typeCall (ckTypeK hC (typeCallK F hT hC hi hb (codeAny_mono hq fun r s' z => ?_)))⟩
  cases r with
  | error e => exact z
  | ok fl => cases fl <;> exact z
end
end VmK

set_option maxHeartbeats 1000000
namespace VmX
open PySem PySem.Spec PyProof.Rows L2 LamX
structure Lam1 (sc scope : Scope) (p : Str) : Prop where
  kind : scope.kind = .function
  co : scope.isCoroutine = false
  gen : scope.isGenerator = false
  par : scope.names.lookup p = some .local
  own : ∀ y k, (y, k) ∈ scope.names → k ≠ .cell ∧ (k = .local → y = p)
  cap : ∀ y, (y, NameKind.free) ∈ scope.names → sc.names.lookup y = some .cell ∨ sc.names.lookup y = some .free
def cxLam (X : Cx) (N : List Str) (A : Around) (outer : List Env) (s : Shared) (H : Hp) (E : XK) (scope : Scope) (f c : Addr) : Cx :=
  { lamCx X A outer s H E scope f c with N := N, xe := fun _ _ => False }
section
variable {X : Cx} {scope : Scope} {p : Str}
theorem Lam1.at_ (L : Lam1 X.env.scope scope p) (ok : X.Ok) {y : Str} (h : (y, NameKind.free) ∈ scope.names) : ∃ c, X.env.cells.lookup y = some c := ok.has _ (L.cap y h)
theorem Lam1.sub (L : Lam1 X.env.scope scope p) (ok : X.Ok) {y : Str} {c : Addr} (h : (cloFrom X.env.cells scope.names []).lookup y = some c) : X.env.cells.lookup y = some c := by
  rcases cloFrom_mem (PySem.mem_of_lookup h) with k | ⟨k1, k2⟩
  · cases k
  · obtain ⟨c', hc⟩ := L.at_ ok k1
    have hc' : X.env.cells.lookup y = some c' := hc
    rw [hc'] at k2
    rw [hc']
    exact congrArg some (by simpa using k2.symm)
theorem Lam1.got (L : Lam1 X.env.scope scope p) {y : Str} (h : scope.names.lookup y = some .free) : ∃ c, (cloFrom X.env.cells scope.names []).lookup y = some c :=
  L2.mem_lookup (cloFrom_has (cells := X.env.cells) (acc := []) (PySem.mem_of_lookup h))
theorem Lam1.nocell (L : Lam1 X.env.scope scope p) {y : Str} : scope.names.lookup y ≠ some .cell := fun h => (L.own y _ (PySem.mem_of_lookup h)).1 rfl
structure Gives1 (X : Cx) (σ : L2.St) (scope : Scope) (p : Str) (u : Value) (N : List Str) (τ : L2.St) : Prop where
  len : τ.length = N.length
  at_ : ∀ (i : Nat) (y : Str) (v : V), N[i]? = some y → τ[i]? = some (some v) → (y = p ∧ RelV v u) ∨ (y ≠ p ∧ ∃ j : Nat, X.N[j]? = some y ∧ σ[j]? = some (some v))
variable {pins : List (Addr × Obj)} {σ τ : L2.St} {H HZ : Hp} {s s1 : Shared} {A : Around} {outer : List Env} {E : XK} {f c' : Addr} {h₁ : Heap} {tk : Nat} {u : Value} {N : List Str}
end
end VmX

set_option maxHeartbeats 1000000
namespace Vm
open PySem L2 PyProof.Rows
theorem Sat.tbl {w : Wd} {b : Bs} {σ : L2.St} {e : En} {q : Str} {n : Nat} (S : Sat w b σ e) (h : e.mu[n]? = some (some (.otbl q))) : ∃ P ps, b.G.ρ n = some P ∧ b.o (.m n) = [P] ∧ b.H P = some (.tbl ps) ∧ TriplesOk ps.toList ∧ (∀ (pos : Pos) (cv : Value), codeAmong pos ps.toList = some cv → ∃ c, cv = .ref c ∧ b.G.F c = some (LamX.CodeO c q)) ∧ P = w.cls 999 := by
  have h' : e.at (.m n) = some (.otbl q) := by
    show (e.mu[n]?).getD none = _
    rw [h]
    rfl
  obtain ⟨v, k1, k2⟩ := S.sl (.m n) _ h'
  obtain ⟨P, ps, rfl, h1, h2, h3, h4⟩ := own_otbl.mp k2
  have k1 : (b.G.ρ n).map V.ref = some (.ref P) := k1
  cases r : b.G.ρ n with
  | none => rw [r] at k1; cases k1
  | some a =>
    rw [r] at k1
    cases k1
    exact ⟨_, ps, rfl, h4, h1, h2, h3.1, h3.2⟩
end Vm

set_option maxHeartbeats 1000000
namespace Vm
open PySem L2 PyProof.Rows
end Vm

set_option maxHeartbeats 1000000
namespace Vm
open PySem L2 PyProof.Rows
def Wd.lamOn (w : Wd) (x : Option (Addr × Addr × Str × List V)) : Wd := ⟨w.P, w.W, w.K, w.cls, w.flds, w.self, x⟩
section
variable {w : Wd} {G : Gs} {x : Option (Addr × Addr × Str × List V)}
mutual
theorem Fz.lamOn (hw : w.lam = none) : ∀ {d : D} {v : V}, Fz w G d v → Fz (w.lamOn x) G d v
  | .non, v, h => by simpa only [Fz] using h
  | .bl b, v, h => by simpa only [Fz] using h
  | .int i, v, h => by simpa only [Fz] using h
  | .str s, v, h => by simpa only [Fz] using h
  | .tup ds, v, h => by
    obtain ⟨a, vs, h1, h2, h3, h4⟩ := fz_tup.mp h
    exact fz_tup.mpr ⟨a, vs, h1, h2, h3, FzL.lamOn hw h4⟩
  | .tux ds, v, h => by
    obtain ⟨a, o, vs, h1, h2, h3, h4, h5⟩ := fz_tux.mp h
    exact fz_tux.mpr ⟨a, o, vs, h1, h2, h3, h4, FzL.lamOn hw h5⟩
  | .lst ds, v, h => by
    obtain ⟨a, vs, h1, h2, h3, h4⟩ := fz_lst.mp h
    exact fz_lst.mpr ⟨a, vs, h1, h2, h3, FzL.lamOn hw h4⟩
  | .rol ds, v, h => by
    obtain ⟨a, vs, h1, h2, h3, h4⟩ := fz_rol.mp h
    exact fz_rol.mpr ⟨a, vs, h1, h2, h3, FzL.lamOn hw h4⟩
  | .dic ks, v, h => by
    obtain ⟨a, o, vs, h1, h2, h3, h4⟩ := fz_dic.mp h
    exact fz_dic.mpr ⟨a, o, vs, h1, h2, h3, FzK.lamOn hw h4⟩
  | .dix ks, v, h => by
    obtain ⟨a, o, vs, h1, h2, h3, h4⟩ := fz_dix.mp h
    exact fz_dix.mpr ⟨a, o, vs, h1, h2, h3, FzN.lamOn hw h4⟩
  | .ins c ds, v, h => by
    obtain ⟨a, dx, vs, h1, h2, h3, h4⟩ := fz_ins.mp h
    exact fz_ins.mpr ⟨a, dx, vs, h1, h2, h3, FzL.lamOn hw h4⟩
  | .olst _, v, h => by simp [Fz] at h
  | .odic _, v, h => by simp [Fz] at h
  | .odix _, v, h => by simp [Fz] at h
  | .oins _ _ _, v, h => by simp [Fz] at h
  | .loc n, v, h => fz_loc.mpr (fz_loc.mp h)
  | .exn c ds, v, h => by
    obtain ⟨a, dx, vs, h1, h2, h4, h5⟩ := fz_exn.mp h
    exact fz_exn.mpr ⟨a, dx, vs, h1, h2, h4, FzL.lamOn hw h5⟩
  | .fn ds, v, h => by
    obtain ⟨a, c, q, vs, h1, _⟩ := fz_fn.mp h
    rw [hw] at h1
    cases h1
  | .otbl _, v, h => by simp [Fz] at h
  | .otup _, v, h => by simp [Fz] at h
theorem FzL.lamOn (hw : w.lam = none) : ∀ {ds : List D} {vs : List V}, FzL w G ds vs → FzL (w.lamOn x) G ds vs
  | [], vs, h => fzl_nil.mpr (fzl_nil.mp h)
  | d :: ds, vs, h => by
    obtain ⟨v, r, rfl, h1, h2⟩ := fzl_cons.mp h
    exact fzl_cons.mpr ⟨v, r, rfl, h1.lamOn hw, FzL.lamOn hw h2⟩
theorem FzK.lamOn (hw : w.lam = none) : ∀ {ks : List (D × D)} {vs : List (Key × V)}, FzK w G ks vs → FzK (w.lamOn x) G ks vs
  | [], vs, h => fzk_nil.mpr (fzk_nil.mp h)
  | (k, d) :: r, vs, h => by
    obtain ⟨key, v, t, rfl, h1, h2, h3⟩ := fzk_cons.mp h
    exact fzk_cons.mpr ⟨key, v, t, rfl, h1, h2.lamOn hw, FzK.lamOn hw h3⟩
theorem FzN.lamOn (hw : w.lam = none) : ∀ {ks : List (D × D)} {vs : List (NestedKey × Addr × V)}, FzN w G ks vs → FzN (w.lamOn x) G ks vs
  | [], vs, h => fzn_nil.mpr (fzn_nil.mp h)
  | (k, d) :: r, vs, h => by
    obtain ⟨nk, a, v, t, rfl, h1, h2, h3, h4, h5⟩ := fzn_cons.mp h
    exact fzn_cons.mpr ⟨nk, a, v, t, rfl, h1, h2, h3.lamOn hw, h4.lamOn hw, FzN.lamOn hw h5⟩
end
end
end Vm

set_option maxHeartbeats 1000000
namespace Vm
open PySem L2 PyProof.Rows
mutual
def noFn : D → Bool
  | .fn _ => false
  | .tup xs => noFnL xs
  | .tux xs => noFnL xs
  | .lst xs => noFnL xs
  | .rol xs => noFnL xs
  | .olst xs => noFnL xs
  | .otup xs => noFnL xs
  | .dic kvs => noFnK kvs
  | .dix kvs => noFnK kvs
  | .odic kvs => noFnK kvs
  | .odix kvs => noFnK kvs
  | .ins _ fs => noFnL fs
  | .oins _ _ fs => noFnL fs
  | .exn _ fs => noFnL fs
  | _ => true
def noFnL : List D → Bool
  | [] => true
  | d :: ds => noFn d && noFnL ds
def noFnK : List (D × D) → Bool
  | [] => true
  | (k, d) :: r => noFn k && (noFn d && noFnK r)
end
section
variable {w : Wd} {G : Gs} {H : Hp} {x : Option (Addr × Addr × Str × List V)}
mutual
theorem Fz.lamEq : ∀ {d : D}, noFn d = true → ∀ v : V, Fz (w.lamOn x) G d v ↔ Fz w G d v
  | .non, _, v => by simp only [Fz]
  | .bl _, _, v => by simp only [Fz]
  | .int _, _, v => by simp only [Fz]
  | .str _, _, v => by simp only [Fz]
  | .tup ds, n, v => by
    have ih := FzL.lamEq (ds := ds) (by simpa only [noFn] using n)
    simp only [Fz, ih]
  | .tux ds, n, v => by
    have ih := FzL.lamEq (ds := ds) (by simpa only [noFn] using n)
    simp only [Fz, ih]
  | .lst ds, n, v => by
    have ih := FzL.lamEq (ds := ds) (by simpa only [noFn] using n)
    simp only [Fz, ih]
  | .rol ds, n, v => by
    have ih := FzL.lamEq (ds := ds) (by simpa only [noFn] using n)
    simp only [Fz, ih]
    exact Iff.rfl
  | .dic ks, n, v => by
    have ih := FzK.lamEq (ks := ks) (by simpa only [noFn] using n)
    simp only [Fz, ih]
  | .dix ks, n, v => by
    have ih := FzN.lamEq (ks := ks) (by simpa only [noFn] using n)
    simp only [Fz, ih]
    exact Iff.rfl
  | .ins c ds, n, v => by
    have ih := FzL.lamEq (ds := ds) (by simpa only [noFn] using n)
    simp only [Fz, ih]
    exact Iff.rfl
  | .olst _, _, v => by simp only [Fz]
  | .odic _, _, v => by simp only [Fz]
  | .odix _, _, v => by simp only [Fz]
  | .oins _ _ _, _, v => by simp only [Fz]
  | .loc _, _, v => by simp only [Fz]
  | .exn c ds, n, v => by
    have ih := FzL.lamEq (ds := ds) (by simpa only [noFn] using n)
    simp only [Fz, ih]
    exact Iff.rfl
  | .fn _, n, v => by simp only [noFn] at n; cases n
  | .otbl _, _, v => by simp only [Fz]
  | .otup _, _, v => by simp only [Fz]
theorem FzL.lamEq : ∀ {ds : List D}, noFnL ds = true → ∀ vs : List V, FzL (w.lamOn x) G ds vs ↔ FzL w G ds vs
  | [], _, vs => by simp only [FzL]
  | d :: ds, n, vs => by
    have n' : noFn d = true ∧ noFnL ds = true := by simpa only [noFnL, Bool.and_eq_true] using n
    simp only [FzL, Fz.lamEq n'.1, FzL.lamEq n'.2]
theorem FzK.lamEq : ∀ {ks : List (D × D)}, noFnK ks = true → ∀ vs : List (Key × V), FzK (w.lamOn x) G ks vs ↔ FzK w G ks vs
  | [], _, vs => by simp only [FzK]
  | (k, d) :: r, n, vs => by
    have n' : noFn k = true ∧ noFn d = true ∧ noFnK r = true := by simpa only [noFnK, Bool.and_eq_true] using n
    simp only [FzK, Fz.lamEq n'.2.1, FzK.lamEq n'.2.2]
theorem FzN.lamEq : ∀ {ks : List (D × D)}, noFnK ks = true → ∀ vs : List (NestedKey × Addr × V), FzN (w.lamOn x) G ks vs ↔ FzN w G ks vs
  | [], _, vs => by simp only [FzN]
  | (k, d) :: r, n, vs => by
    have n' : noFn k = true ∧ noFn d = true ∧ noFnK r = true := by simpa only [noFnK, Bool.and_eq_true] using n
    simp only [FzN, Fz.lamEq n'.1, Fz.lamEq n'.2.1, FzN.lamEq n'.2.2]
end
mutual
theorem Own.lamEq : ∀ {d : D}, noFn d = true → ∀ (v : V) (l : List Addr), Own (w.lamOn x) G H d v l ↔ Own w G H d v l
  | .olst ds, n, v, l => by
    have ih := OwnL.lamEq (ds := ds) (by simpa only [noFn] using n)
    simp only [Own, ih]
  | .otup ds, n, v, l => by
    have ih := OwnL.lamEq (ds := ds) (by simpa only [noFn] using n)
    simp only [Own, ih]
  | .odic ks, n, v, l => by
    have ih := OwnK.lamEq (ks := ks) (by simpa only [noFn] using n)
    simp only [Own, ih]
  | .odix ks, n, v, l => by
    have ih := OwnN.lamEq (ks := ks) (by simpa only [noFn] using n)
    simp only [Own, ih]
    exact Iff.rfl
  | .oins c t ds, n, v, l => by
    have ih := OwnL.lamEq (ds := ds) (by simpa only [noFn] using n)
    simp only [Own, ih]
    exact Iff.rfl
  | .otbl q, n, v, l => by
    simp only [Own]
    exact Iff.rfl
  | .non, n, v, l => by simp only [Own]
  | .bl _, n, v, l => by simp only [Own]
  | .int _, n, v, l => by simp only [Own]
  | .str _, n, v, l => by simp only [Own]
  | .tup ds, n, v, l => by simp only [Own, Fz.lamEq n]
  | .tux ds, n, v, l => by simp only [Own, Fz.lamEq n]
  | .lst ds, n, v, l => by simp only [Own, Fz.lamEq n]
  | .rol ds, n, v, l => by simp only [Own, Fz.lamEq n]
  | .dic ds, n, v, l => by simp only [Own, Fz.lamEq n]
  | .dix ds, n, v, l => by simp only [Own, Fz.lamEq n]
  | .ins _ _, n, v, l => by simp only [Own, Fz.lamEq n]
  | .loc _, n, v, l => by simp only [Own, Fz.lamEq n]
  | .exn _ _, n, v, l => by simp only [Own, Fz.lamEq n]
  | .fn _, n, v, l => by simp only [noFn] at n; cases n
theorem OwnL.lamEq : ∀ {ds : List D}, noFnL ds = true → ∀ (vs : List V) (l : List Addr), OwnL (w.lamOn x) G H ds vs l ↔ OwnL w G H ds vs l
  | [], _, vs, l => by simp only [OwnL]
  | d :: ds, n, vs, l => by
    have n' : noFn d = true ∧ noFnL ds = true := by simpa only [noFnL, Bool.and_eq_true] using n
    simp only [OwnL, Own.lamEq n'.1, OwnL.lamEq n'.2]
theorem OwnK.lamEq : ∀ {ks : List (D × D)}, noFnK ks = true → ∀ (vs : List (Key × V)) (l : List Addr), OwnK (w.lamOn x) G H ks vs l ↔ OwnK w G H ks vs l
  | [], _, vs, l => by simp only [OwnK]
  | (k, d) :: r, n, vs, l => by
    have n' : noFn k = true ∧ noFn d = true ∧ noFnK r = true := by simpa only [noFnK, Bool.and_eq_true] using n
    simp only [OwnK, Own.lamEq n'.2.1, OwnK.lamEq n'.2.2]
theorem OwnN.lamEq : ∀ {ks : List (D × D)}, noFnK ks = true → ∀ (vs : List (NestedKey × Addr × V)) (l : List Addr), OwnN (w.lamOn x) G H ks vs l ↔ OwnN w G H ks vs l
  | [], _, vs, l => by simp only [OwnN]
  | (k, d) :: r, n, vs, l => by
    have n' : noFn k = true ∧ noFn d = true ∧ noFnK r = true := by simpa only [noFnK, Bool.and_eq_true] using n
    simp only [OwnN, Fz.lamEq n'.1, Own.lamEq n'.2.1, OwnN.lamEq n'.2.2]
end
-- where there is no lambda, nothing holds one
mutual
theorem Fz.noFn (hw : w.lam = none) : ∀ {d : D} {v : V}, Fz w G d v → Vm.noFn d = true
  | .non, v, h => rfl
  | .bl _, v, h => rfl
  | .int _, v, h => rfl
  | .str _, v, h => rfl
  | .tup ds, v, h => by
    obtain ⟨_, _, _, _, _, h⟩ := fz_tup.mp h
    simp only [Vm.noFn, FzL.noFn hw h]
  | .tux ds, v, h => by
    obtain ⟨_, _, _, _, _, _, _, h⟩ := fz_tux.mp h
    simp only [Vm.noFn, FzL.noFn hw h]
  | .lst ds, v, h => by
    obtain ⟨_, _, _, _, _, h⟩ := fz_lst.mp h
    simp only [Vm.noFn, FzL.noFn hw h]
  | .rol ds, v, h => by
    obtain ⟨_, _, _, _, _, h⟩ := fz_rol.mp h
    simp only [Vm.noFn, FzL.noFn hw h]
  | .dic ks, v, h => by
    obtain ⟨_, _, _, _, _, _, h⟩ := fz_dic.mp h
    simp only [Vm.noFn, FzK.noFn hw h]
  | .dix ks, v, h => by
    obtain ⟨_, _, _, _, _, _, h⟩ := fz_dix.mp h
    simp only [Vm.noFn, FzN.noFn hw h]
  | .ins c ds, v, h => by
    obtain ⟨_, _, _, _, _, _, h⟩ := fz_ins.mp h
    simp only [Vm.noFn, FzL.noFn hw h]
  | .olst _, v, h => by simp [Fz] at h
  | .odic _, v, h => by simp [Fz] at h
  | .odix _, v, h => by simp [Fz] at h
  | .oins _ _ _, v, h => by simp [Fz] at h
  | .loc _, v, h => rfl
  | .exn c ds, v, h => by
    obtain ⟨_, _, _, _, _, _, h⟩ := fz_exn.mp h
    simp only [Vm.noFn, FzL.noFn hw h]
  | .fn ds, v, h => by
    obtain ⟨_, _, _, _, h, _⟩ := fz_fn.mp h
    rw [hw] at h
    cases h
  | .otbl _, v, h => rfl
  | .otup _, v, h => by simp [Fz] at h
theorem FzL.noFn (hw : w.lam = none) : ∀ {ds : List D} {vs : List V}, FzL w G ds vs → noFnL ds = true
  | [], vs, h => rfl
  | d :: ds, vs, h => by
    obtain ⟨_, _, _, h1, h2⟩ := fzl_cons.mp h
    simp only [noFnL, h1.noFn hw, FzL.noFn hw h2, Bool.and_self]
theorem FzK.noFn (hw : w.lam = none) : ∀ {ks : List (D × D)} {vs : List (Key × V)}, FzK w G ks vs → noFnK ks = true
  | [], vs, h => rfl
  | (k, d) :: r, vs, h => by
    obtain ⟨key, _, _, _, h0, h1, h2⟩ := fzk_cons.mp h
    have hk : Vm.noFn k = true := by
      cases k <;> first | rfl | (simp [dkey] at h0)
    simp only [noFnK, hk, h1.noFn hw, FzK.noFn hw h2, Bool.and_self]
theorem FzN.noFn (hw : w.lam = none) : ∀ {ks : List (D × D)} {vs : List (NestedKey × Addr × V)}, FzN w G ks vs → noFnK ks = true
  | [], vs, h => rfl
  | (k, d) :: r, vs, h => by
    obtain ⟨_, _, _, _, _, _, _, h1, h2, h3⟩ := fzn_cons.mp h
    simp only [noFnK, h1.noFn hw, h2.noFn hw, FzN.noFn hw h3, Bool.and_self]
end
mutual
theorem Own.noFn (hw : w.lam = none) : ∀ {d : D} {v : V} {l : List Addr}, Own w G H d v l → Vm.noFn d = true
  | .olst ds, v, l, h => by
    obtain ⟨_, _, _, _, _, _, h, _⟩ := own_olst.mp h
    simp only [Vm.noFn, OwnL.noFn hw h]
  | .otup ds, v, l, h => by
    obtain ⟨_, _, _, _, _, _, h, _⟩ := own_otup.mp h
    simp only [Vm.noFn, OwnL.noFn hw h]
  | .odic ks, v, l, h => by
    obtain ⟨_, _, _, _, _, _, h, _⟩ := own_odic.mp h
    simp only [Vm.noFn, OwnK.noFn hw h]
  | .odix ks, v, l, h => by
    obtain ⟨_, _, _, _, _, _, h, _⟩ := own_odix.mp h
    simp only [Vm.noFn, OwnN.noFn hw h]
  | .oins c t ds, v, l, h => by
    obtain ⟨_, _, _, _, _, _, _, _, h, _⟩ := own_oins.mp h
    simp only [Vm.noFn, OwnL.noFn hw h]
  | .otbl q, v, l, h => rfl
  | .non, v, l, h => rfl
  | .bl _, v, l, h => rfl
  | .int _, v, l, h => rfl
  | .str _, v, l, h => rfl
  | .tup ds, v, l, h => ((own_fz rfl).mp h).1.noFn hw
  | .tux ds, v, l, h => ((own_fz rfl).mp h).1.noFn hw
  | .lst ds, v, l, h => ((own_fz rfl).mp h).1.noFn hw
  | .rol ds, v, l, h => ((own_fz rfl).mp h).1.noFn hw
  | .dic ds, v, l, h => ((own_fz rfl).mp h).1.noFn hw
  | .dix ds, v, l, h => ((own_fz rfl).mp h).1.noFn hw
  | .ins _ _, v, l, h => ((own_fz rfl).mp h).1.noFn hw
  | .loc _, v, l, h => rfl
  | .exn _ _, v, l, h => ((own_fz rfl).mp h).1.noFn hw
  | .fn _, v, l, h => ((own_fz rfl).mp h).1.noFn hw
theorem OwnL.noFn (hw : w.lam = none) : ∀ {ds : List D} {vs : List V} {l : List Addr}, OwnL w G H ds vs l → noFnL ds = true
  | [], vs, l, h => rfl
  | d :: ds, vs, l, h => by
    obtain ⟨_, _, _, _, _, h1, h2, _⟩ := ownl_cons.mp h
    simp only [noFnL, Own.noFn hw h1, OwnL.noFn hw h2, Bool.and_self]
theorem OwnK.noFn (hw : w.lam = none) : ∀ {ks : List (D × D)} {vs : List (Key × V)} {l : List Addr}, OwnK w G H ks vs l → noFnK ks = true
  | [], vs, l, h => rfl
  | (k, d) :: r, vs, l, h => by
    obtain ⟨key, _, _, _, _, _, h0, h1, h2, _⟩ := ownk_cons.mp h
    have hk : Vm.noFn k = true := by
      cases k <;> first | rfl | (simp [dkey] at h0)
    simp only [noFnK, hk, Own.noFn hw h1, OwnK.noFn hw h2, Bool.and_self]
theorem OwnN.noFn (hw : w.lam = none) : ∀ {ks : List (D × D)} {vs : List (NestedKey × Addr × V)} {l : List Addr}, OwnN w G H ks vs l → noFnK ks = true
  | [], vs, l, h => rfl
  | (k, d) :: r, vs, l, h => by
    obtain ⟨_, _, _, _, _, _, _, _, _, h1, h2, h3, _⟩ := ownn_cons.mp h
    simp only [noFnK, h1.noFn hw, Own.noFn hw h2, OwnN.noFn hw h3, Bool.and_self]
end
variable {b b' b0 : Bs} {σ : L2.St} {e : En} {d : D} {v : V} {s : Bool}
theorem Sat.noFn (hw : w.lam = none) (S : Sat w b σ e) : ∀ y d, e.at y = some d → Vm.noFn d = true := fun y d h => let ⟨_, _, o⟩ := S.sl y d h; o.noFn hw
theorem Sat.lamEq (n : ∀ y d, e.at y = some d → Vm.noFn d = true) : Sat (w.lamOn x) b σ e ↔ Sat w b σ e :=
  ⟨fun S => ⟨S.ex, S.le, S.lm, fun y d h => let ⟨v, h1, h2⟩ := S.sl y d h; ⟨v, h1, (Own.lamEq (n y d h) _ _).mp h2⟩, S.em, S.ap, S.nd, S.fo⟩,
   fun S => ⟨S.ex, S.le, S.lm, fun y d h => let ⟨v, h1, h2⟩ := S.sl y d h; ⟨v, h1, (Own.lamEq (n y d h) _ _).mpr h2⟩, S.em, S.ap, S.nd, S.fo⟩⟩
end
end Vm

set_option maxHeartbeats 1000000
namespace Vm
open PySem PySem.Spec L2 PyProof.Rows
def eLamC (i : Nat) (p : PF) (f1 : EM) : EM := fun e => match slotD e i with
  | some (.fn cap) => (f1 e).bind fun d e1 => if noLocL (d :: cap) = true then (match p (d :: cap) with
    | .ok r => .ok r e1
    | _ => .stuck) else .stuck
  | _ => .stuck
@[irreducible] def runL (m : Nat) (fb : EM) : PF := fun ds => if ds.length = m then (match fb ⟨ds.map some, []⟩ with
  | .ok d e => match e.mu with
    | [] => if isF d = true then .ok d else .stuck
    | _ :: _ => .stuck
  | _ => .stuck) else .stuck
def LamR (X : Cx) (w : Wd) (a : Str) (i : Nat) (p : PF) : Prop := ∀ (s : Bool) (x : Expr) (f1 : EM) (p1 p2 : Pos), PE X x (tZ w W0 s f1) → starEach [x] X.env = (false, eval x X.env) :: starEach [] X.env → PE X (.Call (.Name a p1) [x] [] p2) (tZ w W0 s (eLamC i p f1))
def kLam (q : Str) (j : Nat) (F : PF) (d1 d2 : D) : EM := fun e2 => match (e2.mu[0]? : Option (Option D)), slotD e2 j with
  | some (some (D.otbl q')), some cd => if q' = q ∧ isF cd = true ∧ noLocL [d1, d2, .fn [cd]] = true then (match F [d1, d2, .fn [cd]] with
    | .ok r => if noFn r = true then .ok r e2 else .stuck
    | _ => .stuck) else .stuck
  | _, _ => .stuck
def eCallLam (q : Str) (j : Nat) (F : PF) (f1 f2 : EM) : EM := fun e => (f1 e).bind fun d1 e1 => (f2 e1).bind fun d2 e2 => kLam q j F d1 d2 e2
section
variable {w : Wd} {b b' b0 : Bs} {σ : L2.St} {e : En} {mu : Mu} {m n : Nat} {bd : SM} {N : List Str} {vs : List V} {ds : List D} {H : Hp} {Q : VK} {E : XK}
end
end Vm

set_option maxHeartbeats 1000000
namespace VmH
open PySem PySem.Spec PyProof.Rows L2 He
def gq (K : PySem.W.Frag) (x : Str) : Addr := ga K x
def codC (K : PySem.W.Frag) (x : Str) : Addr := match K.lookup (gq K x) with
  | some ⟨_, _, .func fd, _⟩ => (match fd.code with
    | .ref c => c
    | _ => 0)
  | _ => 0
def tabP (K : PySem.W.Frag) (x : Str) : Addr := match K.lookup (codC K x) with
  | some ⟨_, _, .fields vs, _⟩ => (match (vs[11]? : Option Value) with
    | some (.ref P) => P
    | _ => 0)
  | _ => 0
def isTab (g : Addr → Option Obj) (a : Addr) : Bool := match g a with
  | some ⟨.none, none, .fields ps, sl⟩ => ps.size == 0 && sl.size == 0
  | _ => false
def tabB (g : Addr → Option Obj) (K : PySem.W.Frag) (x : Str) : Bool := match K.lookup (gq K x) with
  | some ⟨_, _, .func fd, _⟩ => (match fd.code with
    | .ref c => (match K.lookup c with
      | some ⟨.type n, _, .fields vs, _⟩ => n == "code" && (match (vs[11]? : Option Value), (vs[18]? : Option Value), (vs[7]? : Option Value), (vs[9]? : Option Value), (vs[10]? : Option Value) with
        | some (.ref P), some (.str _ _), some (.int _ _), some (.bool _), some (.int _ _) => c != P && ((K.lookup P).isNone && isTab g P)
        | _, _, _, _, _ => false)
      | _ => false)
    | _ => false)
  | _ => false
theorem isTab_ok {g : Addr → Option Obj} {a : Addr} (h : isTab g a = true) : g a = some { cls := .none, data := .fields #[] } := by
  unfold isTab at h
  split at h
  · rename_i ps sl e
    simp only [Bool.and_eq_true, beq_iff_eq] at h
    rw [e, Array.eq_empty_of_size_eq_zero h.1, Array.eq_empty_of_size_eq_zero h.2]
  · cases h
structure TabAt (K : PySem.W.Frag) (h : Heap) (x : Str) : Prop where
  fd : ∃ oc od fd osl, K.lookup (gq K x) = some ⟨oc, od, .func fd, osl⟩ ∧ fd.code = .ref (codC K x)
  tab : h.get? (tabP K x) = some { cls := .none, data := .fields #[] }
  nK : K.lookup (tabP K x) = none
  cd : PySem.W.CodeHd h (codC K x) (tabP K x)
theorem tabB_ok {h : Heap} {K : PySem.W.Frag} {x : Str} (X : K.In h) (b : tabB h.get? K x = true) : TabAt K h x := by
  unfold tabB at b
  split at b
  · rename_i oc od fd osl hl
    split at b
    · rename_i c hc
      have ec : codC K x = c := by
        unfold codC
        rw [hl]
        show (match fd.code with
          | .ref c => c
          | _ => 0) = c
        rw [hc]
      split at b
      · rename_i n dd vs sl hk
        simp only [Bool.and_eq_true, beq_iff_eq] at b
        obtain ⟨rfl, b⟩ := b
        split at b
        · rename_i P a1 t1 a2 t2 a3 a4 t4 e1 e2 e3 e4 e5
          simp only [Bool.and_eq_true, bne_iff_ne, Option.isNone_iff_eq_none] at b
          obtain ⟨b1, b2, b3⟩ := b
          have eP : tabP K x = P := by
            unfold tabP
            rw [ec, hk]
            show (match (vs[11]? : Option Value) with
              | some (.ref P) => P
              | _ => 0) = P
            rw [e1]
          have gd : ∀ {i : Nat} {v : Value}, (vs[i]? : Option Value) = some v → vs.getD i .none = v := fun {i v} e => by
            rw [Array.getD_eq_getD_getElem?, e]
            rfl
          exact ⟨⟨_, _, _, _, hl, by rw [hc, ec]⟩, by rw [eP]; exact isTab_ok b3, by rw [eP]; exact b2, by
            rw [eP, ec]
            exact ⟨_, vs, _, _, _, _, _, _, _, X _ _ hk, rfl, rfl, e1, gd e1, gd e2, gd e3, gd e4, gd e5, b1⟩⟩
        · cases b
      · cases b
    · cases b
  · cases b
theorem TabAt.keeps {K : PySem.W.Frag} {h h' : Heap} {x : Str} (t : TabAt K h x) (k : ∀ b o, h.get? b = some o → h'.get? b = some o) : TabAt K h' x := ⟨t.fd, k _ _ t.tab, t.nK, t.cd.keeps k⟩
def asT (g : Addr → Option Obj) (n : Nat) : List Addr := (asX g n).filter fun a => !isTab g a
def frT (n : Nat) (g : Addr → Option Obj) : PySem.W.Frag := frG g (asT g n)
def obsT (n : Nat) (file : Str) (fa : List Fa) (fn : List DefD) (cs : List Str) (xs : List XD) (ns ts : List Str) (g : Addr → Option Obj) : AlX × Bool := ((((obsD fa fn (frT n g), cs.all (insB (frT n g))), xs.all (excB file (frT n g) xs) && ns.all (neB (frT n g)), xs.map (fnX (frT n g)))), ts.all (tabB g (frT n g)))
def hookT (n : Nat) (file : Str) (fa : List Fa) (fn : List DefD) (cs : List Str) (xs : List XD) (ns ts : List Str) : PySem.W.Hook where
  α := AlX × Bool
  obs := fun s => obsT n file fa fn cs xs ns ts s.heap.get?
  val := fun _ => (((valD fn, true), true, xs.map XD.val), true)
  says := fun _ h => ∃ K : PySem.W.Frag, K.In h ∧ SaysX file fa fn cs xs ns K ∧ ∀ x ∈ ts, TabAt K h x
  of := fun _ s e => ⟨frT n s.heap.get?, frG_in, ⟨⟨congrArg (fun z : AlX × Bool => z.1.1.1) e, congrArg (fun z : AlX × Bool => z.1.1.2) e⟩, congrArg (fun z : AlX × Bool => z.1.2.1) e, congrArg (fun z : AlX × Bool => z.1.2.2) e⟩, fun x hx => tabB_ok frG_in (List.all_eq_true.mp (congrArg (fun z : AlX × Bool => z.2) e : ts.all (tabB s.heap.get? (frT n s.heap.get?)) = true) x hx)⟩
  keeps := fun _ _ _ ⟨K, hK, c, t⟩ k => ⟨K, PySem.W.Frag.In.keeps hK k, c, fun x hx => (t x hx).keeps k⟩
end VmH
namespace Vm
open PySem PySem.Spec L2 PyProof.Rows
structure TabD (K : PySem.W.Frag) (mg : Str → Option Value) (base : Heap) (x : Str) (Pt : Addr) : Prop where
  ex : ∃ f c oc od fd osl, mg x = some (.ref f) ∧ K.lookup f = some ⟨oc, od, .func fd, osl⟩ ∧ fd.code = .ref c ∧ LamX.TabB base mg c Pt
section
variable {P : Program} {w : World} {W : Wd} {K : PySem.W.Frag} {mg : Str → Option Value} {base : Heap} {x qual : Str} {params : Arguments} {body : List Stmt} {scope : Scope} {f : Addr} {fd : FuncData} {N ps : List Str} {k m n : Nat} {bd : SM}
end
end Vm

set_option maxHeartbeats 1000000
namespace Vm
open PySem PySem.Spec L2 PyProof.Rows
end Vm

set_option maxHeartbeats 1000000
namespace Vm
open PySem PySem.Spec L2 PyProof.Rows
def lamQ (x : Str) : Str := x ++ ".<locals>." ++ "<lambda>"
def lamSc (st : Stmt) : Scope := match (defBody st).getLast? with
  | some (.Return (some (.Call _ [_, _, .Lambda _ _ sc _] _ _)) _) => sc
  | _ => defScope st
section
variable {w : Wd} {n : Nat} {bd : SM}
end
structure Def1T (K : PySem.W.Frag) (mg : Str → Option Value) (base : Heap) (x : Str) (st : Stmt) (Pt : Addr) : Prop where
  d : Def1 K mg x x st
  t : TabD K mg base x Pt
theorem Def1T.fn {P : Program} {w : World} {K : PySem.W.Frag} {mg : Str → Option Value} {base : Heap} {x : Str} {st : Stmt} {Pt : Addr} {k : Nat} {sp : Sp} {ps : List Str} (D : Def1T K mg base x st Pt) (hb : ∀ f fd, FunD K x x (defArgs st) (defBody st) (defScope st) [] [] f fd → Binds K fd ps [])
    (h : ∀ f fd, mg x = some (.ref f) → FunD K x x (defArgs st) (defBody st) (defScope st) [] [] f fd → FnOk P w K mg base CX0 k f fd ps sp) : Fn P w K mg base k x sp := by
  obtain ⟨f, fd, h1, h2⟩ := D.d.ex
  exact ⟨f, fd, ps, h f fd h1 h2, h1, h2.kp, hb f fd h2⟩
end Vm

set_option maxHeartbeats 1000000
namespace Vm
open PySem L2 PyProof.Rows
def permL {α : Type} (z : α) (ix : List Nat) (l : List α) : List α := ix.map fun i => (l[i]?).getD z
def aPerm (m : Nat) (ix : List Nat) (ar : LM) : LM := fun e => (ar e).bind fun ds e1 => if ds.length = m then .ok (permL .non ix ds) e1 else .stuck
theorem FzL.perm {w : Wd} {G : Gs} {ds : List D} {vs : List V} (z : FzL w G ds vs) : ∀ ix : List Nat, FzL w G (permL .non ix ds) (permL .non ix vs)
  | [] => fzl_nil.mpr rfl
  | i :: ix => by
    refine fzl_cons.mpr ⟨(vs[i]?).getD .non, permL .non ix vs, rfl, ?_, FzL.perm z ix⟩
    show Fz w G ((ds[i]?).getD .non) ((vs[i]?).getD .non)
    cases h : ds[i]? with
    | none =>
      have : vs[i]? = none := by
        rw [List.getElem?_eq_none_iff] at h ⊢
        rw [z.length]; exact h
      rw [this]
      exact fz_non.mpr rfl
    | some d =>
      obtain ⟨v, h1, h2⟩ := z.get h
      rw [h1]
      exact h2
section
variable {X : Cx} {W : Wx} {s : Bool} {w : Wd} {x : Expr} {kws : List Keyword} {f : EM} {g : LM} {nm : Option Str} {kpos : Pos}
end
structure FnK (P : Program) (w : World) (K : PySem.W.Frag) (mg : Str → Option Value) (base : Heap) (k : Nat) (x qual : Str) (st : Stmt) (ps : List Str) (sp : Sp) : Prop where
  ex : ∃ (f : Addr) (fd : FuncData), FnOk P w K mg base CX0 k f fd ps sp ∧ mg x = some (.ref f) ∧ FunD K x qual (defArgs st) (defBody st) (defScope st) [] [] f fd
section
variable {P : Program} {w : World} {K : PySem.W.Frag} {mg : Str → Option Value} {base : Heap} {x qual : Str} {st : Stmt} {k : Nat} {sp : Sp} {ps : List Str}
theorem FnK.fn (D : FnK P w K mg base k x qual st ps sp) (hb : ∀ f fd, FunD K x qual (defArgs st) (defBody st) (defScope st) [] [] f fd → Binds K fd ps []) : Fn P w K mg base k x sp := by
  obtain ⟨f, fd, h1, h2, F⟩ := D.ex
  exact ⟨f, fd, ps, h1, h2, F.kp, hb f fd F⟩
end
section
variable {X : Cx} {W : Wx} {s : Bool} {w : Wd} {pos p : Pos} {x qual : Str} {st : Stmt} {kws : List Keyword} {F : FV} {ar : LM} {ps ks : List Str} {k m : Nat} {ix : List Nat}
end
structure FnKC (P : Program) (w : World) (K : PySem.W.Frag) (mg : Str → Option Value) (base : Heap) (k : Nat) (x qual : Str) (st : Stmt) (ps : List Str) (sp : Sp) : Prop where
  ex : ∃ (f : Addr) (fd : FuncData), VmX.FnG P w K mg base CX0 k f fd ps sp ∧ mg x = some (.ref f) ∧ FunD K x qual (defArgs st) (defBody st) (defScope st) [] [] f fd
section
variable {P : Program} {w : World} {K : PySem.W.Frag} {mg : Str → Option Value} {base : Heap} {x qual : Str} {st : Stmt} {k : Nat} {sp : Sp} {ps : List Str}
theorem FnKC.fnC (D : FnKC P w K mg base k x qual st ps sp) (hb : ∀ f fd, FunD K x qual (defArgs st) (defBody st) (defScope st) [] [] f fd → Binds K fd ps []) : FnC P w K mg base k x sp := by
  obtain ⟨f, fd, h1, h2, F⟩ := D.ex
  exact ⟨f, fd, ps, h1, h2, F.kp, hb f fd F⟩
end
section
variable {X : Cx} {W : Wx} {s : Bool} {w : Wd} {pos p : Pos} {x qual : Str} {st : Stmt} {kws : List Keyword} {F : FV} {ar : LM} {ps ks : List Str} {k m : Nat} {ix : List Nat}
end
structure MkcK (P : Program) (w : World) (K : PySem.W.Frag) (mg : Str → Option Value) (base : Heap) (k : Nat) (C : Addr) (x : Str) (ps ks : List Str) (ix : List Nat) (sp : Sp) : Prop where
  ex : ∃ (f : Addr) (fd : FuncData), Mk K C f ∧ FnOk P w K mg base CX0 k f fd ps sp ∧ mg x = some (.ref C) ∧ KBn K fd ps 1 ks (fun us ws => us ++ permL .none ix ws) (fun vs zs => vs ++ permL .non ix zs)
section
variable {X : Cx} {W : Wx} {w : Wd} {pos p : Pos} {x : Str} {kws : List Keyword} {ar : LM} {k c nf m : Nat} {q : IF} {ps ks : List Str} {ix : List Nat}
end
end Vm

set_option maxHeartbeats 1000000
namespace Vm
open PySem L2 PyProof.Rows
section
variable {X : Cx} {W : Wx} {s : Bool} {w : Wd} {pos : Pos} {x c : Expr} {fk fv : EM}
end
end Vm

set_option maxHeartbeats 1000000
namespace VmS
open PySem PySem.Spec PyProof.Rows L2
abbrev Ent := Int × Value
def TextE (w : World) (e : Ent) : Prop := ∃ (x : Str) (tk : Tok), e = (hashStr w x, .str x tk)
def textOf (e : Ent) : Str := match e.2 with
  | .str x _ => x
  | _ => ⟨#[]⟩
def SetS (w : World) (h : Heap) (a : Addr) (L : List Ent) : Prop := ∃ (o : Obj) (es : Array Ent) (ep : Nat) (t : SetTable), h.get? a = some o ∧ o.ExactSet ∧ o.data = .set es ep t ∧ es.toList.Perm L ∧ es.size < scanBound ∧ t.fits es.size = true ∧ Ris t.place.toList ∧
  (w.params.followText "set-order" = true ∨ t.led = true)
section
variable {P : Program} {w : World} {h h' : Heap} {a : Addr} {L L' : List Ent}
theorem SetS.at (R : SetS w h a L) (k : ∀ o, h.get? a = some o → h'.get? a = some o) : SetS w h' a L := by
  obtain ⟨o, es, ep, t, ho, r⟩ := R
  exact ⟨o, es, ep, t, k o ho, r⟩
theorem SetS.perm (R : SetS w h a L) (k : L.Perm L') : SetS w h a L' := by
  obtain ⟨o, es, ep, t, ho, h1, h2, h3, r⟩ := R
  exact ⟨o, es, ep, t, ho, h1, h2, h3.trans k, r⟩
end
section
variable {P : Program} {w : World} {A : Around} {E : Value → Shared → Prop} {s : Shared} {a : Addr} {L : List Ent}
end
end VmS

set_option maxHeartbeats 3200000
namespace VmS
open PySem PySem.Spec PyProof.Rows L2
structure Seen (w : World) (xs : List Str) (i : Nat) (L : List Ent) : Prop where
  txt : ∀ e ∈ L, TextE w e
  nd : (L.map textOf).Nodup
  mem : ∀ x, x ∈ L.map textOf ↔ x ∈ xs.take i
  len : L.length ≤ i
theorem Seen.zero {w : World} {xs : List Str} : Seen w xs 0 [] := ⟨(fun _ h => by cases h), List.nodup_nil, (fun x => by simp), Nat.le_refl _⟩
theorem take_add {α : Type} {l : List α} {i : Nat} {x : α} (h : l[i]? = some x) : l.take (i + 1) = l.take i ++ [x] := by
  obtain ⟨hi, rfl⟩ := List.getElem?_eq_some_iff.mp h
  rw [List.take_succ_eq_append_getElem hi]
theorem Seen.old {w : World} {xs : List Str} {i : Nat} {L : List Ent} {x : Str} (g : Seen w xs i L) (h : xs[i]? = some x) (k : x ∈ L.map textOf) : Seen w xs (i + 1) L := by
  refine ⟨g.txt, g.nd, fun y => ?_, Nat.le_succ_of_le g.len⟩
  rw [take_add h, List.mem_append, List.mem_singleton, g.mem]
  exact ⟨.inl, fun z => z.elim id fun e => e ▸ (g.mem x).mp k⟩
theorem Seen.new {w : World} {xs : List Str} {i : Nat} {L : List Ent} {x : Str} {tk : Tok} (g : Seen w xs i L) (h : xs[i]? = some x) (k : x ∉ L.map textOf) : Seen w xs (i + 1) ((hashStr w x, .str x tk) :: L) := by
  refine ⟨fun e he => ?_, List.nodup_cons.mpr ⟨k, g.nd⟩, fun y => ?_, Nat.succ_le_succ g.len⟩
  · rcases List.mem_cons.mp he with rfl | he
    · exact ⟨x, tk, rfl⟩
    · exact g.txt e he
  · rw [take_add h, List.mem_append, List.mem_singleton, List.map_cons, List.mem_cons, g.mem]
    exact Or.comm
section
variable {P : Program} {w : World} {A : Around} {E : Value → Shared → Prop} {s : Shared}
abbrev newSet (w : World) : Obj := { cls := .type "set", dict := none, data := .set #[] 0 (.fresh 0 0 (!w.params.followText "set-order")) }
theorem SetS.fresh {h : Heap} {a : Addr} (ho : h.get? a = some (newSet w)) : SetS w h a [] := by
  refine ⟨_, #[], 0, _, ho, ⟨rfl, rfl, rfl⟩, rfl, .refl _, by unfold scanBound; decide, rfl, ris_range 0, ?_⟩
  show _ ∨ (!w.params.followText "set-order") = true
  cases w.params.followText "set-order"
  · exact .inr rfl
  · exact .inl rfl
end
end VmS

set_option maxHeartbeats 1000000
namespace Vm
open PySem PySem.Calls L2 PyProof.Rows PySem.W VmS
def rSetT (w : Wd) : List V → Hp → VK → Prop := fun xs H Q => ∃ (a : Addr) (ss : List Str), xs = [.ref a] ∧ SqL w.K H a (ss.map V.str) ∧ ss.length ≤ 1000 ∧
  ∀ p L, H p = none → Seen w.W ss ss.length L → Q (.ref p) (upd H p (.ext fun h => SetS w.W h p L))
theorem vals_strs : ∀ {ss : List Str} {us : List Value}, Vals (ss.map V.str) us → StrsAre us ss
  | [], us, r => by cases r; exact .nil
  | x :: ss, us, r => by
    cases r with
    | cons r1 r2 =>
      obtain ⟨t, rfl⟩ := r1
      exact .cons x t (vals_strs r2)
def leS (x y : Str) : Bool := leD (.str x) (.str y)
def rSortT (w : Wd) : List V → Hp → VK → Prop := fun xs H Q => ∃ (a : Addr) (L : List Ent), xs = [.ref a] ∧ H a = some (.ext fun h => SetS w.W h a L) ∧ (∀ e ∈ L, TextE w.W e) ∧ L.length ≤ 1000 ∧
  ∀ ss : List Str, ss.Perm (L.map textOf) → ss.Pairwise (fun x y => leS x y = true) → ∀ p, H p = none → Q (.ref p) (upd H p (.lst (ss.map V.str)))
def rSortDk (w : Wd) : List V → Hp → VK → Prop := fun xs H Q => ∃ (a : Addr) (kvs : List (Key × V)) (L : List Str), xs = [.ref a] ∧ H a = some (.dK kvs) ∧ kvs.map (·.1) = L.map Sum.inr ∧ L.length ≤ 1000 ∧
  (L.Nodup → ∀ ss : List Str, ss.Perm L → ss.Pairwise (fun x y => leS x y = true) → ∀ p, H p = none → Q (.ref p) (upd H p (.lst (ss.map V.str))))
end Vm

set_option maxHeartbeats 1000000
namespace Vm
open PySem L2 PyProof.Rows VmS
def txts? : List D → Option (List Str)
  | [] => some []
  | .str x :: r => (txts? r).map (x :: ·)
  | _ => none
def dedS : List Str → List Str
  | [] => []
  | x :: r => if r.contains x then dedS r else x :: dedS r
def sortS (ss : List Str) : List D := isortD ((dedS ss).map .str)
def setSorted (ds : List D) : Option D := (txts? ds).bind fun ss => if ss.length ≤ 1000 then some (.olst (sortS ss)) else none
def dSortSet : D → Option D
  | .lst ds => setSorted ds
  | .rol ds => setSorted ds
  | .olst ds => setSorted ds
  | _ => none
section
variable {X : Cx} {W : Wx} {s : Bool} {w : Wd} {pos pos2 p p2 : Pos} {a : Expr} {fa : EM}
end
end Vm

set_option maxHeartbeats 1000000
namespace Vm
open PySem L2 PyProof.Rows VmS
structure KeysOk (acc : List D) (kvs : List (Key × V)) (L : List Str) : Prop where
  k : kvs.map (·.1) = L.map Sum.inr
  m : ∀ x, x ∈ L ↔ D.str x ∈ acc
  l : L.length ≤ acc.length
  o : ∀ x ∈ L, PyData.strOk x = true
theorem putK_keys (kvs : List (Key × V)) (k : Key) (v : V) : (k ∈ kvs.map (·.1) → (putK kvs k v).map (·.1) = kvs.map (·.1)) ∧ (k ∉ kvs.map (·.1) → (putK kvs k v).map (·.1) = kvs.map (·.1) ++ [k]) := by
  unfold putK
  by_cases h : (kvs.any fun kv => decide (kv.1 = k)) = true
  · have hm : k ∈ kvs.map (·.1) := by
      obtain ⟨p, hp, e⟩ := List.any_eq_true.mp h
      exact List.mem_map.mpr ⟨p, hp, by simpa using e⟩
    refine ⟨fun _ => ?_, fun z => absurd hm z⟩
    rw [if_pos h, List.map_map]
    refine List.map_congr_left fun p _ => ?_
    show (if p.1 = k then (p.1, v) else p).1 = p.1
    split <;> rfl
  · have hm : k ∉ kvs.map (·.1) := fun z => h (by
      obtain ⟨p, hp, e⟩ := List.mem_map.mp z
      exact List.any_eq_true.mpr ⟨p, hp, by simpa using e⟩)
    refine ⟨fun z => absurd z hm, fun _ => ?_⟩
    rw [if_neg h]
    simp
theorem KeysOk.put {acc : List D} {kvs : List (Key × V)} {L : List Str} (h : KeysOk acc kvs L) {x : Str} (hx : PyData.strOk x = true) (v : V) : ∃ L', KeysOk (acc ++ [.str x]) (putK kvs (.inr x) v) L' := by
  have hin : (Sum.inr x : Key) ∈ kvs.map (·.1) ↔ x ∈ L := by
    rw [h.k, List.mem_map]
    exact ⟨fun ⟨y, hy, e⟩ => Sum.inr.inj e ▸ hy, fun hy => ⟨x, hy, rfl⟩⟩
  by_cases c : x ∈ L
  · refine ⟨L, by rw [(putK_keys _ _ _).1 (hin.mpr c)]; exact h.k, fun y => ?_, by rw [List.length_append]; have := h.l; omega, h.o⟩
    rw [List.mem_append, List.mem_singleton, h.m]
    refine ⟨.inl, fun z => z.elim id fun e => ?_⟩
    rw [D.str.inj e]
    exact (h.m x).mp c
  · refine ⟨L ++ [x], by rw [(putK_keys _ _ _).2 fun z => c (hin.mp z), h.k]; simp, fun y => ?_, by simp only [List.length_append, List.length_cons, List.length_nil]; have := h.l; omega, fun y hy => ?_⟩
    · rw [List.mem_append, List.mem_append, List.mem_singleton, List.mem_singleton, h.m]
      exact ⟨fun z => z.imp id fun e => by rw [e], fun z => z.imp id fun e => D.str.inj e⟩
    · rcases List.mem_append.mp hy with q | q
      · exact h.o y q
      · rw [List.mem_singleton.mp q]; exact hx
section
variable {W : Wx} {s : Bool} {w : Wd} {it : LM} {g : GM} {tt : TM} {te : EM} {vs : List Nat}
end
section
variable {X : Cx} {W : Wx} {s : Bool} {w : Wd} {pos dpos p : Pos} {kx tg iter : Expr} {ifs : List Expr} {scope : Scope} {own : List (Str × Nat)} {it : LM} {g : GM} {tt : TM} {te : EM} {j} {pt : Pos}
end
end Vm

set_option maxHeartbeats 1000000
namespace Vm
open PySem L2 PySem.Spec PyProof.Rows
def tTupX (t : TA) : TE := fun σ H Q => t σ H fun xs H1 => xs.length ≤ sizeLine ∧ ∀ p o, H1 p = none → o.dict = none → Q (.ref p) (upd H1 p (.frz o (.tup xs)))
def mkTux (xs : List D) : Option D := if xs.length ≤ LIM then some (.tux xs) else none
def eTupX (g : LM) : EM := fun e => (g e).bind fun xs e1 => lift (mkTux xs) e1
def rCatK (K : PySem.W.Frag) : R2 := fun x y H Q => ∃ a b xs ys, x = .ref a ∧ y = .ref b ∧ SqT K H a xs ∧ SqT K H b ys ∧ xs.length + ys.length ≤ sizeLine ∧
  (xs = [] → Q (.ref b) H) ∧ (xs ≠ [] → ys = [] → Q (.ref a) H) ∧ (xs ≠ [] → ys ≠ [] → ∀ p o, H p = none → o.dict = none → Q (.ref p) (upd H p (.frz o (.tup (xs ++ ys)))))
def tups? : D → Option (Bool × List D)
  | .tup xs => some (false, xs)
  | .tux xs => some (true, xs)
  | _ => none
def dCatK : D → D → Option D := fun x y => (tups? x).bind fun p => (tups? y).bind fun q => if p.2.length + q.2.length ≤ LIM then (match p.2, q.2 with
  | [], _ => if q.1 then some (.tux q.2) else none
  | _, [] => if p.1 then some (.tux p.2) else none
  | xs, ys => some (.tux (xs ++ ys))) else none
def dSlK : D → Option Int → Option Int → Option D
  | .tux xs, l, h => if HT.sIx xs.length 0 l = 0 ∧ HT.sIx xs.length xs.length h = xs.length then some (.tux xs) else some (.tup (cutD xs l h))
  | _, _, _ => none
def dIndexI : D → D → Option D
  | .tux ds, .int k => match ints? ds with
    | some ns => if k ∈ ns then some (.int (ns.idxOf k : Nat)) else none
    | none => none
  | _, _ => none
section
variable {X : Cx} {W : Wx} {s : Bool} {w : Wd} {pos p2 apos : Pos} {x : Expr} {es : List Expr} {f fa fx : EM} {g : LM} {lo hi : Option Expr} {fl fh : OM}
end
end Vm

set_option maxHeartbeats 1000000
namespace Vm
open PySem L2 PyProof.Rows
def okAp : D → Bool
  | .otup [_, .olst xs] => decide (xs.length < LIM)
  | _ => false
def apD : D → D
  | .otup [d0, .olst xs] => .otup [d0, .olst (xs ++ [.non])]
  | d => d
section
variable {w : Wd} {G : Gs} {H : Hp}
end
def preA (ds : List D) (k : Nat) : List D := (ds.take k).map apD ++ ds.drop k
def enA (e : En) (i ja jb : Nat) (ds : List D) : En := ⟨((e.sl.set i (some (.olst ds))).set ja none).set jb none, e.mu⟩
def sForApp (i ja jb : Nat) : SM := fun e => match slotD e i with
  | some (.olst ds) => if (i ≠ ja ∧ i ≠ jb ∧ ja ≠ jb) ∧ ds.all okAp = true then .nx (enA e i ja jb (ds.map apD)) else .stuck
  | _ => .stuck
section
variable {X : Cx} {W : Wx} {w : Wd} {pos p pa pb p2 p3 p4 tp ap cp : Pos}
end
abbrev Tr := D × V × List Addr
def TrOk (w : Wd) (G : Gs) (H : Hp) (u : Value) (p : Tr) : Prop := RelV p.2.1 u ∧ Own w G H p.1 p.2.1 p.2.2
def trA (bs : List Tr) : List Addr := bs.flatMap fun p => p.2.2
section
variable {w : Wd} {G : Gs} {H : Hp} {X : Cx}
end
def tupO : D → Bool
  | .otup (_ :: _) => true
  | d => tupN d
def okO (ds : List D) : Bool := decide (ds.length ≤ LIM) && (plnL DEP ds && ((ds.all fun a => ds.all fun b => PySem.W.alike (pd a) (pd b)) && ds.all tupO))
def rSortO (w : Wd) : List V → Hp → VK → Prop := fun xs H Q => ∃ (G : Gs) (a : Addr) (vs : List V) (ds : List D) (l : List Addr), xs = [.ref a] ∧ SqL w.K H a vs ∧ OwnL w G H ds vs l ∧ ds.length ≤ sizeLine ∧ (∀ a u, G.F a = some u → H a = some u) ∧ okO ds = true ∧
  ∀ vs' l', OwnL w G H (isortD ds) vs' l' → l'.Perm l → ∀ p, H p = none → Q (.ref p) (upd H p (.lst vs'))
def dSortO : D → Option D
  | .olst ds => if okO ds then some (.olst (isortD ds)) else none
  | _ => none
section
variable {X : Cx} {W : Wx} {s : Bool} {w : Wd} {pos p : Pos} {a : Expr} {fa : EM}
end
end Vm

set_option maxHeartbeats 1000000
namespace Vm
open PySem L2 PyProof.Rows
abbrev IX := List D → Option (List D ⊕ (Nat × Option D))
def endIX (c : Nat) (r : So) : Option (List D ⊕ (Nat × Option D)) := match r with
  | .nx e => (endI c (.nx e)).map Sum.inl
  | .exc c' x e => match e.mu with
    | [] => some (.inr (c', x))
    | _ :: _ => none
  | _ => none
@[irreducible] def runIX (c m n : Nat) (bd : SM) : IX := fun ds => if ds.length = m then endIX c (bd ⟨some (.oins c true []) :: (ds.map some ++ List.replicate n none), []⟩) else none
def mkX (c nf : Nat) (q : IX) : PF := fun ds => match q ds with
  | some (.inl fs) => (match frzTL fs with
    | some fs' => if fs'.length = nf then .ok (.ins c fs') else .stuck
    | none => .stuck)
  | some (.inr (c', x)) => .exc c' x
  | none => .stuck
def spIX (w : Wd) (c : Nat) (q : IX) : Sp := fun vs H Q E => ∃ b mu ds x dx args, vs = .ref x :: args ∧ H = upd (upd b.H dx (.own x)) x (.ins (w.cls c) dx []) ∧ b.H x = none ∧ b.H dx = none ∧ dx ≠ x ∧ Sat w b [] ⟨[], mu⟩ ∧ FzL w b.bare.G ds args ∧ match q ds with
  | some (.inl fs) => ∀ b' l, Gr false b b' → Sat w b' [] ⟨[], mu⟩ → Own (w.on (some x)) b'.G b'.H (.oins c true fs) (.ref x) l → Lone b b' l → (∀ a ∈ l, b.H a = none) → Q .non b'.H
  | some (.inr (c', y)) => ∀ b' d, Gr false b b' → Sat w b' [] ⟨[], mu⟩ → ExAt w b' c' y d → E (.ref (w.cls c')) d b'.H
  | none => False
theorem ExAt.on {w : Wd} {b : Bs} {c : Nat} {y : Option D} {d : Option Addr} {x : Option Addr} (h : ExAt w b c y d) : ExAt (w.on x) b c y d := by
  cases y with
  | none => exact h
  | some y =>
    obtain ⟨dd, v, h1, h2, h3, h4⟩ := h
    exact ⟨dd, v, h1, h2, h3, h4.on⟩
structure MkcX (P : Program) (w : World) (K : PySem.W.Frag) (mg : Str → Option Value) (base : Heap) (k : Nat) (C : Addr) (x : Str) (sp : Sp) : Prop where
  ex : ∃ (f : Addr) (fd : FuncData) (ps : List Str), Mk K C f ∧ FnOk P w K mg base (L2.CX P w) k f fd ps sp ∧ mg x = some (.ref C) ∧ Binds K fd ps []
def eMakeX (p : PF) (ar : LM) : EM := fun e => (ar e).bind fun ds e1 => match pureF p e1.mu ds with
  | .ok d mu => .ok d ⟨e1.sl, mu⟩
  | .exc c x mu => .exc c x ⟨List.replicate e1.sl.length none, mu⟩
  | .stuck => .stuck
section
variable {X : Cx} {WW : WX} {w : Wd} {pos p : Pos} {x : Str} {a : Expr} {es : List Expr} {ar : LM} {k c nf : Nat} {q : IX}
end
end Vm

set_option maxHeartbeats 1000000
namespace Vm
open PySem L2 PyProof.Rows
mutual
def cln : D → Bool
  | .loc _ => false
  | .lst _ => false
  | .rol _ => false
  | .exn _ _ => false
  | .fn _ => false
  | .tup xs => clnL xs
  | .tux xs => clnL xs
  | .dic xs => clnK xs
  | .dix xs => clnK xs
  | .ins _ fs => clnL fs
  | _ => true
def clnL : List D → Bool
  | [] => true
  | d :: ds => cln d && clnL ds
def clnK : List (D × D) → Bool
  | [] => true
  | (k, d) :: ds => cln k && (cln d && clnK ds)
end
def ToG (G G2 : Gs) : Prop := ∀ a u, G.F a = some u → (∀ vs, u ≠ .lst vs) → G2.F a = some u
section
variable {w : Wd} {G G2 : Gs}
mutual
theorem Fz.cln (kk : ToG G G2) : ∀ {d : D} {v : V}, Fz w G d v → cln d = true → Fz w G2 d v
  | .non, v, h, _ => fz_non.mpr (fz_non.mp h)
  | .bl _, v, h, _ => fz_bl.mpr (fz_bl.mp h)
  | .int _, v, h, _ => fz_int.mpr (fz_int.mp h)
  | .str _, v, h, _ => fz_str.mpr (fz_str.mp h)
  | .tup ds, v, h, n => by
    obtain ⟨a, vs, rfl, h1, h2, h3⟩ := fz_tup.mp h
    exact fz_tup.mpr ⟨a, vs, rfl, kk _ _ h1 (fun _ z => by cases z), h2, FzL.cln kk h3 (by simpa [cln] using n)⟩
  | .tux ds, v, h, n => by
    obtain ⟨a, o, vs, rfl, h1, hd, h2, h3⟩ := fz_tux.mp h
    exact fz_tux.mpr ⟨a, o, vs, rfl, kk _ _ h1 (fun _ z => by cases z), hd, h2, FzL.cln kk h3 (by simpa [cln] using n)⟩
  | .lst _, v, h, n => by simp [cln] at n
  | .rol _, v, h, n => by simp [cln] at n
  | .dic ds, v, h, n => by
    obtain ⟨a, o, vs, rfl, h1, h2, h3⟩ := fz_dic.mp h
    exact fz_dic.mpr ⟨a, o, vs, rfl, kk _ _ h1 (fun _ z => by cases z), h2, FzK.cln kk h3 (by simpa [cln] using n)⟩
  | .dix ds, v, h, n => by
    obtain ⟨a, o, vs, rfl, h1, h2, h3⟩ := fz_dix.mp h
    exact fz_dix.mpr ⟨a, o, vs, rfl, kk _ _ h1 (fun _ z => by cases z), h2, FzN.cln kk h3 (by simpa [cln] using n)⟩
  | .ins c ds, v, h, n => by
    obtain ⟨a, dx, vs, rfl, h1, h2, h3⟩ := fz_ins.mp h
    exact fz_ins.mpr ⟨a, dx, vs, rfl, kk _ _ h1 (fun _ z => by cases z), h2, FzL.cln kk h3 (by simpa [cln] using n)⟩
  | .olst _, v, h, _ => by simp [Fz] at h
  | .odic _, v, h, _ => by simp [Fz] at h
  | .odix _, v, h, _ => by simp [Fz] at h
  | .oins _ _ _, v, h, _ => by simp [Fz] at h
  | .loc _, v, h, n => by simp [cln] at n
  | .exn _ _, v, h, n => by simp [cln] at n
  | .fn _, v, h, n => by simp [cln] at n
  | .otbl _, v, h, n => by simp [Fz] at h
  | .otup _, v, h, n => by simp [Fz] at h
theorem FzL.cln (kk : ToG G G2) : ∀ {ds : List D} {vs : List V}, FzL w G ds vs → clnL ds = true → FzL w G2 ds vs
  | [], vs, h, _ => fzl_nil.mpr (fzl_nil.mp h)
  | d :: ds, vs, h, n => by
    obtain ⟨v, r, rfl, h1, h2⟩ := fzl_cons.mp h
    have n' : cln d = true ∧ clnL ds = true := by simpa [clnL] using n
    exact fzl_cons.mpr ⟨v, r, rfl, Fz.cln kk h1 n'.1, FzL.cln kk h2 n'.2⟩
theorem FzK.cln (kk : ToG G G2) : ∀ {ds : List (D × D)} {ks : List (Key × V)}, FzK w G ds ks → clnK ds = true → FzK w G2 ds ks
  | [], vs, h, _ => fzk_nil.mpr (fzk_nil.mp h)
  | (k, d) :: ds, vs, h, n => by
    obtain ⟨key, v, r, rfl, h0, h1, h2⟩ := fzk_cons.mp h
    have n' : cln k = true ∧ cln d = true ∧ clnK ds = true := by simpa [clnK] using n
    exact fzk_cons.mpr ⟨key, v, r, rfl, h0, Fz.cln kk h1 n'.2.1, FzK.cln kk h2 n'.2.2⟩
theorem FzN.cln (kk : ToG G G2) : ∀ {ds : List (D × D)} {ks : List (NestedKey × Addr × V)}, FzN w G ds ks → clnK ds = true → FzN w G2 ds ks
  | [], vs, h, _ => fzn_nil.mpr (fzn_nil.mp h)
  | (k, d) :: ds, vs, h, n => by
    obtain ⟨key, a, v, r, rfl, h0, hd, hk, h1, h2⟩ := fzn_cons.mp h
    have n' : cln k = true ∧ cln d = true ∧ clnK ds = true := by simpa [clnK] using n
    exact fzn_cons.mpr ⟨key, a, v, r, rfl, h0, hd, Fz.cln kk hk n'.1, Fz.cln kk h1 n'.2.1, FzN.cln kk h2 n'.2.2⟩
end
end
def clnF : D → Bool
  | .odix kvs => (kvs.all fun p => isF p.2) && clnK kvs
  | d => isF d && cln d
theorem Own.cln {w : Wd} {G G2 : Gs} {H : Hp} (k : ToG G G2) {d : D} {v : V} {l : List Addr} (h : Own w G H d v l) (c : clnF d = true) : Own w G2 H d v l := by
  have fin : ∀ {d : D}, (isF d && Vm.cln d) = true → Own w G H d v l → Own w G2 H d v l := fun {d} c h => by
    rw [Bool.and_eq_true] at c
    obtain ⟨h1, h2⟩ := (own_fz c.1).mp h
    exact (own_fz c.1).mpr ⟨h1.cln k c.2, h2⟩
  unfold clnF at c
  split at c
  · rename_i kvs
    rw [Bool.and_eq_true] at c
    obtain ⟨a, es, l', rfl, k1, k2, k3, rfl⟩ := own_odix.mp h
    obtain ⟨z, rfl⟩ := k3.fz c.1
    exact own_odix.mpr ⟨a, es, [], rfl, k1, k2, (z.cln k c.2).own, rfl⟩
  · exact fin c h
theorem OwnL.cln {w : Wd} {G G2 : Gs} {H : Hp} (k : ToG G G2) : ∀ {ds : List D} {vs : List V} {l : List Addr}, OwnL w G H ds vs l → ds.all clnF = true → OwnL w G2 H ds vs l
  | [], _, _, h, _ => ownl_nil.mpr (ownl_nil.mp h)
  | d :: ds, _, _, h, c => by
    obtain ⟨v, r, l1, l2, rfl, h1, h2, rfl⟩ := ownl_cons.mp h
    rw [List.all_cons, Bool.and_eq_true] at c
    exact ownl_cons.mpr ⟨v, r, l1, l2, rfl, h1.cln k c.1, OwnL.cln k h2 c.2, rfl⟩
def gotF (b b' : Bs) : Hp := fun a => match b.H a with
  | some _ => b.G.F a
  | none => b'.G.F a
def Bs.gotF (b b' : Bs) : Bs := ⟨⟨Vm.gotF b b', b.G.ρ⟩, b'.H, b.o⟩
theorem gotF_old {b b' : Bs} {a : Addr} {u : HO} (h : b.H a = some u) : gotF b b' a = b.G.F a := by
  unfold gotF
  rw [h]
theorem gotF_new {b b' : Bs} {a : Addr} (h : b.H a = none) : gotF b b' a = b'.G.F a := by
  unfold gotF
  rw [h]
section
variable {w : Wd} {b b' : Bs} {σ : L2.St} {e : En} {s : Bool}
theorem Gr.gotF (S : Sat w b σ e) (g : Gr false b.lent b') : Gr s b (b.gotF b') where
  g := ⟨fun a u h => by
    show Vm.gotF b b' a = some u
    rw [gotF_old (S.ex a u h)]
    exact h, fun _ _ h => h⟩
  k := fun a u h _ => g.k a u h (keeps_no lent_own)
  n := fun a h => by
    cases hb : b.H a with
    | none => exact .inr (.inr rfl)
    | some u =>
      refine .inl fun z => h ?_
      show Vm.gotF b b' a = none
      rw [gotF_old hb]
      exact z
  p := fun a h => .inl h
  q := fun _ n a h => .inl ⟨n, h⟩
  h := g.h
theorem Sat.gotF {w' : Wd} {σ' : L2.St} {e' : En} (S : Sat w b σ e) (g : Gr false b.lent b') (S' : Sat w' b' σ' e') : Sat w (b.gotF b') σ e :=
  S.grow (Gr.gotF (s := true) S g).g (fun _ => rfl) rfl (fun a u h => by
    have h : Vm.gotF b b' a = some u := h
    cases hb : b.H a with
    | none =>
      rw [gotF_new hb] at h
      exact S'.ex a u h
    | some u0 =>
      rw [gotF_old hb] at h
      exact g.k a u (S.ex a u h) (keeps_no lent_own)) (fun a u _ h => g.k a u h (keeps_no lent_own)) fun a h => by
    obtain ⟨h1, u, h2⟩ := S.there h
    show Vm.gotF b b' a = none
    rw [gotF_old h2]
    exact h1
end
def eMakeL (c nf : Nat) (q : IF) (ar : LM) : EM := fun e => (ar e).bind fun ds e1 => match lendL ds with
  | some ds' => if okMu e1 ds' then (match q ds' with
    | some fs => if fs.all clnF then (match frzTL fs with
      | some fs' => if fs'.length = nf then .ok (.ins c fs') e1 else .stuck
      | none => .stuck) else .stuck
    | none => .stuck) else .stuck
  | none => .stuck
section
variable {X : Cx} {W : Wx} {w : Wd} {pos p : Pos} {x : Str} {a : Expr} {es : List Expr} {ar : LM} {k c nf : Nat} {q : IF}
end
end Vm

set_option maxHeartbeats 1000000
namespace Vm
open PySem L2 PyProof.Rows
def dsd (x : Str) : PyData := .tuple [.dict [], .str x, .dict []]
def dReprT : D → Option D := fun d => match d with
  | .tup [.dic [], .str x, .dic []] => if (dsd x).shown.length ≤ 1000000 ∧ PyData.strOk (dsd x).shown = true then some (.str (dsd x).shown) else none
  | d => dRepr d
def rRepT (X : Cx) : List V → Hp → VK → Prop := fun xs H Q => rRep X xs H Q ∨
  ∃ a a1 o1 a2 o2 x, xs = [.ref a] ∧ H a = some (.tup [.ref a1, .str x, .ref a2]) ∧ H a1 = some (.frz o1 (.dK [])) ∧ H a2 = some (.frz o2 (.dK [])) ∧ (dsd x).shown.length ≤ 1000000 ∧ Q (.str (dsd x).shown) H
section
variable {X : Cx} {W : Wx} {s : Bool} {w : Wd} {pos p : Pos} {a : Expr} {fa : EM}
end
end Vm

set_option maxHeartbeats 1000000
namespace VmX
open PySem L2 PyProof.Rows
section
variable {X : Cx} {CX : CXT} {k : Nat} {f : Addr} {fd : FuncData} {ps : List Str} {sp : Sp} {E : L2.St → XK} {x : Str} {p pos : Pos}
end
end VmX
namespace Vm
open PySem L2 PyProof.Rows
section
variable {w : Wd} {b b0 b' : Bs} {σ : L2.St} {e : En} {a : Addr} {u : HO} {s : Bool}
end
section
variable {X : Cx} {W : Wx} {s : Bool} {w : Wd} {pos p : Pos} {x : Str} {F : FV} {k : Nat}
end
end Vm

set_option maxHeartbeats 1000000
namespace Vm
open PySem L2
def strD? : D → Option Str
  | .str a => some a
  | _ => none
def strL? : List D → Option (List Str)
  | [] => some []
  | d :: ds => (strD? d).bind fun a => (strL? ds).map (a :: ·)
def dSplit : D → D → Option D := fun x y => match x, y with
  | .str a, .str b => if (b.length == 0) = false ∧ a.length + 2 ≤ LIM ∧ (Txt.split a b).length ≤ LIM ∧ (Txt.split a b).all PyData.strOk = true then some (.olst ((Txt.split a b).map .str)) else none
  | _, _ => none
def dJoin : D → D → Option D := fun x y => match x with
  | .str a => (match y with
    | .lst ds => some ds
    | .tup ds => some ds
    | _ => none).bind fun ds => (strL? ds).bind fun ys => if (ys.map Str.length).sum + ys.length * a.length ≤ LIM ∧ PyData.strOk (Txt.join a ys) = true then some (.str (Txt.join a ys)) else none
  | _ => none
def dRstrip : D → D → Option D := fun x y => match x, y with
  | .str a, .str b => if a.length ≤ LIM ∧ PyData.strOk (Txt.rstripChars a b) = true then some (.str (Txt.rstripChars a b)) else none
  | _, _ => none
def isStr : D → Bool
  | .str _ => true
  | _ => false
section
variable {w : Wd} {b : Bs} {G : Gs}
end
section
variable {X : Cx} {W : Wx} {s : Bool} {w : Wd} {pos apos p2 : Pos} {x i c : Expr} {fx fi fa fb : EM}
def eStarL (fa fb : EM) : EM := fun e => (fa e).bind fun x e1 => (fb e1).bind fun y e2 => match fitems? y with
  | some ys => lift (mkLst (x :: ys)) e2
  | none => .stuck
end
end Vm

set_option maxHeartbeats 1000000
namespace Vm
open PySem L2 PyProof.Rows VmS
def dDcl : D → Option D
  | .olst rs => (strL? rs).bind fun ss => if ss.Nodup ∧ ss.length ≤ 1000 then some (.odic (ss.map fun k => (.str k, .olst []))) else none
  | _ => none
structure LsOk (b0 b : Bs) (A : Addr) (L : List Str) (kvs : List (Key × V)) (la : List Addr) : Prop where
  k : kvs = (L.zip la).map fun p => (Sum.inr p.1, V.ref p.2)
  l : L.length = la.length
  n : (A :: la).Nodup
  h : ∀ a ∈ la, b.H a = some (.lst []) ∧ b.G.F a = none ∧ ¬ b.own a
  o : ∀ x ∈ L, PyData.strOk x = true
  f : ∀ a ∈ la, b0.H a = none
section
variable {W : Wx} {s : Bool} {w : Wd} {it : LM} {g : GM} {tt : TM} {te : EM} {vs : List Nat}
end
section
variable {X : Cx} {W : Wx} {s : Bool} {w : Wd} {pos lp : Pos} {kx tg iter : Expr} {ifs : List Expr} {scope : Scope} {it : LM} {g : GM} {tt : TM} {te : EM}
end
end Vm

set_option maxHeartbeats 1000000
namespace Vm
open PySem L2 PyProof.Rows VmS
def eKV (fk fv : EM) : EM := fun e => (fk e).bind fun y e1 => (fv e1).bind fun z e2 => .ok (.tup [y, z]) e2
def kv1? : D → Option (Str × D)
  | .tup [.str x, z] => if isF z then some (x, z) else none
  | _ => none
def kv? : List D → Option (List (Str × D))
  | [] => some []
  | d :: ds => (kv1? d).bind fun a => (kv? ds).map (a :: ·)
def kvT (p : Str × D) : D := .tup [.str p.1, p.2]
def kvD (p : Str × D) : D × D := (.str p.1, p.2)
def dDcz : D → Option D
  | .olst rs => (kv? rs).bind fun ps => if (ps.map (·.1)).Nodup ∧ ps.length ≤ 1000 then some (.odic (ps.map kvD)) else none
  | _ => none
theorem FzK.snoc {w : Wd} {G : Gs} {k d : D} {key : Key} {v : V} (hk : dkey k = some key) (z : Fz w G d v) : ∀ {ds : List (D × D)} {ks : List (Key × V)}, FzK w G ds ks → FzK w G (ds ++ [(k, d)]) (ks ++ [(key, v)])
  | [], ks, h => by
    rw [fzk_nil.mp h]
    exact fzk_cons.mpr ⟨key, v, [], rfl, hk, z, fzk_nil.mpr rfl⟩
  | (k2, d2) :: ds, ks, h => by
    obtain ⟨key2, v2, t, rfl, h1, h2, h3⟩ := fzk_cons.mp h
    exact fzk_cons.mpr ⟨key2, v2, _, rfl, h1, h2, FzK.snoc hk z h3⟩
section
variable {W : Wx} {s : Bool} {w : Wd} {it : LM} {g : GM} {tt : TM} {fk fv : EM} {vs : List Nat}
end
section
variable {X : Cx} {W : Wx} {s : Bool} {w : Wd} {pos : Pos} {kx vx tg iter : Expr} {ifs : List Expr} {scope : Scope} {it : LM} {g : GM} {tt : TM} {fk fv : EM}
end
end Vm

set_option maxHeartbeats 1000000
namespace Vm
open PySem L2
def cel (d : D) (e : En) : Option (Nat × D) := match d with
  | .loc n => (e.at (.m n)).map fun x => (n, x)
  | _ => none
section
variable {w : Wd} {W : Wx} {σ : L2.St} {b b0 : Bs} {e : En} {n : Nat} {d x : D} {v : V}
theorem cel_some (h : cel x e = some (n, d)) : x = .loc n ∧ e.at (.m n) = some d := by
  unfold cel at h
  split at h
  · rename_i m
    obtain ⟨d', h1, h2⟩ := Option.map_eq_some_iff.mp h
    cases h2
    exact ⟨rfl, h1⟩
  · cases h
theorem Sat.cell (S : Sat w b σ e) (h : cel x e = some (n, d)) (z : Fz w b.G x v) : ∃ a, v = .ref a ∧ rootV b σ (.m n) = some (.ref a) ∧ e.at (.m n) = some d ∧ Own w b.G b.H d (.ref a) (b.o (.m n)) := by
  obtain ⟨rfl, h1⟩ := cel_some h
  obtain ⟨a, rfl, hr⟩ := fz_loc.mp z
  obtain ⟨v', m1, m2⟩ := S.sl (.m n) d h1
  have m1' : (b.G.ρ n).map V.ref = some v' := m1
  rw [hr] at m1'
  cases m1'
  exact ⟨a, rfl, m1, h1, m2⟩
theorem Sat.cellL {ds : List D} (S : Sat w b σ e) (h : cel x e = some (n, .olst ds)) (z : Fz w b.G x v) : ∃ a vs l, v = .ref a ∧ rootV b σ (.m n) = some (.ref a) ∧ e.at (.m n) = some (.olst ds) ∧ b.o (.m n) = a :: l ∧ b.H a = some (.lst vs) ∧ ds.length ≤ sizeLine ∧ OwnL w b.G b.H ds vs l := by
  obtain ⟨a, rfl, h1, h2, h3⟩ := S.cell h z
  obtain ⟨a', vs, l', e1, k1, k2, k3, k4⟩ := own_olst.mp h3
  cases e1
  exact ⟨a, vs, l', rfl, h1, h2, k4, k1, k2, k3⟩
end
def eCell (f : EM) : EM := fun e => (f e).bind fun d e1 => if isF d then .stuck else .ok (.loc e1.mu.length) ⟨e1.sl, e1.mu ++ [some d]⟩
def eFldC (c j : Nat) (fo : EM) : EM := fun e => (fo e).bind fun x e1 => match cel x e1 with
  | some (_, .oins c' _ ds) => if c' = c then lift ((ds[j]?).bind fun d => if isF d then some d else none) e1 else .stuck
  | _ => .stuck
def eIxC (fo : EM) (k : Int) : EM := fun e => (fo e).bind fun x e1 => match cel x e1 with
  | some (_, .olst ds) => lift ((atI ds k).bind fun d => if isF d then some d else none) e1
  | _ => .stuck
def ePopC (fo : EM) : EM := fun e => (fo e).bind fun x e1 => match cel x e1 with
  | some (n, .olst ds) => match ds.getLast? with
    | some d => if ds.all isF then .ok d (e1.put (.m n) (some (.olst ds.dropLast))) else .stuck
    | none => .stuck
  | _ => .stuck
def eListC (fo : EM) : EM := fun e => (fo e).bind fun x e1 => match cel x e1 with
  | some (_, .olst ds) => if ds.all isF then .ok (.olst ds) e1 else .stuck
  | _ => .stuck
def eLenC (fo : EM) : EM := fun e => (fo e).bind fun x e1 => match cel x e1 with
  | some (_, .olst ds) => .ok (.int ds.length) e1
  | _ => .stuck
section
variable {X : Cx} {W : Wx} {s : Bool} {w : Wd} {pos p ap cp apos : Pos} {x ob a : Expr} {es : List Expr} {f fo fv : EM} {ar : LM} {F : FV} {m : Str} {k c : Nat}
theorem zCell (h : PE X x (tV w W false f)) : PE X x (tZ w W false (eCell f)) := h.imp fun σ H Q ⟨b, e, he, S, h⟩ => by
  subst he
  refine ⟨b, e, rfl, S, ?_⟩
  unfold eCell at h
  cases hf : f e with
  | stuck => rw [hf] at h; exact h
  | exc c x e1 => rw [hf] at h; exact h
  | ok d e1 =>
    rw [hf] at h
    intro b1 g1 S1 v t
    have h1 : PR w W false σ b (if isF d = true then .stuck else .ok (.loc e1.mu.length) ⟨e1.sl, e1.mu ++ [some d]⟩) fun d b' _ => ∀ v, Fz w b'.G d v → Q v b'.H := h
    by_cases hF : isF d = true
    · rw [if_pos hF] at h1
      exact h1.elim
    · rw [if_neg hF] at h1
      obtain ⟨l, t1, _⟩ := id t
      obtain ⟨a, rfl⟩ := t1.ref (by simpa using hF)
      obtain ⟨b2, q1, q2, q3, q4⟩ := S1.alloc g1 t
      rw [← q1]
      exact h1 b2 q2 q3 _ q4
end
end Vm

set_option maxHeartbeats 1000000
namespace Vm
open PySem L2
def eMethC (c : Nat) (F : FV) (fo : EM) (ar : LM) : EM := fun e => (fo e).bind fun d e1 => match cel d e1 with
  | some (_, .oins c' _ _) => if c' = c then (ar e1).bind fun as e2 => callF F (d :: as) e2 else .stuck
  | _ => .stuck
def sFldC (c j : Nat) (fo fv : EM) : SM := fun e => ofE (fv e) fun d e1 => ofE (fo e1) fun x e2 => match cel x e2 with
  | some (n, .oins c' t ds) => if c' = c ∧ j < ds.length then .nx (e2.put (.m n) (some (.oins c' t (ds.set j d)))) else .stuck
  | _ => .stuck
def sAppC (fo fv : EM) : SM := fun e => ofE (fo e) fun x e1 => match cel x e1 with
  | some (_, .olst _) => ofE (fv e1) fun d e2 => (match cel x e2 with
    | some (n, .olst ds) => if ds.length < LIM then .nx (e2.put (.m n) (some (.olst (ds ++ [d])))) else .stuck
    | _ => .stuck)
  | _ => .stuck
def isCI (c : Nat) (ns : List Nat) (c' : Nat) : Option D := if c' = c then some (.bl true) else if ns.contains c' = true then some (.bl false) else none
def dIsCI (c : Nat) (ns : List Nat) : D → Option D
  | .ins c' _ => isCI c ns c'
  | .loc _ => none
  | .exn _ _ => none
  | .fn _ => none
  | d => if isF d then dIsC c d else none
def eIsCC (c : Nat) (ns : List Nat) (fa : EM) : EM := fun e => (fa e).bind fun d e1 => match cel d e1 with
  | some (_, .oins c' _ _) => lift (isCI c ns c') e1
  | _ => lift (dIsCI c ns d) e1
def gTC (n : Nat) (h : List D → En → Option En) : GM := fun d e => match cel d e with
  | some (_, .olst ds) => if ds.length = n ∧ ds.all isF = true then h ds e else none
  | _ => none
section
variable {X : Cx} {W : Wx} {s : Bool} {w : Wd} {pos p ap cp apos : Pos} {x ob a tg : Expr} {es : List Expr} {f fo fv fa : EM} {ar : LM} {F : FV} {m : Str} {k c : Nat}
end
end Vm

set_option maxHeartbeats 1000000
namespace Vm
open PySem L2
section
variable {w : Wd} {W : Wx} {σ : L2.St} {b b0 : Bs} {e : En} {n : Nat} {x : D}
end
def gFldC (c j : Nat) (fo : EM) : GM := fun d e => match fo e with
  | .ok x e1 => match cel x e1 with
    | some (n, .oins c' t ds) => if c' = c ∧ j < ds.length then some (e1.put (.m n) (some (.oins c' t (ds.set j d)))) else none
    | _ => none
  | _ => none
section
variable {X : Cx} {W : Wx} {s : Bool} {w : Wd} {pos p ap cp apos pos' : Pos} {x ob a tg : Expr} {es : List Expr} {f fo fv fa : EM} {k c : Nat}
theorem zAppC (hx : PE X x (tZ w W false fv)) (ho : PE X ob (tZ w W false fo)) 
    (hs : starEach [x] X.env = (false, eval x X.env) :: starEach [] X.env := by rfl)
    (hbase : attributeBase ob "append" X.env (eval ob X.env) = eval ob X.env := by rfl)
    (hfew : ((backTo cp (starEach [x] X.env)).all (fun x => !x.1) && (backToKw cp (keywordEach [] X.env)).all (fun x => x.1.isSome)
      && decide ([x].length + ([] : List Keyword).length + (if ([] : List Keyword).isEmpty then 0 else 1) < 30)) = true := by rfl)
    (hline : (ap.endLine == cp.line) = true := by rfl) (hsw : swapsWith (.Call (.Attribute ob "append" ap) [x] [] cp) none pos.line X.env = pure false := by rfl) :
    PS X (.Expr (.Call (.Attribute ob "append" ap) [x] [] cp) pos) (tS w W (sAppC fo fv)) :=
  (ps_expr (pe_bm PySem.F.plainAttrs_list PySem.F.slot_list_append PySem.F.type_list_append mt_append ho (pa_cons hx pa_nil hs) hbase hfew hline hs rfl) hsw).imp fun D σ H ⟨b, e, he, S, h⟩ => by
  subst he
  refine ⟨b, e, rfl, S, (SR.ofE h).mono fun y b1 e1 g1 S1 h1 vy zy => ?_⟩
  split at h1
  · rename_i n0 ds0 h00
    obtain ⟨a0, vs0, l0, rfl, _, _, _, k5, _, _⟩ := S1.cellL h00 zy
    refine ⟨.inl ⟨rfl, vs0, SqL.of k5⟩, b1, e1, rfl, S1, (SR.ofE h1).mono fun d b2 e2 g2 S2 h2 v z => ?_⟩
    split at h2
    · rename_i n ds h0
      split at h2
      · rename_i hl
        obtain ⟨a', vs, l, hv, k2, k3, k4, k5, k6, k7⟩ := S2.cellL h0 (zy.mono g2.g)
        cases hv
        have hnd := S2.nd (.m n)
        rw [k4] at hnd
        obtain ⟨b3, q1, q2, q3⟩ := S2.mutL (ds' := ds ++ [d]) (vs' := vs ++ [v]) (l' := l ++ []) (Gr.refl b2) k3 k2 k4 k5 (by rw [List.length_append]; exact lim_size (show ds.length + 1 ≤ LIM from hl))
          (k7.append (ownl_cons.mpr ⟨v, [], [], [], rfl, z.own, ownl_nil.mpr ⟨rfl, rfl⟩, rfl⟩)) (by rw [List.append_nil]; exact (List.nodup_cons.mp hnd).2) (fun c hc => .inl (by simpa using hc))
        refine ⟨a0, vs, v, rfl, rfl, k5, ?_, ?_⟩
        · rw [k7.length]
          exact Nat.lt_of_lt_of_le hl (lim_size (Nat.le_refl _))
        · rw [← q1]
          exact h2 b3 σ q2 q3
      · exact h2.elim
    · exact h2.elim
  · exact h1.elim
end
end Vm

set_option maxHeartbeats 1000000
namespace Vm
open PySem L2
def first? : D → Option D
  | .tup [d, _] => if isF d then some d else none
  | _ => none
def firsts : List D → Option (List D)
  | [] => some []
  | x :: r => (first? x).bind fun d => (firsts r).map (d :: ·)
def eLogC (fo : EM) : EM := fun e => (fo e).bind fun x e1 => match cel x e1 with
  | some (_, .olst ds) => lift (if ds.length ≤ LIM then (firsts ds).map D.olst else none) e1
  | _ => .stuck
section
variable {X : Cx} {W : Wx} {s : Bool} {w : Wd} {pos : Pos} {tg elt iter : Expr} {scope : Scope} {fo : EM}
end
end Vm

set_option maxHeartbeats 1000000
namespace Vm
open PySem L2
def rEqE (K : PySem.W.Frag) : R2 := fun x y H Q => ∃ a b xs, x = .ref a ∧ y = .ref b ∧ SqL K H a xs ∧ SqL K H b [] ∧ Q (.bl xs.isEmpty) H
def eNilC (fo : EM) : EM := fun e => (fo e).bind fun x e1 => match cel x e1 with
  | some (_, .olst ds) => .ok (.bl ds.isEmpty) e1
  | _ => .stuck
section
variable {X : Cx} {W : Wx} {s : Bool} {w : Wd} {pos p2 : Pos} {a : Expr} {fo : EM}
end
end Vm

set_option maxHeartbeats 1000000
namespace Vm
open PySem L2 PyProof.Rows
def sAppK (i : Nat) (fk fx : EM) : SM := fun e => match e.sl[i]? with
  | some (some (.odic _)) => ofE (fk e) fun y e1 => match e1.sl[i]?, dkey y with
    | some (some (.odic kvs)), some _ => (match lkD kvs y with
      | some (.olst _) => sdTail i fx y e1
      | _ => .stuck)
    | _, _ => .stuck
  | _ => .stuck
section
variable {X : Cx} {W : Wx} {s : Bool} {w : Wd} {pos p p2 ap cp : Pos} {x c : Expr} {fk fx : EM}
end
end Vm

set_option maxHeartbeats 1000000
namespace Vm
open PySem L2 PyProof.Rows
structure RolC (K : PySem.W.Frag) (mg : Str → Option Value) (x : Str) (ss : List Str) : Prop where
  ex : ∃ a, mg x = some (.ref a) ∧ ∃ (o : Obj) (its : Array Value) (n : Nat), K.lookup a = some o ∧ o.cls = .type "list" ∧ o.dict = none ∧ o.data = .seq its n ∧ its.size ≤ sizeLine ∧ Vals (ss.map V.str) its.toList
section
variable {X : Cx} {W : Wx} {s : Bool} {w : Wd} {pos apos : Pos} {x ix : Expr} {f fa : EM}
def isRol : D → Bool
  | .rol _ => true
  | _ => false
def dIndexR : D → D → Option D := fun x y => match x, y with
  | .rol ds, .str q => match strs? ds with
    | some ns => (firstEq (.str q) (ns.map .str) 0).map fun j => .int (j : Nat)
    | none => none
  | _, _ => none
end
end Vm

set_option maxHeartbeats 1000000
namespace VmH
open PySem PySem.Spec PyProof.Rows L2 He
theorem vals_strs : ∀ {ss : List Str} {its : List Value}, (its.map fun v => match v with
    | .str a _ => some a
    | _ => none) = ss.map some → Vals (ss.map V.str) its
  | [], [], _ => .nil
  | a :: ss, v :: its, h => by
    simp only [List.map_cons, List.cons.injEq] at h
    obtain ⟨h1, h2⟩ := h
    have ih := vals_strs h2
    cases v <;> try cases h1
    exact .cons ⟨_, rfl⟩ ih
  | [], _ :: _, h => by simp at h
  | _ :: _, [], h => by simp at h
end VmH

set_option maxHeartbeats 1000000
namespace Vm
open PySem PySem.Spec PyProof.Rows L2
section
variable {X : Cx} {W : Wx} {w : Wd} {body : List Stmt} {hds : List ExceptHandler} {pos : Pos} {bd : SM}
end
end Vm

set_option maxHeartbeats 1000000
namespace Vm
open PySem PySem.Spec PyProof.Rows L2
def wTup (K : PySem.W.Frag) (D : Ends) (c1 c2 : Value) (ts : Addr → Value → Option Addr → TS) : WX := fun cls d σ H => PySem.W.exmAny K cls [c1, c2] = some true ∧ ∀ a, H a = none → ts a cls d D σ H
section
variable {X : Cx} {body suite : List Stmt} {b₀ : Stmt} {x1 x2 : Str} {c1 c2 : Value} {kk : Nat} {p1 p2 tpos pos pos' : Pos} {tb : WX → TS} {ts : Addr → Value → Option Addr → TS}
end
end Vm

set_option maxHeartbeats 1000000
namespace Vm
open PySem PySem.Spec PyProof.Rows L2
def sTryT (es : List Nat) (bd su : SM) : SM := fun e => match bd e with
  | .exc c _ e1 => if es.contains c = true then su e1 else .stuck
  | r => r
section
variable {X : Cx} {W : Wx} {w : Wd} {body suite : List Stmt} {b₀ : Stmt} {x1 x2 : Str} {h1 h2 : Addr} {kk : Nat} {p1 p2 tpos pos pos' : Pos} {bd su : SM} {es : List Nat}
end
end Vm

set_option maxHeartbeats 1000000
namespace L2
open PySem PySem.Spec PyProof.Rows
section
variable {X : Cx}
theorem pmk_own0 {C : Addr} {bmB : List Value} {B newId initId : String} {x : Str} {p pos : Pos} (F : ExcBaseFacts B newId initId bmB) (q : PySem.W.excIn X.K C bmB newId = true) (gC : X.mg x = some (.ref C)) (kC : PySem.W.keepIn X.K (.ref C) = true) (r : Raises X (.ref C)) (hg : Gl X x)
    (hdb : (x == ("__debug__" : Str)) = false := by decide) : PMk X (.Call (.Name x p) [] [] pos) (fun σ H Q => Q (.ref C) none H) := by
  intro pins s σ H Q I h
  refine wpAny_Call_Name_kw (ld_glob I hg gC ?_ hdb)
  refine PySem.W.callWith_K0 I.kIn kC ?_
  show wpAny _ _ (call (.ref C) []) _ _ _
  obtain ⟨bm, N, nm, qn, bs, hdct, sn, sub, ab, col, dd, k0, k1, k2, k3, k5, mN, hC, hN, hni, T⟩ := exc_obj I.kIn q
  refine wpAny_call_exc_subT F T hC hN hni (fun h' e hm => ?_) (Nat.zero_le _)
  exact mk_of I hm r h (I.hok.gone hm.new)
end
end L2
namespace Vm
open PySem L2
structure ExN0 (K : PySem.W.Frag) (C : Addr) : Prop where
  i : PySem.W.excIn K C [.type "ValueError", .type "Exception", .type "BaseException", .type "object"] "ValueError.__new__" = true
  k : PySem.W.keepIn K (.ref C) = true
  s : PySem.W.subIn K (.ref C) (.type "BaseException") = some true
  t : PySem.W.typeIn K (.ref C) = some (.type "type")
def sRaise0 (c : Nat) : SM := fun e => .exc c none e
section
variable {X : Cx} {w : Wd} {W : WX} {p pos pos' : Pos} {x : Str}
end
section
variable {X : Cx} {W : Wx} {w : Wd} {body suite : List Stmt} {b₀ : Stmt} {x : Str} {h1 : Addr} {np pos pos' : Pos} {bd su : SM} {es : List Nat}
end
end Vm

set_option maxHeartbeats 1000000
namespace Vm
open PySem L2 PyProof.Rows
def mkQ (c nf : Nat) (q : IF) : PF := fun ds => match q ds with
  | some fs => if fs.length = nf ∧ (frzTL fs).isSome = true then .ok (.oins c false fs) else .stuck
  | none => .stuck
theorem Sat.allocX {w : Wd} {b b0 : Bs} {σ : L2.St} {e : En} {d : D} {a : Addr} {l : List Addr} (S : Sat w b σ e) (g : Gr false b0 b) (t1 : Own w b.G b.H d (.ref a) l) (t2 : l.Nodup) (t3 : ∀ a ∈ l, b.G.F a = none ∧ ¬ b.own a ∧ (b0.H a = none ∨ b0.own a)) : ∃ b', b' = b.cell e.mu.length a l ∧ Gr false b0 b' ∧ Sat w b' σ ⟨e.sl, e.mu ++ [some d]⟩ ∧ Fz w b'.G (.loc e.mu.length) (.ref a) := by
  have hn : b.G.ρ e.mu.length = none := (S.lm _).mpr (Nat.le_refl _)
  have hle : b.G.le (b.cell e.mu.length a l).G := ⟨fun _ _ h => h, fun m c h => by
    show (if m = e.mu.length then some a else b.G.ρ m) = some c
    rw [if_neg (fun z => by rw [z, hn] at h; cases h)]
    exact h⟩
  have os : ∀ y, y ≠ .m e.mu.length → (b.cell e.mu.length a l).o y = b.o y := fun y h => if_neg h
  have on : (b.cell e.mu.length a l).o (.m e.mu.length) = l := if_pos rfl
  have none_o : b.o (.m e.mu.length) = [] := S.em _ (by show (e.mu[e.mu.length]?).getD none = none; simp)
  have sub : ∀ y c, c ∈ (b.cell e.mu.length a l).o y → (y = .m e.mu.length ∧ c ∈ l) ∨ (y ≠ .m e.mu.length ∧ c ∈ b.o y) := fun y c h => by
    by_cases hy : y = .m e.mu.length
    · subst hy
      rw [on] at h
      exact .inl ⟨rfl, h⟩
    · rw [os y hy] at h
      exact .inr ⟨hy, h⟩
  refine ⟨b.cell e.mu.length a l, rfl, ⟨g.g.trans hle, g.k, g.n, fun c ⟨y, h⟩ => ?_, (fun h => by cases h), g.h⟩, ⟨S.ex, S.le, fun m => ?_, fun y d' h => ?_, fun y h => ?_, fun y z c h1 h2 => ?_, fun y => ?_, fun y c h => ?_⟩, ?_⟩
  · rcases sub y c h with ⟨_, z⟩ | ⟨_, z⟩
    · exact (t3 c z).2.2.symm
    · exact g.p c ⟨y, z⟩
  · show (if m = e.mu.length then some a else b.G.ρ m) = none ↔ (e.mu ++ [some d]).length ≤ m
    rw [List.length_append]
    by_cases hm : m = e.mu.length
    · subst hm
      rw [if_pos rfl]
      simp
    · rw [if_neg hm, S.lm m]
      simp
      omega
  · by_cases hy : y = .m e.mu.length
    · subst hy
      have h' : ((e.mu ++ [some d])[e.mu.length]?).getD none = some d' := h
      rw [List.getElem?_append_right (Nat.le_refl _)] at h'
      simp at h'
      subst h'
      refine ⟨.ref a, ?_, ?_⟩
      · show (if e.mu.length = e.mu.length then some a else b.G.ρ e.mu.length).map V.ref = _
        rw [if_pos rfl]
        rfl
      · rw [on]
        exact t1.keep hle fun _ _ _ h => h
    · have h' : e.at y = some d' := by
        cases y with
        | s i => exact h
        | m k =>
          have hk : k ≠ e.mu.length := fun z => hy (by rw [z])
          have h2 : ((e.mu ++ [some d])[k]?).getD none = some d' := h
          show (e.mu[k]?).getD none = some d'
          by_cases hlt : k < e.mu.length
          · rw [List.getElem?_append_left hlt] at h2
            exact h2
          · rw [List.getElem?_eq_none (by rw [List.length_append]; simp; omega)] at h2
            cases h2
      obtain ⟨v, k1, k2⟩ := S.sl y d' h'
      refine ⟨v, ?_, ?_⟩
      · cases y with
        | s i => exact k1
        | m k =>
          have hk : k ≠ e.mu.length := fun z => hy (by rw [z])
          show (if k = e.mu.length then some a else b.G.ρ k).map V.ref = some v
          rw [if_neg hk]
          exact k1
      · rw [os y hy]
        exact k2.keep hle fun _ _ _ h => h
  · by_cases hy : y = .m e.mu.length
    · subst hy
      have h' : ((e.mu ++ [some d])[e.mu.length]?).getD none = none := h
      rw [List.getElem?_append_right (Nat.le_refl _)] at h'
      simp at h'
    · rw [os y hy]
      cases y with
      | s i => exact S.em (.s i) h
      | m k =>
        have hk : k ≠ e.mu.length := fun z => hy (by rw [z])
        refine S.em (.m k) ?_
        have h2 : ((e.mu ++ [some d])[k]?).getD none = none := h
        show (e.mu[k]?).getD none = none
        by_cases hlt : k < e.mu.length
        · rw [List.getElem?_append_left hlt] at h2
          exact h2
        · rw [List.getElem?_eq_none (by omega)]
          rfl
  · rcases sub y c h1 with ⟨rfl, k1⟩ | ⟨n1, k1⟩
    · rcases sub z c h2 with ⟨rfl, k2⟩ | ⟨n2, k2⟩
      · rfl
      · exact absurd ⟨z, k2⟩ (t3 c k1).2.1
    · rcases sub z c h2 with ⟨rfl, k2⟩ | ⟨n2, k2⟩
      · exact absurd ⟨y, k1⟩ (t3 c k2).2.1
      · exact S.ap y z c k1 k2
  · by_cases hy : y = .m e.mu.length
    · rw [hy, on]
      exact t2
    · rw [os y hy]
      exact S.nd y
  · rcases sub y c h with ⟨_, k1⟩ | ⟨_, k1⟩
    · exact (t3 c k1).1
    · exact S.fo y c k1
  · refine fz_loc.mpr ⟨a, rfl, ?_⟩
    show (if e.mu.length = e.mu.length then some a else b.G.ρ e.mu.length) = some a
    rw [if_pos rfl]
def expl : List D → Mu → List D × Mu
  | [], mu => ([], mu)
  | d :: r, mu => if isF d then (d :: (expl r mu).1, (expl r mu).2) else (.loc mu.length :: (expl r (mu ++ [some d])).1, (expl r (mu ++ [some d])).2)
theorem Sat.expl {w : Wd} {b0 : Bs} {σ : L2.St} {sl : List (Option D)} : ∀ {fs : List D} {vs : List V} {l : List Addr} {b : Bs} {mu : Mu}, Sat w b σ ⟨sl, mu⟩ → Gr false b0 b → OwnL w b.G b.H fs vs l → l.Nodup → (∀ a ∈ l, b.G.F a = none ∧ ¬ b.own a ∧ (b0.H a = none ∨ b0.own a)) →
    ∃ b', b'.H = b.H ∧ b'.G.F = b.G.F ∧ b.G.le b'.G ∧ (∀ a, b'.own a → b.own a ∨ a ∈ l) ∧ Gr false b0 b' ∧ Sat w b' σ ⟨sl, (Vm.expl fs mu).2⟩ ∧ FzL w b'.G (Vm.expl fs mu).1 vs
  | [], vs, l, b, mu, S, g, z, _, _ => by
    obtain ⟨rfl, rfl⟩ := ownl_nil.mp z
    exact ⟨b, rfl, rfl, .refl _, fun a h => .inl h, g, S, fzl_nil.mpr rfl⟩
  | d :: r, vs, l, b, mu, S, g, z, nd, hl => by
    obtain ⟨v, vr, l1, l2, rfl, z1, z2, rfl⟩ := ownl_cons.mp z
    obtain ⟨n1, n2, n3⟩ := List.nodup_append.mp nd
    unfold Vm.expl
    by_cases hF : isF d = true
    · rw [if_pos hF]
      obtain ⟨zf, rfl⟩ := (own_fz hF).mp z1
      obtain ⟨b', q1, q2, q3, q4, q5, q6, q7⟩ := Sat.expl S g z2 n2 fun a ha => hl a (by simpa using ha)
      exact ⟨b', q1, q2, q3, fun a h => (q4 a h).imp id fun h => by simpa using h, q5, q6, fzl_cons.mpr ⟨v, vr, rfl, zf.mono q3, q7⟩⟩
    · rw [if_neg hF]
      obtain ⟨a, rfl⟩ := z1.ref (by simpa using hF)
      obtain ⟨b1, rfl, p2, p3, p4⟩ := S.allocX g z1 n1 fun a ha => hl a (List.mem_append_left _ ha)
      have hle : b.G.le (b.cell mu.length a l1).G := ⟨fun _ _ h => h, fun m c h => by
        have hn : b.G.ρ mu.length = none := (S.lm _).mpr (Nat.le_refl _)
        show (if m = mu.length then some a else b.G.ρ m) = some c
        rw [if_neg (fun z => by rw [z, hn] at h; cases h)]
        exact h⟩
      have hown : ∀ c, (b.cell mu.length a l1).own c → b.own c ∨ c ∈ l1 := fun c ⟨y, hy⟩ => by
        have hy' : c ∈ (if y = .m mu.length then l1 else b.o y) := hy
        split at hy'
        · exact .inr hy'
        · exact .inl ⟨y, hy'⟩
      obtain ⟨b', q1, q2, q3, q4, q5, q6, q7⟩ := Sat.expl (b := b.cell mu.length a l1) (vs := vr) (l := l2) p3 p2 (z2.keep hle fun _ _ _ h => h) n2 fun c hc => by
        obtain ⟨k1, k2, k3⟩ := hl c (List.mem_append_right _ hc)
        exact ⟨k1, fun h => (hown c h).elim k2 fun h => n3 c h c hc rfl, k3⟩
      refine ⟨b', q1, q2, hle.trans q3, fun c h => ?_, q5, q6, fzl_cons.mpr ⟨.ref a, vr, rfl, p4.mono q3, q7⟩⟩
      rcases q4 c h with h | h
      · exact (hown c h).imp id fun h => List.mem_append_left _ h
      · exact .inr (List.mem_append_right _ h)
def eNewC (f : EM) : EM := fun e => (f e).bind fun d e1 => match d with
  | .oins c false fs => .ok (.loc (expl fs e1.mu).2.length) ⟨e1.sl, (expl fs e1.mu).2 ++ [some (.oins c false (expl fs e1.mu).1)]⟩
  | _ => .stuck
section
variable {X : Cx} {W : Wx} {w : Wd} {pos p : Pos} {x : Str} {a : Expr} {es : List Expr} {ar : LM} {k c nf : Nat} {q : IF}
end
end Vm

set_option maxHeartbeats 1000000
namespace L2
open PySem PySem.Spec PyProof.Rows
def tMethX (C : Addr) (m : Str) (sp : Sp) (E : St → XK) (ta : TE) (t : TA) : TE := fun σ H Q => ta σ H fun x H1 => ∃ a dx fs, x = .ref a ∧ H1 a = some (.ins C dx fs) ∧ fs.lookup m = none ∧ t σ H1 fun vs H2 => sp (.ref a :: vs) H2 Q (E σ)
section
variable {X : Cx} {CX : CXT} {k : Nat} {f C : Addr} {fd : FuncData} {ps : List Str} {sp : Sp} {E : St → XK} {x m : Str} {p pos apos : Pos} {e o : Expr} {es : List Expr} {ta : TE} {t : TA}
end
end L2
namespace Vm
open PySem L2 PyProof.Rows
@[irreducible] def runFX (m n : Nat) (bd : SM) : FV := fun mu ds => if ds.length = m then (match bd ⟨ds.map some ++ List.replicate n none, mu⟩ with
  | .rt d e => .ok d e.mu
  | .nx e => .ok .non e.mu
  | .exc c x e => .exc c x e.mu
  | _ => .stuck) else .stuck
structure MtX (P : Program) (w : World) (K : PySem.W.Frag) (mg : Str → Option Value) (base : Heap) (k : Nat) (C : Addr) (m : Str) (sp : Sp) : Prop where
  ex : ∃ (f : Addr) (fd : FuncData) (ps : List Str), Cls K C ∧ Meth K C m f ∧ FnOk P w K mg base (L2.CX P w) k f fd ps sp ∧ Binds K fd ps []
theorem Met1.fnX {P : Program} {w : World} {K : PySem.W.Frag} {mg : Str → Option Value} {base : Heap} {C : Addr} {x qual : Str} {st : Stmt} {k : Nat} {sp : Sp} {ps : List Str} (D : Met1 K C x qual st) (hb : ∀ f fd, FunD K x qual (defArgs st) (defBody st) (defScope st) [] [] f fd → Binds K fd ps [])
    (h : ∀ f fd, FunD K x qual (defArgs st) (defBody st) (defScope st) [] [] f fd → FnOk P w K mg base (L2.CX P w) k f fd ps sp) : MtX P w K mg base k C x sp := by
  obtain ⟨f, fd, c, m, F⟩ := D.ex
  exact ⟨f, fd, ps, c, m, h f fd F, hb f fd F⟩
def eMethCX (c : Nat) (F : FV) (fo : EM) (ar : LM) : EM := fun e => (fo e).bind fun d e1 => match cel d e1 with
  | some (_, .oins c' _ _) => if c' = c then (ar e1).bind fun as e2 => callX F (d :: as) e2 else .stuck
  | _ => .stuck
section
variable {X : Cx} {W : WX} {s : Bool} {w : Wd} {pos p apos : Pos} {ob a : Expr} {es : List Expr} {fo : EM} {ar : LM} {F : FV} {m : Str} {k c : Nat}
end
end Vm

set_option maxHeartbeats 1000000
namespace Vm
open PySem L2 PyProof.Rows
def kAppIL (k : Nat) (y : D) : D → Option D
  | .olst ds => match ds[k]? with
    | some (.olst xs) => if xs.length < LIM then some (.olst (ds.set k (.olst (xs ++ [y])))) else none
    | _ => none
  | _ => none
def sAppIL (i : Nat) (fk fx : EM) : SM := fun e => match slotD e i with
  | some (.olst _) => ofE (fk e) fun y e1 => match y with
    | .int k => if 0 ≤ k then (match (slotD e1 i).bind (kAppIL k.toNat .non) with
      | none => .stuck
      | some _ => ofE (fx e1) fun d e2 => match (slotD e2 i).bind (kAppIL k.toNat d) with
        | none => .stuck
        | some d2 => .nx ⟨e2.sl.set i (some d2), e2.mu⟩) else .stuck
    | _ => .stuck
  | _ => .stuck
section
variable {X : Cx} {W : Wx} {s : Bool} {w : Wd} {pos p p2 ap cp : Pos} {x c : Expr} {fk fx : EM}
end
end Vm

set_option maxHeartbeats 1000000
namespace Vm
open PySem L2 PyProof.Rows
def ePopAt (i : Nat) (f : EM) : EM := fun e => match hold? i e with
  | some (_, .olst _) => (f e).bind fun y e1 => match y, hold? i e1 with
    | .int k, some (x, .olst ds) => if 0 ≤ k ∧ k < ds.length ∧ ds.length ≤ LIM ∧ ds.all isF = true then (match ds[k.toNat]? with
      | some d => .ok d (e1.put x (some (.olst (ds.eraseIdx k.toNat))))
      | none => .stuck) else .stuck
    | _, _ => .stuck
  | _ => .stuck
section
variable {X : Cx} {W : Wx} {s : Bool} {w : Wd} {pos p ap cp p2 : Pos} {x c : Expr} {f fk fv fo : EM}
end
def kPopIL (k : Nat) (j : Int) : D → Option D
  | .olst ds => match ds[k]? with
    | some (.olst xs) => if 0 ≤ j ∧ j < xs.length ∧ xs.length ≤ LIM ∧ xs.all isF = true then some (.olst (ds.set k (.olst (xs.eraseIdx j.toNat)))) else none
    | _ => none
  | _ => none
def isIL (k : Nat) : D → Bool
  | .olst ds => match ds[k]? with
    | some (.olst _) => true
    | _ => false
  | _ => false
def sPopIL (i k : Nat) (fx : EM) : SM := fun e => match slotD e i with
  | some d0 => if isIL k d0 = true then ofE (fx e) fun y e1 => (match y with
    | .int j => match (slotD e1 i).bind (kPopIL k j) with
      | some d2 => .nx ⟨e1.sl.set i (some d2), e1.mu⟩
      | none => .stuck
    | _ => .stuck) else .stuck
  | none => .stuck
section
variable {X : Cx} {W : Wx} {s : Bool} {w : Wd} {pos p p2 p3 ap cp : Pos} {x c : Expr} {f : EM}
end
end Vm

set_option maxHeartbeats 1000000
namespace Vm
open PySem L2 PyProof.Rows
section
variable {prog : Program} {w : World} {A : Around} {E : Value → Shared → Prop} {h : Heap} {g : Array GenState} {d : Drawn} {t : Nat} {os : OsState} {C x f : Addr} {B : String} {bm : List Value} {v : Value}
end
theorem noSub_NoneType (C : Addr) : isSubtype (.type "NoneType") (.ref C) = pure false := by kernel_rfl
theorem noSub_int (C : Addr) : isSubtype (.type "int") (.ref C) = pure false := by kernel_rfl
theorem noSub_str (C : Addr) : isSubtype (.type "str") (.ref C) = pure false := by kernel_rfl
theorem noSub_list (C : Addr) : isSubtype (.type "list") (.ref C) = pure false := by kernel_rfl
theorem noSub_dict (C : Addr) : isSubtype (.type "dict") (.ref C) = pure false := by kernel_rfl
end Vm

set_option maxHeartbeats 1000000
namespace Vm
open PySem L2 PyProof.Rows
open PySem.SeqAt
open AutoSeq1 (wpAny_loadPart')
open MeetsSeq
theorem int_dec (b : Int) (u : Tok) (x C dx : Addr) :
    Meets (Builtin.«int.__eq__» ⟨[.int b u, .ref x], []⟩) (fun _ R s => s.heap.get? x = some (PySem.W.instObj C dx) ∧ R (.ok (.ret .notImplemented)) s) :=
  .of_wp fun prog w A R s h => by
    obtain ⟨hp, g, d, tk, os⟩ := s; obtain ⟨hl, h⟩ := h
    wp_walk using wpAny_loadPart' hl, wpAny_load hl; exact ⟨_, rfl, h⟩
theorem str_dec (b : Str) (u : Tok) (x C dx : Addr) :
    Meets (Builtin.«str.__eq__» ⟨[.str b u, .ref x], []⟩) (fun _ R s => s.heap.get? x = some (PySem.W.instObj C dx) ∧ R (.ok (.ret .notImplemented)) s) :=
  .of_wp fun prog w A R s h => by
    obtain ⟨hp, g, d, tk, os⟩ := s; obtain ⟨hl, h⟩ := h
    wp_walk using wpAny_loadPart' hl, wpAny_load hl; exact ⟨_, rfl, h⟩
theorem list_dec (l : Addr) (items : Array Value) (n : Nat) (dl : Option Addr) (sl : Array (Option Value)) (x C dx : Addr) {nm q : Str} {N : Addr} {bs bm : List Value} {hdct : Bool} {sn : List Str} {sub : List Value} {ab : Bool} {col : Option Bool} {dd : Option Addr} {k0 k1 k2 k3 k5 : Option Value} {newId : String} (hb : (Value.ref C :: bm).contains (.type "list") = false) :
    Meets (Builtin.«list.__eq__» ⟨[.ref l, .ref x], []⟩) (fun _ R s => s.heap.get? l = some { cls := .type "list", dict := dl, data := .seq items n, slots := sl } ∧ s.heap.get? x = some (PySem.W.instObj C dx) ∧ s.heap.get? C = some (excClassObj nm q C N bs bm hdct sn sub ab col dd k0 k1 k2 k3 k5 newId) ∧ R (.ok (.ret .notImplemented)) s) :=
  .of_wp fun prog w A R s h => by
    obtain ⟨hp, g, d, tk, os⟩ := s; obtain ⟨hl, hx, hC, h⟩ := h
    have f1 : ∀ {M : Model} {A : Around} {E : Value → Shared → Prop} {Q : Bool → Shared → Prop}, Q false ⟨hp, g, d, tk, os⟩ → wpAny M A (isSubtype (.ref C) (.type "list")) Q E ⟨hp, g, d, tk, os⟩ := fun k => wpAny_isSubtype_exc hC (by rw [hb]; exact k)
    wp_walk using wpAny_loadPart' hl, wpAny_load hl, wpAny_load hx, wpAny_loadPart' hx, f1
    exact ⟨_, rfl, h⟩
theorem dict_dec (l : Addr) (ol : Obj) (hol : ol.cls = .type "dict") (x C dx : Addr) {nm q : Str} {N : Addr} {bs bm : List Value} {hdct : Bool} {sn : List Str} {sub : List Value} {ab : Bool} {col : Option Bool} {dd : Option Addr} {k0 k1 k2 k3 k5 : Option Value} {newId : String} (hb : (Value.ref C :: bm).contains (.type "dict") = false) :
    Meets (Builtin.«dict.__eq__» ⟨[.ref l, .ref x], []⟩) (fun _ R s => s.heap.get? l = some ol ∧ s.heap.get? x = some (PySem.W.instObj C dx) ∧ s.heap.get? C = some (excClassObj nm q C N bs bm hdct sn sub ab col dd k0 k1 k2 k3 k5 newId) ∧ R (.ok (.ret .notImplemented)) s) :=
  .of_wp fun prog w A R s h => by
    obtain ⟨hp, g, d, tk, os⟩ := s; obtain ⟨hl, hx, hC, h⟩ := h
    have f1 : ∀ {M : Model} {A : Around} {E : Value → Shared → Prop} {Q : Bool → Shared → Prop}, Q false ⟨hp, g, d, tk, os⟩ → wpAny M A (isSubtype (.ref C) (.type "dict")) Q E ⟨hp, g, d, tk, os⟩ := fun k => wpAny_isSubtype_exc hC (by rw [hb]; exact k)
    wp_walk using wpAny_loadPart' hl, wpAny_load hl, wpAny_load hx, wpAny_loadPart' hx, f1
    exact ⟨_, rfl, h⟩
end Vm

set_option maxHeartbeats 1000000
namespace Vm
open PySem L2 PyProof.Rows
inductive NvI (H : Hp) : V → Prop where
  | non : NvI H .non
  | int (i : Int) : NvI H (.int i)
  | str (x : Str) : NvI H (.str x)
  | lst {a : Addr} {xs : List V} (h : H a = some (.lst xs)) : NvI H (.ref a)
  | dic {a : Addr} {kvs : List (Key × V)} (h : Rd H a (.dK kvs)) : NvI H (.ref a)
def NvF (prog : Program) (w : World) (s : Shared) (u : Value) : Prop := ∃ T id, s.TypeIs u T ∧ (∀ C, isSubtype (.type T) (.ref C) = pure false) ∧ (∀ C : Addr, ([.ref C, .type "object"] : List Value).contains (.type T) = false) ∧ Slot T "__eq__" id ∧
  ∀ {A : Around} {E : Value → Shared → Prop} {x C dx : Addr} {nm q : Str} {N : Addr} {bs : List Value} {hdct : Bool} {sn : List Str} {sub : List Value} {ab : Bool} {col : Option Bool} {dd : Option Addr} {k0 k1 k2 k3 k5 : Option Value} {newId : String},
    s.heap.get? x = some (PySem.W.instObj C dx) → s.heap.get? C = some (excClassObj nm q C N bs [.type "object"] hdct sn sub ab col dd k0 k1 k2 k3 k5 newId) →
    ∀ Q' : Value → Shared → Prop, Q' .notImplemented s → wpAny (model prog w) A (call (.builtin id) [u, .ref x]) Q' E s
theorem noObj {T : String} (h : T ≠ "object") (C : Addr) : ([.ref C, .type "object"] : List Value).contains (.type T) = false := by
  have e : (Value.type T == Value.type "object") = false := by
    rw [beq_eq_false_iff_ne]
    intro z
    exact h (Value.type.inj z)
  simp only [List.contains_cons, e, Bool.or_false]
  rfl
theorem NvI.facts {X : Cx} {pins : List (Addr × Obj)} {σ : L2.St} {H : Hp} {s : Shared} {y : V} {u : Value} (I : L2.Inv X pins σ H s) (r : RelV y u) (h : NvI H y) : NvF X.prog X.w s u := by
  cases h with
  | non =>
    cases (show u = Value.none from r)
    have ty : s.TypeIs Value.none "NoneType" := rfl
    exact ⟨_, _, ty, noSub_NoneType, noObj (by decide), PySem.F.slot_NoneType_eq, by
      intro A E x C dx nm q N bs hdct sn sub ab col dd k0 k1 k2 k3 k5 newId hx hC Q' hq
      exact call_gives PySem.F.slot_NoneType_eq ty PySem.F.entry_NoneType_eq (PySem.F.args_NoneType_eq_2 _ _) (PySem.SeqAt.NoneType___eq___none_ref_0 x) hq⟩
  | int i =>
    obtain ⟨t, rfl⟩ := (show ∃ t, u = Value.int i t from r)
    have ty : s.TypeIs (Value.int i t) "int" := PySem.typeIs_int s i t
    exact ⟨_, _, ty, noSub_int, noObj (by decide), PySem.F.slot_int_eq, by
      intro A E x C dx nm q N bs hdct sn sub ab col dd k0 k1 k2 k3 k5 newId hx hC Q' hq
      exact call_meets PySem.F.slot_int_eq ty PySem.F.entry_int_eq (PySem.F.args_int_eq_2 _ _) (int_dec i t x C dx) ⟨hx, hq⟩⟩
  | str z =>
    obtain ⟨t, rfl⟩ := (show ∃ t, u = Value.str z t from r)
    have ty : s.TypeIs (Value.str z t) "str" := PySem.typeIs_str s z t
    exact ⟨_, _, ty, noSub_str, noObj (by decide), PySem.F.slot_str_eq, by
      intro A E x C dx nm q N bs hdct sn sub ab col dd k0 k1 k2 k3 k5 newId hx hC Q' hq
      exact call_meets PySem.F.slot_str_eq ty PySem.F.entry_str_eq (PySem.F.args_str_eq_2 _ _) (str_dec z t x C dx) ⟨hx, hq⟩⟩
  | @lst a xs h =>
    cases (show u = Value.ref a from r)
    obtain ⟨its, rv, pl, hz⟩ := I.list (SqL.of h)
    obtain ⟨⟨cls, dl, data, sl⟩, ho, hc, n, hd⟩ := _root_.id pl.isList
    simp only at hc hd
    subst hc hd
    have ty : s.TypeIs (Value.ref a) "list" := ⟨_, ho, rfl⟩
    exact ⟨_, _, ty, noSub_list, noObj (by decide), PySem.F.slot_list_eq, by
      intro A E x C dx nm q N bs hdct sn sub ab col dd k0 k1 k2 k3 k5 newId hx hC Q' hq
      exact call_meets PySem.F.slot_list_eq ty PySem.F.entry_list_eq (PySem.F.args_list_eq_2 _ _) (list_dec a _ n dl sl x C dx (noObj (by decide) C)) ⟨ho, hx, hC, hq⟩⟩
  | @dic a kvs h =>
    cases (show u = Value.ref a from r)
    obtain ⟨o, ho, hc⟩ : ∃ o, s.heap.get? a = some o ∧ o.cls = .type "dict" := by
      obtain ⟨_, _, vs, _, dd⟩ := dk_rd I.hok h
      exact dd.typeIs
    have ty : s.TypeIs (Value.ref a) "dict" := ⟨o, ho, hc⟩
    exact ⟨_, _, ty, noSub_dict, noObj (by decide), PySem.F.slot_dict_eq, by
      intro A E x C dx nm q N bs hdct sn sub ab col dd k0 k1 k2 k3 k5 newId hx hC Q' hq
      exact call_meets PySem.F.slot_dict_eq ty PySem.F.entry_dict_eq (PySem.F.args_dict_eq_2 _ _) (dict_dec a o hc x C dx (noObj (by decide) C)) ⟨ho, hx, hC, hq⟩⟩
end Vm

set_option maxHeartbeats 1000000
namespace Vm
open PySem L2 PyProof.Rows
def rEqL (C : Addr) (sp : Sp) : R2 := fun x y H Q => ∃ a dx fs, x = .ref a ∧ H a = some (.ins C dx fs) ∧ NvI H y ∧ sp [.ref a, y] H (fun v H' => ∃ r, v = .bl r ∧ Q (.bl r) H') E0
def rEqR (C : Addr) (sp : Sp) : R2 := fun x y H Q => ∃ a dx fs, y = .ref a ∧ H a = some (.ins C dx fs) ∧ NvI H x ∧ sp [.ref a, x] H (fun v H' => ∃ r, v = .bl r ∧ Q (.bl r) H') E0
def rNeL (C : Addr) (sp : Sp) : R2 := fun x y H Q => ∃ a dx fs, x = .ref a ∧ H a = some (.ins C dx fs) ∧ NvI H y ∧ sp [.ref a, y] H (fun v H' => ∃ r, v = .bl r ∧ Q (.bl (!r)) H') E0
section
variable {X : Cx} {C f : Addr} {fd : FuncData} {ps : List Str} {sp : Sp} {k : Nat}
theorem NeC.own (N : NeC X.K C f) {pins : List (Addr × Obj)} {σ : L2.St} {H : Hp} {s : Shared} {a dx : Addr} {mA : Str → Option Value} (I : L2.Inv X pins σ H s) (J : ObjM s.heap a dx C mA) : s.heap.OwnEqNoNe a C f "object" [.type "object"] ∧ s.heap.get? a = some (PySem.W.instObj C dx) ∧
    ∃ nm q Nn bs hdct sn sub ab col dd k0 k1 k2 k3 k5 newId, s.heap.get? C = some (excClassObj nm q C Nn bs [.type "object"] hdct sn sub ab col dd k0 k1 k2 k3 k5 newId) := by
  obtain ⟨oa, JA, _⟩ := J.look
  obtain ⟨nm, q, Nn, bs, hdct, sn, sub, ab, col, dd, k0, k1, k2, k3, k5, newId, oc, od, es, ep, osl, c1, c2, c3, c4, c5⟩ := N.cls
  have kin := I.kIn
  obtain ⟨of, f1, f2⟩ : ∃ of, X.K.lookup f = some of ∧ of.cls = .type "function" := by
    have e : PySem.W.typeIn X.K (.ref f) = some (.type "function") := beq_iff_eq.mp N.fn
    have e' : (X.K.lookup f).map (·.cls) = some (.type "function") := e
    cases z : X.K.lookup f with
    | none => rw [z] at e'; cases e'
    | some of => rw [z] at e'; exact ⟨of, rfl, Option.some.inj e'⟩
  exact ⟨⟨_, of, nm, q, Nn, bs, hdct, sn, sub, ab, col, dd, k0, k1, k2, k3, k5, newId, fun n => nsFind es n, _, JA.at_, JA.cls, kin _ _ c1, ⟨_, es, ep, kin _ _ c2, rfl, c3, fun _ => rfl⟩, c4, kin _ _ f1, f2, PySem.F.cmp_object.mro, PySem.F.cmp_object.eq.lookup, c5⟩,
    J.obj, nm, q, Nn, bs, hdct, sn, sub, ab, col, dd, k0, k1, k2, k3, k5, newId, kin _ _ c1⟩
end
end Vm

set_option maxHeartbeats 1000000
namespace Vm
open PySem L2 PyProof.Rows
section
variable {prog : Program} {w : World} {A : Around} {E : Value → Shared → Prop} {h : Heap} {g : Array GenState} {d : Drawn} {t : Nat} {os : OsState} {C x y f : Addr} {B : String} {bm : List Value}
end
def rEqS (C : Addr) (sp : Sp) : R2 := fun x y H Q => ∃ a b dx dy fs gs, x = .ref a ∧ y = .ref b ∧ H a = some (.ins C dx fs) ∧ H b = some (.ins C dy gs) ∧ sp [.ref a, .ref b] H (fun v H' => ∃ r, v = .bl r ∧ Q (.bl r) H') E0
def rEqU (C : Addr) (sp : Sp) : R2 := fun x y H Q => rEqS C sp x y H Q ∨ rEqL C sp x y H Q ∨ rEqR C sp x y H Q
def rNeU (C : Addr) (sp : Sp) : R2 := fun x y H Q => rNeO C sp x y H Q ∨ rNeL C sp x y H Q
section
variable {X : Cx} {C f : Addr} {fd : FuncData} {ps : List Str} {sp : Sp} {k : Nat}
end
def isNv : D → Bool
  | .non => true
  | .int _ => true
  | .str _ => true
  | .lst _ => true
  | .dic _ => true
  | _ => false
def eqArgs (c : Nat) (x y : D) : Option (List D) := match x, y with
  | .ins c1 xs, .ins c2 ys => if c1 = c ∧ c2 = c then some [.ins c1 xs, .ins c2 ys] else none
  | .ins c1 xs, y => if c1 = c ∧ isNv y = true then some [.ins c1 xs, y] else none
  | x, .ins c2 ys => if c2 = c ∧ isNv x = true then some [.ins c2 ys, x] else none
  | _, _ => none
def eEqI (c : Nat) (F : FV) (f1 f2 : EM) : EM := fun e => (f1 e).bind fun x e1 => (f2 e1).bind fun y e2 => match eqArgs c x y with
  | some as => (callF F as e2).bind fun r e3 => (match r with
    | .bl t => .ok (.bl t) e3
    | _ => .stuck)
  | none => .stuck
section
variable {X : Cx} {W : Wx} {s : Bool} {w : Wd} {pos : Pos} {a b : Expr} {F : FV} {k : Nat} {fa fb : EM}
end
def neArgs (c : Nat) (x y : D) : Option (List D) := match x, y with
  | .ins c1 xs, .ins c2 ys => if c1 = c ∧ c2 = c then some [.ins c1 xs, .ins c2 ys] else none
  | .ins c1 xs, y => if c1 = c ∧ isNv y = true then some [.ins c1 xs, y] else none
  | _, _ => none
def eNeI (c : Nat) (F : FV) (f1 f2 : EM) : EM := fun e => (f1 e).bind fun x e1 => (f2 e1).bind fun y e2 => match neArgs c x y with
  | some as => (callF F as e2).bind fun r e3 => (match r with
    | .bl t => .ok (.bl (!t)) e3
    | _ => .stuck)
  | none => .stuck
section
variable {X : Cx} {W : Wx} {s : Bool} {w : Wd} {pos : Pos} {a b : Expr} {F : FV} {k : Nat} {fa fb : EM}
end
end Vm

set_option maxHeartbeats 1000000
namespace Vm
open PySem L2 PyProof.Rows
section
variable {prog : Program} {w : World} {A : Around} {E : Value → Shared → Prop} {h : Heap} {g : Array GenState} {d : Drawn} {t : Nat} {os : OsState} {C D x y f : Addr} {B : String} {bm : List Value}
end
def rEqT (C D : Addr) (sp : Sp) : R2 := fun x y H Q => ∃ a b dx dy fs gs, x = .ref a ∧ y = .ref b ∧ H a = some (.ins C dx fs) ∧ H b = some (.ins D dy gs) ∧ sp [.ref a, .ref b] H (fun v H' => ∃ r, v = .bl r ∧ Q (.bl r) H') E0
def rNeT (C D : Addr) (sp : Sp) : R2 := fun x y H Q => ∃ a b dx dy fs gs, x = .ref a ∧ y = .ref b ∧ H a = some (.ins C dx fs) ∧ H b = some (.ins D dy gs) ∧ sp [.ref a, .ref b] H (fun v H' => ∃ r, v = .bl r ∧ Q (.bl (!r)) H') E0
section
variable {X : Cx} {C D f : Addr} {fd : FuncData} {ps : List Str} {sp : Sp} {k : Nat}
end
def clsOf (x : D) (e : En) : Option Nat := match x with
  | .ins c _ => some c
  | .loc n => match e.at (.m n) with
    | some (.oins c _ _) => some c
    | _ => none
  | _ => none
def dBl (r : Rs D) (k : Bool → Bool) : Rs D := r.bind fun r e3 => match r with
  | .bl t => .ok (.bl (k t)) e3
  | _ => .stuck
def eEqC (c c2 : Nat) (F : FV) (f1 f2 : EM) : EM := fun e => (f1 e).bind fun x e1 => (f2 e1).bind fun y e2 => match clsOf x e2, clsOf y e2 with
  | some a, some b => if a = c ∧ (b = c ∨ b = c2) then dBl (callF F [x, y] e2) id else .stuck
  | some a, none => if a = c ∧ isNv y = true then dBl (callF F [x, y] e2) id else .stuck
  | none, some b => if b = c ∧ isNv x = true then dBl (callF F [y, x] e2) id else .stuck
  | none, none => .stuck
def eNeC (c c2 : Nat) (F : FV) (f1 f2 : EM) : EM := fun e => (f1 e).bind fun x e1 => (f2 e1).bind fun y e2 => match clsOf x e2, clsOf y e2 with
  | some a, some b => if a = c ∧ (b = c ∨ b = c2) then dBl (callF F [x, y] e2) not else .stuck
  | some a, none => if a = c ∧ isNv y = true then dBl (callF F [x, y] e2) not else .stuck
  | _, _ => .stuck
section
variable {X : Cx} {W : Wx} {s : Bool} {w : Wd} {pos : Pos} {a b : Expr} {F : FV} {k : Nat} {fa fb : EM}
def rEqC (C D : Addr) (sp : Sp) : R2 := fun x y H Q => rEqU C sp x y H Q ∨ rEqT C D sp x y H Q
def rNeC (C D : Addr) (sp : Sp) : R2 := fun x y H Q => rNeU C sp x y H Q ∨ rNeT C D sp x y H Q
structure Apart (K : PySem.W.Frag) (C D : Addr) : Prop where
  ne : D ≠ C
  sub : PySem.W.subIn K (.ref D) (.ref C) = some false
end
end Vm

set_option maxHeartbeats 1000000
namespace Vm
open PySem L2 PyProof.Rows
def gAtt (K : PySem.W.Frag) (to : TE) (f : Str) : TG := fun v σ H Q => to σ H fun x H1 => ∃ a C dx fs, x = .ref a ∧ H1 a = some (.ins C dx fs) ∧ Cls K C ∧ NoAttr K C f ∧ fs.length < 1000 ∧ Q σ (upd H1 a (.ins C dx (putF f v fs)))
section
variable {X : Cx} {o : Expr} {f : Str} {pos : Pos} {to : TE}
end
def sNmF (i c j : Nat) (fo fv : EM) : SM := fun e => ofE (fv e) fun d e1 => match d with
  | .tup [d1, d2] => ofE (fo ⟨e1.sl.set i (some d1), e1.mu⟩) fun x e2 => match cel x e2 with
    | some (n, .oins c' t ds) => if c' = c ∧ j < ds.length then .nx (e2.put (.m n) (some (.oins c' t (ds.set j d2)))) else .stuck
    | _ => .stuck
  | _ => .stuck
section
variable {X : Cx} {W : Wx} {s : Bool} {w : Wd} {pos p1 p2 tp : Pos} {x ob : Expr} {fo fv : EM}
end
end Vm

set_option maxHeartbeats 1000000
namespace Vm
open PySem PySem.Calls L2 PyProof.Rows PySem.W
def kinL : List PyData → List PyData → Bool
  | x :: xs, y :: ys => alike x y && (!(PyData.eqv x y) || kinL xs ys)
  | [], _ => true
  | _ :: _, [] => true
def rowT : PyData → List PyData
  | .tuple xs => xs
  | _ => []
def isRow : PyData → Bool
  | .tuple (_ :: _) => true
  | _ => false
def kin (a b : PyData) : Bool := isRow a && (isRow b && kinL (rowT a) (rowT b))
section
variable {prog : Program} {w : World} {A : Around} {s : Shared}
end
def okK (ds : List D) : Bool := decide (ds.length ≤ LIM) && (plnL DEP ds && (ds.all fun a => ds.all fun b => kin (pd a) (pd b)))
def rSortN (w : Wd) : List V → Hp → VK → Prop := fun xs H Q => ∃ (G : Gs) (a : Addr) (es : List (NestedKey × Addr × V)) (ks : List D), xs = [.ref a] ∧ (H a = some (nst w a es) ∨ ∃ o, H a = some (.frz o (nst w a es))) ∧ FzL w G ks (es.map fun p => V.ref p.2.1) ∧ es.length ≤ sizeLine ∧ (∀ a u, G.F a = some u → H a = some u) ∧ okK ks = true ∧
  ∀ vs', FzL w G (isortD ks) vs' → ∀ p, H p = none → Q (.ref p) (upd H p (.lst vs'))
theorem OwnN.keysFz {w : Wd} {G : Gs} {H : Hp} : ∀ {kvs : List (D × D)} {es : List (NestedKey × Addr × V)} {l : List Addr}, OwnN w G H kvs es l → FzL w G (kvs.map Prod.fst) (es.map fun p => V.ref p.2.1)
  | [], es, l, h => by
    obtain ⟨rfl, _⟩ := ownn_nil.mp h
    exact fzl_nil.mpr rfl
  | (k, d) :: r, es, l, h => by
    obtain ⟨ky, kb, vx, t, l1, l2, rfl, _, _, z, _, h2, _⟩ := ownn_cons.mp h
    exact fzl_cons.mpr ⟨.ref kb, _, rfl, z, h2.keysFz⟩
theorem FzN.keysFz {w : Wd} {G : Gs} : ∀ {kvs : List (D × D)} {es : List (NestedKey × Addr × V)}, FzN w G kvs es → FzL w G (kvs.map Prod.fst) (es.map fun p => V.ref p.2.1)
  | [], es, h => by
    cases fzn_nil.mp h
    exact fzl_nil.mpr rfl
  | (k, d) :: r, es, h => by
    obtain ⟨nk, a, v, t, rfl, _, _, h1, _, h3⟩ := fzn_cons.mp h
    exact fzl_cons.mpr ⟨.ref a, _, rfl, h1, h3.keysFz⟩
def dSortN : D → Option D
  | .odix kvs => if okK (kvs.map Prod.fst) then some (.olst (isortD (kvs.map Prod.fst))) else none
  | .dix kvs => if okK (kvs.map Prod.fst) then some (.olst (isortD (kvs.map Prod.fst))) else none
  | _ => none
end Vm

set_option maxHeartbeats 1000000
namespace Vm
open PySem L2 PyProof.Rows PySem.W
def rSortM (w : Wd) : List V → Hp → VK → Prop := fun xs H Q => ∃ (G : Gs) (a : Addr) (vs : List V) (ds : List D), xs = [.ref a] ∧ SqL w.K H a vs ∧ FzL w G ds vs ∧ (∀ a u, G.F a = some u → H a = some u) ∧ okK ds = true ∧
  ∀ vs', FzL w G (isortD ds) vs' → ∀ p, H p = none → Q (.ref p) (upd H p (.lst vs'))
def dSortM : D → Option D := fun d => match d with
  | .tup _ => none
  | .tux _ => none
  | d => (fitems? d).bind fun ds => if okK ds then some (.olst (isortD ds)) else none
end Vm

set_option maxHeartbeats 1000000
namespace Vm
open PySem L2
def lcGoC (x : D) (len : Nat) (g : GM) (tt : TM) (te : EM) (vs : List Nat) : Nat → Nat → List D → En → Rs (List D)
  | k, i, acc, e => match cel x e with
    | some (_, .olst ds) => if ds.length = len ∧ ds.all isF = true then (match k with
      | 0 => .ok acc e
      | k + 1 => match ds[i]? with
        | none => .stuck
        | some d => match g d e with
          | none => .stuck
          | some e1 => (tt e1).nox.bind fun t e2 => if t = true then (te e2).nox.bind fun y e3 => if acc.length < LIM then lcGoC x len g tt te vs k (i + 1) (acc ++ [y]) (wipeE e3 vs) else .stuck
            else lcGoC x len g tt te vs k (i + 1) acc (wipeE e2 vs)) else .stuck
    | _ => .stuck
def eLcC (fo : EM) (g : GM) (tt : TM) (te : EM) (vs : List Nat) : EM := fun e => (fo e).bind fun x e1 => match cel x e1 with
  | some (_, .olst ds) => if clear e1 vs = false then .stuck else (lcGoC x ds.length g tt te vs ds.length 0 [] (wipeE e1 vs)).bind fun rs e2 => lift (mkLst rs) (back e1 vs e2)
  | _ => .stuck
section
variable {W : Wx} {s : Bool} {w : Wd} {fo : EM} {g : GM} {tt : TM} {te : EM} {vs : List Nat}
end
section
variable {X : Cx} {W : Wx} {s : Bool} {w : Wd} {pos spos py : Pos} {x elt tg iter : Expr} {ifs : List Expr} {scope : Scope} {g : GM} {tt : TM} {te fo : EM}
end
end Vm

set_option maxHeartbeats 1000000
namespace Vm
open PySem L2 PyProof.Rows
def eIxCA (fo fi : EM) : EM := fun e => (fo e).bind fun x e1 => (fi e1).bind fun y e2 => match cel x e2, y with
  | some (_, .olst ds), .int k => lift ((L2.atI ds k).bind fun d => if isF d then some d else none) e2
  | _, _ => .stuck
section
variable {X : Cx} {W : Wx} {s : Bool} {w : Wd} {pos p : Pos} {ob x a : Expr} {fo fi : EM}
end
end Vm

set_option maxHeartbeats 1000000
namespace Vm
open PySem L2 PyProof.Rows
def eNilL (fo : EM) : EM := fun e => (fo e).bind fun x e1 => match x with
  | .olst ds => .ok (.bl ds.isEmpty) e1
  | _ => .stuck
section
variable {X : Cx} {W : Wx} {s : Bool} {w : Wd} {pos p2 apos : Pos} {a ob : Expr} {fo : EM} {F : FV} {m : Str} {k : Nat}
end
def eqDo (c c2 : Nat) (F : FV) (x y : D) : En → Rs D := fun e2 => match clsOf x e2, clsOf y e2 with
  | some a, some b => if a = c ∧ (b = c ∨ b = c2) then dBl (callF F [x, y] e2) id else .stuck
  | some a, none => if a = c ∧ isNv y = true then dBl (callF F [x, y] e2) id else .stuck
  | none, some b => if b = c ∧ isNv x = true then dBl (callF F [y, x] e2) id else .stuck
  | none, none => .stuck
def eEqD (c c2 : Nat) (F F2 : FV) (f1 f2 : EM) : EM := fun e => (f1 e).bind fun x e1 => (f2 e1).bind fun y e2 => if clsOf x e2 = some c2 then eqDo c2 c F2 x y e2 else eqDo c c2 F x y e2
section
variable {X : Cx} {W : Wx} {s : Bool} {w : Wd} {pos : Pos} {a b : Expr} {F F2 : FV} {k k2 : Nat} {fa fb : EM}
end
section
variable {X : Cx} {W : Wx} {s : Bool} {w : Wd} {pos spos py : Pos} {elt tg iter : Expr} {ifs : List Expr} {scope : Scope} {g : GM} {tt : TM} {te fo : EM}
end
structure ExA0 (K : PySem.W.Frag) (C : Addr) : Prop where
  x : ExN0 K C
  e : PySem.W.exmOne K (.ref C) (.ref C) = some true
end Vm
namespace VmH
open PySem PySem.Spec PyProof.Rows L2 He
theorem cf_exn {K : PySem.W.Frag} {ps : List CF} (h : ps.all (cfB K) = true) {x : Str} (m : CF.exn x ∈ ps) : Vm.ExA0 K (ga K x) := by
  have b := List.all_eq_true.mp h _ m
  simp only [cfB, Bool.and_eq_true, decide_eq_true_eq] at b
  obtain ⟨b1, b2, b3, b4, b5⟩ := b
  exact ⟨⟨b1, b2, b3, b4⟩, b5⟩
end VmH

set_option maxHeartbeats 1000000
namespace HotX
open PySem PySem.Spec PyProof.Rows
section
variable {prog : Program} {w : World} {A : Around} {E : Value → Shared → Prop} {s : Shared}
end
end HotX

set_option maxHeartbeats 1000000
namespace L2
open PySem PySem.Spec PyProof.Rows HotX
def tLcE (K : PySem.W.Frag) (tl : TE) : TE := fun σ H Q => tl σ H fun x H1 => ∃ a, x = .ref a ∧ SqL K H1 a [] ∧ ∀ D, H1 D = none → Q (.ref D) (upd H1 D (.lst []))
end L2

set_option maxHeartbeats 1000000
namespace L2N
open PySem PySem.Spec PyProof.Rows L2
section
variable {X : Cx}
theorem pmk_own0 {C : Addr} {bmB : List Value} {B newId initId : String} {x : Str} {p pos : Pos} (F : ExcBaseFacts B newId initId bmB) (q : PySem.W.excIn X.K C bmB newId = true) (gC : X.mg x = some (.ref C)) (kC : PySem.W.keepIn X.K (.ref C) = true) (r : Raises X (.ref C)) (hg : Gl X x)
    (hdb : (x == ("__debug__" : Str)) = false := by decide) : PMk X (.Call (.Name x p) [] [] pos) (fun σ H Q => Q (.ref C) none H) := by
  intro pins s σ H Q I h
  refine wpAny_Call_Name_kw (ld_glob I hg gC ?_ hdb)
  refine PySem.W.callWith_K0 I.kIn kC ?_
  show wpAny _ _ (call (.ref C) []) _ _ _
  obtain ⟨bm, N, nm, qn, bs, hdct, sn, sub, ab, col, dd, k0, k1, k2, k3, k5, mN, hC, hN, hni, T⟩ := exc_obj I.kIn q
  refine wpAny_call_exc_subT F T hC hN hni (fun h' e hm => ?_) (Nat.zero_le _)
  exact mk_of I hm r h (I.hok.gone hm.new)
end
end L2N
namespace L2
open PySem PySem.Spec PyProof.Rows
section
variable {X : Cx} {CX : CXT} {k : Nat} {f C : Addr} {fd : FuncData} {ps : List Str} {sp : Sp} {E : St → XK} {x m : Str} {p pos apos : Pos} {e o : Expr} {es : List Expr} {ta : TE} {t : TA}
end
end L2
namespace Vm
open PySem L2 PyProof.Rows
section
variable {X : Cx} {w : Wd} {W : WX} {p pos pos' : Pos} {x : Str}
end
structure MtXN (P : Program) (w : World) (K : PySem.W.Frag) (mg : Str → Option Value) (base : Heap) (k : Nat) (C : Addr) (m : Str) (sp : Sp) : Prop where
  ex : ∃ (f : Addr) (fd : FuncData) (ps : List Str), Cls K C ∧ Meth K C m f ∧ FnOk P w K mg base (L2N.CX P w) k f fd ps sp ∧ Binds K fd ps []
section
variable {X : Cx} {W : WX} {s : Bool} {w : Wd} {pos p apos : Pos} {ob a : Expr} {es : List Expr} {fo : EM} {ar : LM} {F : FV} {m : Str} {k c : Nat}
end
structure MtH (P : Program) (w : World) (K : PySem.W.Frag) (mg : Str → Option Value) (base : Heap) (k : Nat) (C : Addr) (m : Str) (sp : Sp) : Prop where
  ex : ∃ (f : Addr) (fd : FuncData) (ps : List Str), Cls K C ∧ Meth K C m f ∧ L2H.FnH P w K mg base CX0 k f fd ps sp ∧ Binds K fd ps []
def eLogE (fo : EM) : EM := fun e => (fo e).bind fun x e1 => match cel x e1 with
  | some (_, .olst []) => .ok (.olst []) e1
  | _ => .stuck
section
variable {X : Cx} {W : Wx} {s : Bool} {w : Wd} {pos p apos : Pos} {x ob tg elt iter : Expr} {scope : Scope} {own : List (Str × Nat)} {fo : EM} {F : FV} {m : Str} {k : Nat}
end
section
variable {X : Cx} {W : Wx} {w : Wd} {body suite : List Stmt} {b₀ : Stmt} {x : Str} {h1 : Addr} {np pos pos' : Pos} {bd su : SM} {es : List Nat}
end
end Vm

set_option maxHeartbeats 1000000
namespace Vm
open PySem L2 PyProof.Rows
def rLenO (C : Addr) (sp : Sp) : List V → Hp → VK → Prop := fun xs H Q => ∃ a dx fs, xs = [.ref a] ∧ H a = some (.ins C dx fs) ∧ sp [.ref a] H (fun v H' => ∃ n : Int, v = .int n ∧ 0 ≤ n ∧ n < 2 ^ 62 ∧ Q (.int n) H') E0
def rInO (C : Addr) (sp : Sp) (k : Bool → Bool) : R2 := fun x y H Q => ∃ a dx fs, y = .ref a ∧ H a = some (.ins C dx fs) ∧ sp [.ref a, x] H (fun v H' => ∃ r, v = .bl r ∧ Q (.bl (k r)) H') E0
section
variable {X : Cx} {C f : Addr} {fd : FuncData} {ps : List Str} {sp : Sp} {k : Nat}
end
end Vm

set_option maxHeartbeats 1000000
namespace Vm
open PySem L2 PyProof.Rows
def eLenO (c : Nat) (F : FV) (fo : EM) : EM := fun e => (fo e).bind fun x e1 => match cel x e1 with
  | some (_, .oins c' _ _) => if c' = c then (callF F [x] e1).bind fun r e2 => (match r with
    | .int n => if 0 ≤ n ∧ n < 2 ^ 62 then .ok (.int n) e2 else .stuck
    | _ => .stuck) else .stuck
  | _ => .stuck
def eInO (c : Nat) (F : FV) (k : Bool → Bool) (fy fo : EM) : EM := fun e => (fy e).bind fun y e1 => (fo e1).bind fun x e2 => match cel x e2 with
  | some (_, .oins c' _ _) => if c' = c then dBl (callF F [x, y] e2) k else .stuck
  | _ => .stuck
section
variable {X : Cx} {W : Wx} {s : Bool} {w : Wd} {pos p : Pos} {a b : Expr} {F : FV} {k : Nat} {fa fb fo : EM}
end
end Vm

set_option maxHeartbeats 1000000
namespace Vm
open PySem L2 PyProof.Rows PySem.Spec
section
variable {X : Cx} {C f : Addr} {fd : FuncData} {ps : List Str} {sp : Sp} {k : Nat}
def DGo (C : Addr) (sp : Sp) (KK : Hp → Prop) (ls : List (Key × V)) : List (Key × V) → Hp → (Bool → Hp → Prop) → Prop
  | [], H, Q => Q true H
  | (k, v) :: r, H, Q => match valV ls k with
    | none => Q false H
    | some y => ∃ a b dx dy fs gs, v = .ref a ∧ y = .ref b ∧ H a = some (.ins C dx fs) ∧ H b = some (.ins C dy gs) ∧ (a = b → DGo C sp KK ls r H Q) ∧ sp [.ref a, .ref b] H (fun z H' => ∃ t, z = .bl t ∧ KK H' ∧ if t = true then DGo C sp KK ls r H' Q else Q false H') E0
def rEqDO (C : Addr) (sp : Sp) : R2 := fun x y H Q => ∃ a b oa ob ks ls, x = .ref a ∧ y = .ref b ∧ H a = some (.frz oa (.dK ks)) ∧ H b = some (.frz ob (.dK ls)) ∧
  if ks.length = ls.length then DGo C sp (fun H' => H' a = some (.frz oa (.dK ks)) ∧ H' b = some (.frz ob (.dK ls))) ls ks H (fun r H' => Q (.bl r) H') else Q (.bl false) H
end
end Vm

set_option maxHeartbeats 1000000
namespace Vm
open PySem L2 PyProof.Rows
mutual
def tpl : D → Bool
  | .non => true
  | .bl _ => true
  | .int _ => true
  | .str _ => true
  | .tup xs => tplL xs
  | .tux xs => tplL xs
  | _ => false
def tplL : List D → Bool
  | [] => true
  | d :: ds => tpl d && tplL ds
end
mutual
theorem eqv_tpl : ∀ (d : D), tpl d = true → PyData.eqv (pd d) (pd d) = true
  | .non, _ => by simp [pd, PyData.eqv]
  | .bl b, _ => by simp [pd, PyData.eqv]
  | .int i, _ => by simp [pd, PyData.eqv]
  | .str x, _ => by simp [pd, PyData.eqv]
  | .tup xs, h => by simp only [pd, PyData.eqv]; exact eqv_tplL xs (by simpa [tpl] using h)
  | .tux xs, h => by simp only [pd, PyData.eqv]; exact eqv_tplL xs (by simpa [tpl] using h)
  | .lst _, h => by simp [tpl] at h
  | .rol _, h => by simp [tpl] at h
  | .olst _, h => by simp [tpl] at h
  | .otup _, h => by simp [tpl] at h
  | .dic _, h => by simp [tpl] at h
  | .dix _, h => by simp [tpl] at h
  | .ins _ _, h => by simp [tpl] at h
  | .odic _, h => by simp [tpl] at h
  | .odix _, h => by simp [tpl] at h
  | .oins _ _ _, h => by simp [tpl] at h
  | .loc _, h => by simp [tpl] at h
  | .exn _ _, h => by simp [tpl] at h
  | .fn _, h => by simp [tpl] at h
  | .otbl _, h => by simp [tpl] at h
theorem eqv_tplL : ∀ (ds : List D), tplL ds = true → PyData.eqvAll (pdL ds) (pdL ds) = true
  | [], _ => by simp [pdL, PyData.eqvAll]
  | d :: ds, h => by
    have h' : tpl d = true ∧ tplL ds = true := by simpa [tplL] using h
    simp only [pdL, PyData.eqvAll, eqv_tpl d h'.1, eqv_tplL ds h'.2, Bool.and_self]
end
section
variable {w : Wd} {G : Gs}
mutual
theorem uq : ∀ {d d' : D} {v : V}, tpl d = true → tpl d' = true → Fz w G d v → Fz w G d' v → pd d = pd d'
  | .non, d', v, _, h', z, z' => by
    obtain rfl := fz_non.mp z
    cases d' <;> first | rfl | (simp [tpl] at h'; done) | (simp [Fz] at z'; done)
  | .bl x, d', v, _, h', z, z' => by
    obtain rfl := fz_bl.mp z
    cases d' <;> first | (simp [tpl] at h'; done) | (simp [Fz] at z'; done) | (simp [Fz] at z'; subst z'; rfl)
  | .int x, d', v, _, h', z, z' => by
    obtain rfl := fz_int.mp z
    cases d' <;> first | (simp [tpl] at h'; done) | (simp [Fz] at z'; done) | (simp [Fz] at z'; subst z'; rfl)
  | .str x, d', v, _, h', z, z' => by
    obtain ⟨rfl, _⟩ := fz_str.mp z
    cases d' <;> first | (simp [tpl] at h'; done) | (simp [Fz] at z'; done) | (simp [Fz] at z'; obtain ⟨rfl, _⟩ := z'; rfl)
  | .tup xs, d', v, h, h', z, z' => by
    obtain ⟨a, vs, rfl, h1, _, h2⟩ := fz_tup.mp z
    cases d' with
    | tup ys =>
      obtain ⟨a', vs', e, k1, _, k2⟩ := fz_tup.mp z'
      cases e
      rw [h1] at k1
      cases k1
      simp only [pd, uqL (by simpa [tpl] using h) (by simpa [tpl] using h') h2 k2]
    | tux ys =>
      obtain ⟨a', o, vs', e, k1, _⟩ := fz_tux.mp z'
      cases e
      rw [h1] at k1
      cases k1
    | _ => first | (simp [tpl] at h'; done) | (simp [Fz] at z'; done)
  | .tux xs, d', v, h, h', z, z' => by
    obtain ⟨a, o, vs, rfl, h1, _, _, h2⟩ := fz_tux.mp z
    cases d' with
    | tux ys =>
      obtain ⟨a', o', vs', e, k1, _, _, k2⟩ := fz_tux.mp z'
      cases e
      rw [h1] at k1
      cases k1
      simp only [pd, uqL (by simpa [tpl] using h) (by simpa [tpl] using h') h2 k2]
    | tup ys =>
      obtain ⟨a', vs', e, k1, _⟩ := fz_tup.mp z'
      cases e
      rw [h1] at k1
      cases k1
    | _ => first | (simp [tpl] at h'; done) | (simp [Fz] at z'; done)
  | .lst _, _, _, h, _, _, _ => by simp [tpl] at h
  | .rol _, _, _, h, _, _, _ => by simp [tpl] at h
  | .olst _, _, _, h, _, _, _ => by simp [tpl] at h
  | .otup _, _, _, h, _, _, _ => by simp [tpl] at h
  | .dic _, _, _, h, _, _, _ => by simp [tpl] at h
  | .dix _, _, _, h, _, _, _ => by simp [tpl] at h
  | .ins _ _, _, _, h, _, _, _ => by simp [tpl] at h
  | .odic _, _, _, h, _, _, _ => by simp [tpl] at h
  | .odix _, _, _, h, _, _, _ => by simp [tpl] at h
  | .oins _ _ _, _, _, h, _, _, _ => by simp [tpl] at h
  | .loc _, _, _, h, _, _, _ => by simp [tpl] at h
  | .exn _ _, _, _, h, _, _, _ => by simp [tpl] at h
  | .fn _, _, _, h, _, _, _ => by simp [tpl] at h
  | .otbl _, _, _, h, _, _, _ => by simp [tpl] at h
theorem uqL : ∀ {ds ds' : List D} {vs : List V}, tplL ds = true → tplL ds' = true → FzL w G ds vs → FzL w G ds' vs → pdL ds = pdL ds'
  | [], ds', vs, _, _, z, z' => by
    obtain rfl := fzl_nil.mp z
    cases ds' with
    | nil => rfl
    | cons d ds' =>
      obtain ⟨_, _, e, _⟩ := fzl_cons.mp z'
      cases e
  | d :: ds, ds', vs, h, h', z, z' => by
    obtain ⟨v, r, rfl, z1, z2⟩ := fzl_cons.mp z
    cases ds' with
    | nil => cases fzl_nil.mp z'
    | cons d' ds' =>
      obtain ⟨v', r', e, y1, y2⟩ := fzl_cons.mp z'
      cases e
      have h : tpl d = true ∧ tplL ds = true := by simpa [tplL] using h
      have h' : tpl d' = true ∧ tplL ds' = true := by simpa [tplL] using h'
      simp only [pdL, uq h.1 h'.1 z1 y1, uqL h.2 h'.2 z2 y2]
end
end
def insOk (c n : Nat) (x y : D) (t : Bool) : Bool := match x, y with
  | .ins c1 fs, .ins c2 gs => decide (c1 = c) && (decide (c2 = c) && (tplL (fs.take n) && (tplL (gs.take n) && (t == deq (.tup (fs.take n)) (.tup (gs.take n))))))
  | _, _ => false
def eqK (c n : Nat) (F : PF) (ls : List (D × D)) : List (D × D) → Option Bool
  | [] => some true
  | (k, x) :: r => match lkD ls k with
    | none => some false
    | some y => match F [x, y] with
      | .ok (.bl t) => if insOk c n x y t = true ∧ noLocL [x, y] = true then (if t = true then eqK c n F ls r else some false) else none
      | _ => none
def eEqK (c n : Nat) (F : PF) (f1 f2 : EM) : EM := fun e => (f1 e).bind fun x e1 => (f2 e1).bind fun y e2 => match x, y with
  | .dic ks, .dic ls => if ks.length = ls.length then lift ((eqK c n F ls ks).map .bl) e2 else .ok (.bl false) e2
  | _, _ => .stuck
section
variable {X : Cx} {W : Wx} {s : Bool} {w : Wd} {pos : Pos} {a b : Expr} {F : PF} {k : Nat} {fa fb : EM}
end
end Vm

set_option maxHeartbeats 1000000
namespace Vm
open PySem L2 PyProof.Rows
def DHits (K : PySem.W.Frag) (H : Hp) (ls : List (Key × V)) : List (Key × V) → Bool → Prop
  | [], r => r = true
  | (k, v) :: t, r => match valV ls k with
    | none => r = false
    | some y => ∃ d e r', Dp K H v d ∧ Dp K H y e ∧ d.canLay0 = true ∧ e.canLay0 = true ∧ d.depth ≤ 20 ∧ DHits K H ls t r' ∧ r = (PyData.eqv d e && r')
def rEqDP (K : PySem.W.Frag) : R2 := fun x y H Q => ∃ a b ks ls r, x = .ref a ∧ y = .ref b ∧ Rd H a (.dK ks) ∧ Rd H b (.dK ls) ∧ (ks.length = ls.length → DHits K H ls ks r) ∧ Q (.bl (decide (ks.length = ls.length) && r)) H
section
variable {X : Cx} {pins : List (Addr × Obj)} {σ : L2.St} {H : Hp} {s : Shared}
end
def eqP (ls : List (D × D)) : List (D × D) → Option Bool
  | [] => some true
  | (k, x) :: r => match lkD ls k with
    | none => some false
    | some y => if pln DEP x = true ∧ pln DEP y = true then (eqP ls r).map (deq x y && ·) else none
def eEqP (f1 f2 : EM) : EM := fun e => (f1 e).bind fun x e1 => (f2 e1).bind fun y e2 => match x, y with
  | .dic ks, .dic ls => if ks.length = ls.length then lift ((eqP ls ks).map .bl) e2 else .ok (.bl false) e2
  | _, _ => .stuck
section
variable {X : Cx} {W : Wx} {s : Bool} {w : Wd} {pos : Pos} {a b : Expr} {fa fb : EM}
end
end Vm

set_option maxHeartbeats 1000000
namespace Vm
open PySem L2 PyProof.Rows PySem.Spec
section
variable {X : Cx} {pins : List (Addr × Obj)} {σ : L2.St} {H : Hp} {s : Shared}
end
def kvw (v d : Addr) : HO := .ext fun h => PySem.W.KdlKeysView h v d
def kit (it d : Addr) (o : Obj) (n : Nat) : HO := .ext fun h => ∃ es ep, o.data = .dict es ep ∧ h.IsKeyIter it d 0 n ep
def tKv (td : TE) : TE := fun σ H Q => td σ H fun x H1 => ∃ d o ks, x = .ref d ∧ H1 d = some (.frz o (.dK ks)) ∧ ∀ v, H1 v = none → Q (.ref v) (upd H1 v (kvw v d))
def rIterV : List V → Hp → VK → Prop := fun xs H Q => ∃ v d o ks, xs = [.ref v] ∧ H v = some (kvw v d) ∧ H d = some (.frz o (.dK ks)) ∧ ∀ it, H it = none → Q (.ref it) (upd H it (kit it d o ks.length))
section
variable {X : Cx} {e : Expr} {td : TE} {apos cpos : Pos}
end
end Vm

set_option maxHeartbeats 1000000
namespace Vm
open PySem L2 PyProof.Rows PySem.Spec
def spIt (C : Addr) (fn : Str) : Sp := fun vs H Q _ => ∃ a d o dx fs ks, vs = [.ref a] ∧ H a = some (.ins C dx fs) ∧ fs.lookup fn = some (.ref d) ∧ H d = some (.frz o (.dK ks)) ∧ ∀ v it, H v = none → H it = none → v ≠ it → Q (.ref it) (upd (upd H v (kvw v d)) it (kit it d o ks.length))
section
variable {X : Cx} {p1 p2 p3 p4 p5 p6 p7 : Pos} {fn : Str}
end
section
variable {X : Cx} {C f fl : Addr} {fd fdl : FuncData} {ps psl : List Str} {sp : Sp} {k kl : Nat} {fn : Str}
def rListIt (C : Addr) (fn : Str) (sp : Sp) : List V → Hp → VK → Prop := fun xs H Q => ∃ a d o dx fs ks, xs = [.ref a] ∧ H a = some (.ins C dx fs) ∧ fs.lookup fn = some (.ref d) ∧ H d = some (.frz o (.dK ks)) ∧ ks.length ≤ sizeLine ∧ ∀ q v it, H q = none → H v = none → v ≠ q → H it = none → it ≠ q → v ≠ it →
  sp [.ref a] (upd (upd (upd H q (.lst [])) v (kvw v d)) it (kit it d o ks.length)) (fun z H2 => ∃ n : Int, z = .int n ∧ 0 ≤ n ∧ n ≤ 1000 ∧ H2 q = some (.lst []) ∧ H2 d = some (.frz o (.dK ks)) ∧ H2 it = some (kit it d o ks.length) ∧ Q (.ref q) (upd (delH H2 it) q (.lst (ks.map fun p => kV p.1)))) E0
end
end Vm

set_option maxHeartbeats 1000000
namespace Vm
open PySem L2 PyProof.Rows
def eListO (c j : Nat) (F : FV) (fo : EM) : EM := fun e => (fo e).bind fun x e1 => match cel x e1 with
  | some (_, .oins c' _ fs) => if c' = c then (match fs[j]? with
    | some (.dic kvs) => if kvs.length ≤ 1000 then (callF F [x] e1).bind fun r e2 => (match r with
      | .int n => if 0 ≤ n ∧ n ≤ 1000 then .ok (.olst (kvs.map (·.1))) e2 else .stuck
      | _ => .stuck) else .stuck
    | _ => .stuck) else .stuck
  | _ => .stuck
section
variable {w : Wd} {G : Gs}
end
section
variable {X : Cx} {W : Wx} {s : Bool} {w : Wd} {pos p : Pos} {a : Expr} {F : FV} {k kl : Nat} {fo : EM}
end
end Vm

set_option maxHeartbeats 1000000
namespace Vm
open PySem L2 PyProof.Rows
def itKeysD (f : EM) : LM := fun e => (f e).bind fun x e1 => match x with
  | .dic kvs => .ok (kvs.map Prod.fst) e1
  | _ => .stuck
section
variable {X : Cx} {W : Wx} {s : Bool} {w : Wd} {x tg : Expr} {f : EM}
end
def dLenK : D → Option D
  | .dic kvs => some (.int kvs.length)
  | _ => none
def dListK : D → Option D
  | .dic kvs => some (.olst (kvs.map Prod.fst))
  | _ => none
def dStrT : D → Option D
  | .str x => some (.str x)
  | _ => none
def dDictK : D → Option D
  | .dic kvs => some (.odic kvs)
  | _ => none
def eFrzT (i : Nat) : EM := fun e => match e.sl[i]? with
  | some (some d) => match frzT d with
    | some d' => .ok d' ⟨e.sl.set i (some d'), e.mu⟩
    | none => .stuck
  | _ => .stuck
section
variable {X : Cx} {w : Wd} {W : Wx} {pos p : Pos}
end
section
variable {X : Cx} {W : Wx} {w : Wd} {pos p : Pos} {x : Str} {k c nf : Nat} {q : IF}
end
end Vm

set_option maxHeartbeats 1000000
namespace Vm
open PySem L2 PyProof.Rows
section
variable {X : Cx} {C f : Addr} {fd : FuncData} {ps : List Str} {sp : Sp} {k : Nat}
theorem _root_.L2H.RoomH.in1 {k : Nat} {A : Around} (r : L2H.RoomH (k + 1) A) : L2H.RoomH k A.in1 := ⟨by have := r.dp; show A.depth + 3 * k + 5 < _; omega, by have := r.un; show A.units + 1 + 16 * k + 200 < _; omega⟩
end
section
variable {X : Cx} {W : Wx} {s : Bool} {w : Wd} {pos p : Pos} {a : Expr} {F : FV} {k : Nat} {fo : EM}
end
def dEqI : D → D → Option D
  | .int a, .int b => some (.bl (decide (a = b)))
  | _, _ => none
end Vm

set_option maxHeartbeats 1000000
namespace Vm
open PySem L2 PyProof.Rows
def rNeE (K : PySem.W.Frag) : R2 := fun x y H Q => ∃ a b xs, x = .ref a ∧ y = .ref b ∧ SqL K H a xs ∧ SqL K H b [] ∧ Q (.bl (!xs.isEmpty)) H
def eNeNil (fo : EM) : EM := fun e => (fo e).bind fun x e1 => match x with
  | .lst ds => .ok (.bl (!ds.isEmpty)) e1
  | _ => .stuck
section
variable {X : Cx} {W : Wx} {s : Bool} {w : Wd} {pos p2 : Pos} {a : Expr} {fo : EM}
end
end Vm

set_option maxHeartbeats 1000000
namespace Vm
open PySem L2 PyProof.Rows PySem.Spec
def rIterN (n : Nat) : List V → Hp → VK → Prop := fun xs H Q => ∃ v d o ks, xs = [.ref v] ∧ H v = some (kvw v d) ∧ H d = some (.frz o (.dK ks)) ∧ ∀ it, H it = none → n ≤ it → Q (.ref it) (upd H it (kit it d o ks.length))
section
variable {X : Cx} {p1 p2 p3 p4 p5 p6 p7 : Pos} {fn : Str}
end
theorem call_at {P : Program} {w : World} {K : PySem.W.Frag} {mg : Str → Option Value} {base : Heap} {x qual : Str} {params : Arguments} {body : List Stmt} {scope : Scope} {dvs : List V} {kws : List (Str × V)} {f : Addr} {fd : FuncData} {N ps : List Str} {k : Nat} (F : FunD K x qual params body scope dvs kws f fd) (S : FnScope N ps scope)
    {A : Around} {outer : List Env} {s : Shared} {H : Hp} {args : Args} {us : List Value} {vs : List V} {Q : VK} {E : XK} (hr : Room (k + 1) A) (e0 : Env0 P w K mg base A outer s H) (hb : BindsTo s fd args (ps.zip us)) (rv : Vals vs us) (hl : vs.length = ps.length)
    (body : ∀ cdv, Room k (A.deeper (envOfC qual scope s.heap.objs.size f cdv)) → ∃ t, PSs (cxOf CX0 P w K mg base N qual scope f cdv A outer s H E) body t ∧ t { nx := fun _ H' => Q .non H', rt := Q } (L2.start N vs) H) :
    codeAny (model P w) A (.call (.ref f) args) (CR CX0 outer P w H s Q E) s := by
  obtain ⟨oc, od, dV, kV, doc, pm, an, cdv, ct, osl, rfl, lk, hcd, _, _⟩ := F.ex
  have inK : K.In s.heap := e0.mod.kin.keeps fun b o z => (e0.bs b o z).1
  have noL : s.heap.NoLimit := e0.mod.nolimit.keeps fun b o z => (e0.bs b o z).1
  refine codeAny_call_function hr.depth (inK _ _ lk) rfl S.co S.gen rfl (PySem.W.codeRec_of inK hcd) (hb _ _ _ _ ?_)
  refine wpAny_newFunctionEnv_cells S.kind (fun ⟨y, u⟩ hy => ?_) fun env he s1 x1 => ?_
  · rcases S.par y (List.of_mem_zip hy).1 with z | z
    · exact .inl z
    · exact .inr ⟨z, PySem.W.cellsFrom_some _ _ _ (.inl z)⟩
  subst he
  refine ⟨noL.keeps x1.toInCall.keep, codeAny_func ?_⟩
  obtain ⟨t, ht, hq⟩ := body cdv (hr.deeper _)
  have I := inv_start (CX := CX0) (E := E) S hr.hd e0 hl rv x1
  refine wpAny_mono (ht.run [] s1 (L2.start N vs) H _ I hq) (fun fl s' hs => ?_) fun e s' hs => hs
  cases fl with
  | ret u =>
    obtain ⟨z, σ', H', J, rz, q⟩ := hs
    exact ⟨z, H', J.os, J.bare, J.base, J.hok, rz, q⟩
  | next =>
    obtain ⟨σ', H', J, q⟩ := hs
    exact ⟨V.non, H', J.os, J.bare, J.base, J.hok, rfl, q⟩
  | brk =>
    obtain ⟨_, _, _, q⟩ := hs
    exact q.elim
  | cont =>
    obtain ⟨_, _, _, q⟩ := hs
    exact q.elim
end Vm

set_option maxHeartbeats 1000000
namespace Vm
open PySem L2 PyProof.Rows PySem.Spec
structure MtI (P : Program) (w : World) (K : PySem.W.Frag) (mg : Str → Option Value) (base : Heap) (k : Nat) (C : Addr) (fn : Str) : Prop where
  ex : ∃ (f : Addr) (fd : FuncData) (ps : List Str), Cls K C ∧ Meth K C "__iter__" f ∧ Binds K fd ps [] ∧ ps.length = 1 ∧
    ∀ (A : Around) (outer : List Env) (s : Shared) (H : Hp) (args : Args) (us : List Value) (a d dx : Addr) (fs : List (Str × V)) (o : Obj) (ks : List (Key × V)) (E : XK), Room k A → Env0 P w K mg base A outer s H → BindsTo s fd args (ps.zip us) → Vals [V.ref a] us → H a = some (.ins C dx fs) → fs.lookup fn = some (.ref d) → H d = some (.frz o (.dK ks)) →
      codeAny (model P w) A (.call (.ref f) args) (CR CX0 outer P w H s (fun z H' => ∃ v it, z = .ref it ∧ H v = none ∧ H it = none ∧ v ≠ it ∧ s.heap.objs.size ≤ it ∧ H' = upd (upd H v (kvw v d)) it (kit it d o ks.length)) E) s
theorem Met1.it {P : Program} {w : World} {K : PySem.W.Frag} {mg : Str → Option Value} {base : Heap} {C : Addr} {qual fn : Str} {st : Stmt} {k : Nat} {N ps : List Str} (D : Met1 K C "__iter__" qual st) (hb : ∀ f fd, FunD K "__iter__" qual (defArgs st) (defBody st) (defScope st) [] [] f fd → Binds K fd ps []) (S : FnScope N ps (defScope st)) (hps : ps.length = 1) (hls : N.length = 1) (cl : Cls K C) (na : NoAttr K C fn)
    (body : ∀ (f : Addr) (cdv : Value) (A : Around) (outer : List Env) (s : Shared) (H : Hp) (E : XK), Room k (A.deeper (envOfC qual (defScope st) s.heap.objs.size f cdv)) →
      PSs (cxOf CX0 P w K mg base N qual (defScope st) f cdv A outer s H E).nox (defBody st) (tRet (tCB (rIterN s.heap.objs.size) (tCons (tKv (tFld K (tVar 0) fn)) tNil)))) : MtI P w K mg base (k + 1) C fn := by
  obtain ⟨f, fd, c, m, F⟩ := D.ex
  refine ⟨f, fd, ps, c, m, hb f fd F, hps, fun A outer s H args us a d dx fs o ks E hr e0 hbi rv ha hf hd => ?_⟩
  refine call_at F S hr e0 hbi rv (by rw [hps]; rfl) fun cdv hr2 => ⟨_, (body f cdv A outer s H E hr2).nox, ?_⟩
  have e1 : L2.start N [V.ref a] = [some (V.ref a)] := by
    unfold L2.start
    rw [hls]
    rfl
  rw [e1]
  refine ⟨.ref a, rfl, a, C, dx, fs, .ref d, rfl, ha, cl, na, hf, d, o, ks, rfl, hd, fun v hv => ?_⟩
  refine ⟨v, d, o, ks, rfl, upd_same, ?_, fun it hit hsz => ?_⟩
  · rw [upd_ne (ne_of_none hd hv)]
    exact hd
  · have hne : it ≠ v := fun z => by rw [z, upd_same] at hit; cases hit
    rw [upd_ne hne] at hit
    exact ⟨v, it, rfl, hv, hit, Ne.symm hne, hsz, rfl⟩
section
variable {X : Cx} {C : Addr} {fn : Str} {k : Nat}
def iIterO (C : Addr) (fn : Str) (td : TE) : TI := fun σ H R => td σ H fun x H1 => ∃ a d o dx fs ks, x = .ref a ∧ H1 a = some (.ins C dx fs) ∧ fs.lookup fn = some (.ref d) ∧ H1 d = some (.frz o (.dK ks)) ∧ ∀ v, H1 v = none → R (Itk d o ks) (upd H1 v (kvw v d))
end
end Vm

set_option maxHeartbeats 1000000
namespace Vm
open PySem L2 PyProof.Rows
def itIterO (c j : Nat) (fo : EM) : LM := fun e => (fo e).bind fun x e1 => match cel x e1 with
  | some (_, .oins c' _ fs) => if c' = c then (match fs[j]? with
    | some (.dic kvs) => .ok (kvs.map Prod.fst) e1
    | _ => .stuck) else .stuck
  | _ => .stuck
section
variable {X : Cx} {W : Wx} {s : Bool} {w : Wd} {x tg : Expr} {fo : EM} {k : Nat}
end
end Vm

set_option maxHeartbeats 1000000
namespace Vm
open PySem L2
def sTryZ (i j : Nat) (es es0 : List Nat) (bd : SM) : SM := fun e => match bd e with
  | .exc c (some x) e1 => if es.contains c = true ∧ i < e1.sl.length ∧ j < e1.sl.length then .nx ⟨(e1.sl.set j (some (.exn c [x]))).set i none, e1.mu⟩ else .stuck
  | .exc c none e1 => if es0.contains c = true ∧ i < e1.sl.length ∧ j < e1.sl.length then .nx ⟨(e1.sl.set j (some (.exn c []))).set i none, e1.mu⟩ else .stuck
  | r => r
section
variable {X : Cx} {W : Wx} {w : Wd} {x n m : Str} {i j : Nat} {body : List Stmt} {np pos pos' p1 p2 p3 : Pos} {bd : SM} {es es0 : List Nat} {hE : Addr}
end
end Vm

set_option maxHeartbeats 1000000
namespace Vm
open PySem L2 PyProof.Rows
def eEqR (c c2 : Nat) (F : FV) (f1 f2 : EM) : EM := fun e => (f1 e).bind fun x e1 => (f2 e1).bind fun y e2 => eqDo c c2 F x y e2
section
variable {X : Cx} {W : Wx} {s : Bool} {w : Wd} {pos : Pos} {a b : Expr} {F : FV} {k : Nat} {fa fb : EM}
end
def eLst2B (i j : Nat) : EM := fun e => match e.sl[i]?, e.sl[j]? with
  | some (some d1), some (some d2) => .ok (.olst [d1, d2]) e
  | _, _ => .stuck
section
variable {X : Cx} {W : Wx} {s : Bool} {w : Wd} {pos p1 p2 : Pos}
end
end Vm

set_option maxHeartbeats 1000000
namespace Vm
open PySem L2 PyProof.Rows
def eEqNil (fo : EM) : EM := fun e => (fo e).bind fun x e1 => match x with
  | .lst ds => .ok (.bl ds.isEmpty) e1
  | _ => .stuck
section
variable {X : Cx} {W : Wx} {s : Bool} {w : Wd} {pos p2 : Pos} {a : Expr} {fo : EM}
end
end Vm

set_option maxHeartbeats 1000000
namespace VmH
open PySem PySem.Spec PyProof.Rows L2 He
structure ExZ (K : PySem.W.Frag) (C h : Addr) : Prop where
  ec : ExcC K C
  nc : Vm.NotC K C
  em : PySem.W.exmOne K (.ref C) (.ref h) = some true
theorem cf_exz {K : PySem.W.Frag} {ps : List CF} (h : ps.all (cfB K) = true) {x : Str} (m : CF.exz x ∈ ps) : ExZ K (ga K x) (ga K "HushError") := by
  have b := List.all_eq_true.mp h _ m
  simp only [cfB, Bool.and_eq_true] at b
  obtain ⟨b1, b2, b3, b4⟩ := b
  have f := xfB_ok b1
  unfold isB at b2
  simp only [Bool.and_eq_true] at b2
  obtain ⟨i1, i2, i3, i4⟩ := b2
  refine ⟨⟨f.ga, f.gg, f.exC, f.hdC, eqO_ok i1, eqO_ok i2, of_decide_eq_true i3, of_decide_eq_true i4⟩, fun t ht => ?_, of_decide_eq_true b4⟩
  unfold notB at b3
  exact of_decide_eq_true (List.all_eq_true.mp b3 t ht)
theorem cf_kto {K : PySem.W.Frag} {ps : List CF} (h : ps.all (cfB K) = true) {c d : Str} {r : Bool} (m : CF.kto d c r ∈ ps) : PySem.W.kitOne K (.ref (ga K d)) (.ref (ga K c)) = some r := by
  have b := List.all_eq_true.mp h _ m
  simpa only [cfB, decide_eq_true_eq] using b
end VmH

set_option maxHeartbeats 1000000
namespace Vm
open PySem L2 PyProof.Rows
theorem exH_ok {P : Program} {w : World} {H : Hp} {h : Heap} {a C d : Addr} {oe : Obj} {vs : Array Value} (e : h.get? a = some oe) (z : Zc (.ref C) (some d) oe) (dt : oe.data = .fields vs) : ObjOk P w H h a (exH C d a) :=
  ⟨⟨oe, vs, e, z.1, z.2, dt⟩, ⟨oe, e⟩, fun _ _ ⟨o, v, q, r⟩ k => ⟨o, v, k o q, r⟩⟩
theorem exZ_ok {P : Program} {w : World} {H : Hp} {h : Heap} {a C : Addr} {oe : Obj} {vs : Array Value} (e : h.get? a = some oe) (z : Zc (.ref C) none oe) (dt : oe.data = .fields vs) : ObjOk P w H h a (exZ C a) :=
  ⟨⟨oe, vs, e, z.1, z.2, dt⟩, ⟨oe, e⟩, fun _ _ ⟨o, v, q, r⟩ k => ⟨o, v, k o q, r⟩⟩
theorem pe_of_mk {X : Cx} {e : Expr} {t : L2.St → Hp → XK → Prop} (h : PMk X e t) : PE X e (fun σ H Q => t σ H fun cls d H' => ∃ C, cls = .ref C ∧ match d with
    | some dd => ∀ a, H' a = none → Q (.ref a) (upd H' a (exH C dd a))
    | none => ∀ a, H' a = none → Q (.ref a) (upd H' a (exZ C a))) := by
  refine ⟨fun pins s σ H Q I q => wpAny_mono (h pins s σ H _ I q) (fun u s1 hu => ?_) fun _ _ x => x⟩
  obtain ⟨a, oe, vs, sI, H', cls, d, rfl, J, k, hne, ha, hz, hd, h1, na, os, ag, r, C, rfl, q⟩ := hu
  have fin : ∀ {o : HO}, ObjOk X.prog X.w (upd H' a o) s1.heap a o → Inv X pins σ (upd H' a o) s1 := fun {o} new => by
    have J2 := J.laidN (t' := s1.toks) k hne na new
    exact ⟨J2.ok, os.trans J2.os, ag, J2.base, J2.loc, J2.cell, J2.free, J2.freeC, J2.pin, J2.hok, J2.len⟩
  cases d with
  | some dd => exact ⟨.ref a, _, fin (exH_ok ha hz hd), rfl, q a na⟩
  | none => exact ⟨.ref a, _, fin (exZ_ok ha hz hd), rfl, q a na⟩
def eExn (c : Nat) (f : EM) : EM := fun e => (f e).bind fun d e1 => .ok (.exn c [d]) e1
section
variable {X : Cx} {W : Wx} {s : Bool} {w : Wd} {pos p : Pos} {x : Str} {a : Expr} {f : EM}
theorem exn_end {b1 : Bs} {σ : L2.St} {e1 : En} {Q : VK} {c : Nat} {d : D} {v : V} {fld : Str} {dx : Addr} (hfl : w.flds c = [fld]) (S1 : Sat w b1 σ e1) (z : Fz w b1.G d v) (hdx : b1.H dx = none)
    (h1 : ∀ b', Gr s b1 b' → Sat w b' σ e1 → ∀ v, Fz w b'.G (.exn c [d]) v → Q v b'.H) : ∀ a, (b1.new dx (.xd [(fld, v)])).H a = none → Q (.ref a) (upd (b1.new dx (.xd [(fld, v)])).H a (exH (w.cls c) dx a)) := by
  intro a0 ha
  have g : Gr s b1 (b1.new dx (.xd [(fld, v)])) := Gr.new (S1.fresh_F hdx) hdx
  have S2 : Sat w (b1.new dx (.xd [(fld, v)])) σ e1 := S1.new hdx
  have gN : Gr s (b1.new dx (.xd [(fld, v)])) ((b1.new dx (.xd [(fld, v)])).new a0 (exH (w.cls c) dx a0)) := Gr.new (S2.fresh_F ha) ha
  have k1 : (b1.new dx (.xd [(fld, v)])).G.F dx = some (.xd ((w.flds c).zip [v])) := by
    show upd b1.G.F dx _ dx = _
    rw [upd_same, hfl]
    rfl
  exact h1 _ (g.trans gN) (S2.new ha) (.ref a0) (fz_exn.mpr ⟨a0, dx, [v], rfl, .inl ⟨upd_same, gN.g.f _ _ k1⟩, by rw [hfl]; rfl, FzL.one ((z.mono g.g).mono gN.g)⟩)
theorem zExn {fld : Str} (c : Nat) (o : Okx w X) (M : ExM X.prog X.K X.mg (w.cls c) fld) (hfl : w.flds c = [fld]) (hr : Room 2 X.A) (hm : X.mg x = some (.ref (w.cls c))) (ha : PE X a (tZ w W s f)) (hg : Gl X x := by rfl)
    (hdb : (x == ("__debug__" : Str)) = false := by decide) (he : starEach [a] X.env = (false, eval a X.env) :: starEach [] X.env := by rfl) (hpl : (backTo pos (starEach [] X.env)).any (·.1) = false := by rfl) :
    PE X (.Call (.Name x p) [a] [] pos) (tZ w W s (eExn c f)) := by
  obtain ⟨fI, F, xp, dV, kV, doc, pm, ct, oc, an, od, osl, lk, hcd, I, hms, hdb1, hcd1, hb⟩ := M.ex
  have fo := VmX.ei_ok (CX := CX0) (w := X.w) (base := X.base) (k := 0) lk hcd I hms hdb1 hcd1
  refine (pe_of_mk (pmk_oex I.T I.iC I.tI fo hr hb .nil pass0 hg hm (pa_cons ha pa_nil he) hdb he hpl)).imp fun σ H Q h => ?_
  obtain ⟨b, e, rfl, S, h⟩ := h
  refine ⟨b, e, rfl, S, (PR.bind h).mono fun d b1 e1 g1 S1 h1 v z => ⟨by simp, fun a0 ha0 => ⟨a0, v, rfl, upd_same, fun dx hdx hne => ⟨rfl, dx, [(fld, v)], upd_same, ?_, ?_, _, rfl, ?_⟩⟩⟩⟩
  · rw [upd_ne hne, upd_same]
  · rw [upd_ne hne] at hdx
    exact hdx
  · rw [upd_ne hne] at hdx
    have eH : upd (del (upd (upd (upd b1.H a0 (exo a0 (w.cls c) none)) dx (exd dx [(fld, v)])) a0 (exo a0 (w.cls c) (some dx))) a0) dx (.xd [(fld, v)]) = (b1.new dx (.xd [(fld, v)])).H := by
      funext y
      show _ = upd b1.H dx (.xd [(fld, v)]) y
      by_cases h1 : y = dx
      · rw [h1, upd_same, upd_same]
      · rw [upd_ne h1, upd_ne h1]
        by_cases h2 : y = a0
        · rw [h2, del_same, ha0]
        · rw [del_ne h2, upd_ne h2, upd_ne h1, upd_ne h2]
    rw [eH]
    exact exn_end hfl S1 z hdx h1
end
end Vm

set_option maxHeartbeats 2000000
namespace Vm
open PySem L2 PyProof.Rows PySem.Spec
def tMkN (C : Addr) (sp : Sp) (n : Nat) (gV : List V → List V → List V) (tk : TA) : L2.St → Hp → XK → Prop := fun σ H Q => tk σ H fun zs H1 => zs.length = n ∧ ∀ a, H1 a = none → sp (gV [.ref a] zs) (upd H1 a (exo a C none))
    (fun v H2 => v = .non ∧ ∃ (d : Addr) (fs : List (Str × V)), H2 a = some (exo a C (some d)) ∧ H2 d = some (exd d fs) ∧ H1 d = none ∧ Q (.ref C) (some d) (upd (del H2 a) d (.xd fs))) (fun _ _ _ => False)
theorem pmkN {X : Cx} {CX : CXT} {x : Str} {p pos : Pos} {C fI : Addr} {k : Nat} {fd : FuncData} {ps ks : List Str} {sp : Sp} {kws : List Keyword} {tk : TA} {g : List Value → List Value → List Value} {gV : List V → List V → List V} (T : OexC X.K C) (iC : PySem.W.findIn X.K (.ref C) "__init__" = some (some (.ref fI))) (tI : PySem.W.typeIn X.K (.ref fI) = some (.type "function"))
    (F1 : FnOk X.prog X.w X.K X.mg X.base CX k fI fd ps sp) (hr : Room (k + 1) X.A) (hb : KBn X.K fd ps 1 ks g gV) (hx : Passes CX X (fun _ _ _ => False)) (hg : Gl X x) (hm : X.mg x = some (.ref C)) (hkw : PK X kws tk) (hg2 : ∀ u ws, ws.length = ks.length → (g [u] ws).length = ps.length)
    (hdb : (x == ("__debug__" : Str)) = false := by decide) (hall : (backToKw pos (keywordEach kws X.env)).all (·.1.isSome) = true := by rfl) (hks : (backToKw pos (keywordEach kws X.env)).filterMap (·.1) = ks := by rfl)
    (hpl : ((backTo pos (starEach [] X.env)).any (·.1) || (backToKw pos (keywordEach kws X.env)).any (·.1.isNone)) = false := by rfl) :
    PMk X (.Call (.Name x p) [] kws pos) (tMkN C sp ks.length gV tk) := by
  intro pins s σ H Q I h
  obtain ⟨nm, q, N, bs, bm, sn, sub, ab, col, dd, k0, k1, k2, k3, k5, hC, hbm⟩ := T.cls
  refine wpAny_Call_Name_kw (ld_glob I hg hm ?_ hdb)
  refine PySem.W.callWith_KW0 (h₀ := X.base) I.ok.mod.kin T.kC hall ?_ hpl
  refine thn (hkw.run pos pins s σ H _ I h) fun ws s1 ⟨zs, H1, I1, rz, l2, q1⟩ => ⟨I1.kIn, ?_⟩
  rw [hks]
  obtain ⟨hp, gn, dr, tk, os⟩ := s1
  let e := hp.objs.size + 1
  have hsz : hp.objs.size ≤ e := Nat.le_succ _
  have hn : H1 e = none := I1.hok.fresh hsz
  have hq := q1 e hn
  let hp2 := (hp.push (PySem.W.kdv_tup [])).push (PySem.HandSPX.excO C hp.objs.size)
  have kk : ∀ b o, hp.get? b = some o → hp2.get? b = some o := fun b o z => Heap.get?_push_of_some _ (Heap.get?_push_of_some _ z)
  have hget : hp2.get? e = some (PySem.HandSPX.excO C hp.objs.size) := by
    show ((hp.push _).push _).get? (hp.objs.size + 1) = _
    heap_get
  have I2 : Inv X pins σ (upd H1 e (exo e C none)) ⟨hp2, gn, dr, tk, os⟩ := I1.laid (t' := tk) kk hsz (exo_ok hget)
  have lw : ws.length = ks.length := by
    have := rz.length
    omega
  have r2 : Vals (gV [.ref e] zs) (g [.ref e] ws) := hb.rel (.cons rfl .nil) rz
  have bt := hb.to ⟨hp2, gn, dr, tk, os⟩ [.ref e] ws I2.kIn rfl lw
  refine wpAny_call (VmK.callOwnK F.excBase_ValueError (fun Y => PySem.HandSPX.refsVE_contains Y bm hbm) (I1.kIn _ _ hC) (PySem.W.looks_findIn I1.kIn iC) (fun self => PySem.W.bind_fn I1.kIn self tI)
    (codeAny_mono (F1.run _ X.stack _ _ ⟨[.ref e], ks.zip ws⟩ (g [.ref e] ws) _ _ (fun _ _ _ => False) (hr.make C [] _) (I2.env0.make C [] _) bt r2 hq) fun r s' z => ?_))
  cases r with
  | error er => exact hx pins σ _ _ er s' I2 z
  | ok fl =>
    cases fl with
    | ret u =>
      obtain ⟨v, H2, os2, bare2, un2, hok2, rv, ev, d, fs, ea, ed, hd1, q2⟩ := z
      subst ev
      obtain ⟨h2, g2, d2, t2, os'⟩ := s'
      exact ⟨rv, mk_end (raises_own T.exC T.tyC) I1 hsz kk un2 hok2 os2 bare2 ea ed hd1 q2⟩
    | next => exact False.elim z
    | brk => exact False.elim z
    | cont => exact False.elim z
end Vm

set_option maxHeartbeats 2000000
namespace Vm
open PySem L2 PyProof.Rows PySem.Spec
structure ExMN (P : Program) (K : PySem.W.Frag) (mg : Str → Option Value) (C : Addr) (fld : Str) : Prop where
  ex : ∃ (fI : Addr) (F : NdefX.NF) (dV kV doc pm ct oc : Value) (an od : Option Addr) (osl : Array (Option Value)), K.lookup fI = some ⟨oc, od, .func (PySem.W.fnX F.name F.qual F.params F.body F.scope F.cl dV kV doc pm an (.ref F.c) ct), osl⟩ ∧ PySem.W.codeIn K (.ref F.c) F.qual = true ∧ VmX.Ei P K C fI F fld fld ∧ mg "super" = none ∧
    (fld == ("__debug__" : Str)) = false ∧ (fld == ("__classdict__" : Str)) = false ∧ Binds K (PySem.W.fnX F.name F.qual F.params F.body F.scope F.cl dV kV doc pm an (.ref F.c) ct) ["self", fld] [] ∧
    (∀ (s : Shared) (u v : Value), K.In s.heap → BindsTo s (PySem.W.fnX F.name F.qual F.params F.body F.scope F.cl dV kV doc pm an (.ref F.c) ct) ⟨[u], [(fld, v)]⟩ [("self", u), (fld, v)]) ∧
    (∀ (s : Shared) (u : Value), K.In s.heap → BindsTo s (PySem.W.fnX F.name F.qual F.params F.body F.scope F.cl dV kV doc pm an (.ref F.c) ct) ⟨[u], []⟩ [("self", u), (fld, .none)])
theorem ExMN.m {P : Program} {K : PySem.W.Frag} {mg : Str → Option Value} {C : Addr} {fld : Str} (M : ExMN P K mg C fld) : ExM P K mg C fld := by
  obtain ⟨fI, F, dV, kV, doc, pm, ct, oc, an, od, osl, lk, hcd, I, hms, h1, h2, hb, _⟩ := M.ex
  exact ⟨fI, F, fld, dV, kV, doc, pm, ct, oc, an, od, osl, lk, hcd, I, hms, h1, h2, hb⟩
theorem kb1 {K : PySem.W.Frag} {fd : FuncData} {fld : Str} (h : ∀ (s : Shared) (u v : Value), K.In s.heap → BindsTo s fd ⟨[u], [(fld, v)]⟩ [("self", u), (fld, v)]) : KBn K fd ["self", fld] 1 [fld] (fun us ws => us ++ ws) (fun vs zs => vs ++ zs) := by
  refine ⟨fun s us ws k l1 l2 => ?_, fun r rz => r.append rz⟩
  match us, ws, l1, l2 with
  | [u], [v], _, _ => exact h s u v k
theorem kb0 {K : PySem.W.Frag} {fd : FuncData} {fld : Str} (h : ∀ (s : Shared) (u : Value), K.In s.heap → BindsTo s fd ⟨[u], []⟩ [("self", u), (fld, .none)]) : KBn K fd ["self", fld] 1 [] (fun us _ => us ++ [.none]) (fun vs _ => vs ++ [.non]) := by
  refine ⟨fun s us ws k l1 l2 => ?_, fun r rz => r.append (.cons rfl .nil)⟩
  match us, ws, l1, l2 with
  | [u], [], _, _ => exact h s u k
section
variable {X : Cx} {W : Wx} {s : Bool} {w : Wd} {pos p kpos : Pos} {x : Str} {a : Expr} {f : EM}
theorem mk_new {b1 : Bs} {a0 dx C : Addr} {fld : Str} {v : V} (ha0 : b1.H a0 = none) (hne : dx ≠ a0) : upd (del (upd (upd (upd b1.H a0 (exo a0 C none)) dx (exd dx [(fld, v)])) a0 (exo a0 C (some dx))) a0) dx (.xd [(fld, v)]) = (b1.new dx (.xd [(fld, v)])).H := by
  funext y
  show _ = upd b1.H dx (.xd [(fld, v)]) y
  by_cases h1 : y = dx
  · rw [h1, upd_same, upd_same]
  · rw [upd_ne h1, upd_ne h1]
    by_cases h2 : y = a0
    · rw [h2, del_same, ha0]
    · rw [del_ne h2, upd_ne h2, upd_ne h1, upd_ne h2]
theorem zExnK {fld : Str} (c : Nat) (o : Okx w X) (M : ExMN X.prog X.K X.mg (w.cls c) fld) (hfl : w.flds c = [fld]) (hr : Room 2 X.A) (hm : X.mg x = some (.ref (w.cls c))) (ha : PE X a (tZ w W s f)) (hg : Gl X x := by rfl) (hdb : (x == ("__debug__" : Str)) = false := by decide)
    (hall : (backToKw pos (keywordEach [⟨some fld, a, kpos⟩] X.env)).all (·.1.isSome) = true := by rfl) (hks : (backToKw pos (keywordEach [⟨some fld, a, kpos⟩] X.env)).filterMap (·.1) = [fld] := by rfl)
    (hpl : ((backTo pos (starEach [] X.env)).any (·.1) || (backToKw pos (keywordEach [⟨some fld, a, kpos⟩] X.env)).any (·.1.isNone)) = false := by rfl) :
    PE X (.Call (.Name x p) [] [⟨some fld, a, kpos⟩] pos) (tZ w W s (eExn c f)) := by
  obtain ⟨fI, F, dV, kV, doc, pm, ct, oc, an, od, osl, lk, hcd, I, hms, hdb1, hcd1, hb, hk, h0⟩ := M.ex
  have fo := VmX.ei_ok (CX := CX0) (w := X.w) (base := X.base) (k := 0) lk hcd I hms hdb1 hcd1
  refine (pe_of_mk (pmkN I.T I.iC I.tI fo hr (kb1 hk) pass0 hg hm (pk_cons ha pk_nil) (fun u ws l => by simp at l; simp [l]) hdb hall hks hpl)).imp fun σ H Q h => ?_
  obtain ⟨b, e, rfl, S, h⟩ := h
  refine ⟨b, e, rfl, S, (PR.bind h).mono fun d b1 e1 g1 S1 h1 v z => ⟨rfl, fun a0 ha0 => ⟨a0, v, rfl, upd_same, fun dx hdx hne => ⟨rfl, dx, [(fld, v)], upd_same, ?_, ?_, _, rfl, ?_⟩⟩⟩⟩
  · rw [upd_ne hne, upd_same]
  · rw [upd_ne hne] at hdx
    exact hdx
  · rw [upd_ne hne] at hdx
    rw [mk_new ha0 hne]
    exact exn_end hfl S1 z hdx h1
theorem zExn0 {fld : Str} (c : Nat) (o : Okx w X) (M : ExMN X.prog X.K X.mg (w.cls c) fld) (hfl : w.flds c = [fld]) (hr : Room 2 X.A) (hm : X.mg x = some (.ref (w.cls c))) (hg : Gl X x := by rfl) (hdb : (x == ("__debug__" : Str)) = false := by decide)
    (hpl : ((backTo pos (starEach [] X.env)).any (·.1) || (backToKw pos (keywordEach [] X.env)).any (·.1.isNone)) = false := by rfl) :
    PE X (.Call (.Name x p) [] [] pos) (tZ w W s (eExn c (eC .non))) := by
  obtain ⟨fI, F, dV, kV, doc, pm, ct, oc, an, od, osl, lk, hcd, I, hms, hdb1, hcd1, hb, hk, h0⟩ := M.ex
  have fo := VmX.ei_ok (CX := CX0) (w := X.w) (base := X.base) (k := 0) lk hcd I hms hdb1 hcd1
  refine (pe_of_mk (pmkN I.T I.iC I.tI fo hr (kb0 h0) pass0 hg hm pk_nil (fun u ws l => rfl) hdb rfl rfl hpl)).imp fun σ H Q h => ?_
  obtain ⟨b, e, rfl, S, h⟩ := h
  have h1 : ∀ b', Gr s b b' → Sat w b' σ e → ∀ v, Fz w b'.G (.exn c [.non]) v → Q v b'.H := h
  refine ⟨rfl, fun a0 ha0 => ⟨a0, .non, rfl, upd_same, fun dx hdx hne => ⟨rfl, dx, [(fld, .non)], upd_same, ?_, ?_, _, rfl, ?_⟩⟩⟩
  · rw [upd_ne hne, upd_same]
  · rw [upd_ne hne] at hdx
    exact hdx
  · rw [upd_ne hne] at hdx
    rw [mk_new ha0 hne]
    exact exn_end hfl S (fz_non.mpr rfl) hdx h1
end
end Vm

set_option maxHeartbeats 2000000
namespace Vm
open PySem L2 PyProof.Rows PySem.Spec
def eExnZ (c : Nat) : EM := fun e => .ok (.exn c []) e
section
variable {X : Cx} {W : Wx} {s : Bool} {w : Wd} {pos p p2 : Pos} {x : Str} {a : Expr} {fa : EM} {es : List Nat}
theorem zExnZ (c : Nat) (o : Okx w X) (M : ExN0 w.K (w.cls c)) (hfl : w.flds c = []) (hm : X.mg x = some (.ref (w.cls c))) (hg : Gl X x := by rfl) (hdb : (x == ("__debug__" : Str)) = false := by decide) :
    PE X (.Call (.Name x p) [] [] pos) (tZ w W s (eExnZ c)) := by
  have hK := o.K
  refine (pe_of_mk (pmk_own0 PySem.F.excBase_ValueError (by rw [hK]; exact M.i) hm (by rw [hK]; exact M.k) (raises_own (by rw [hK]; exact M.s) (by rw [hK]; exact M.t)) hg hdb)).imp fun σ H Q h => ?_
  obtain ⟨b, e, rfl, S, h⟩ := h
  have h1 : ∀ b', Gr s b b' → Sat w b' σ e → ∀ v, Fz w b'.G (.exn c []) v → Q v b'.H := h
  refine ⟨w.cls c, rfl, fun a ha => ?_⟩
  have g : Gr s b (b.new a (exZ (w.cls c) a)) := Gr.new (S.fresh_F ha) ha
  exact h1 _ g (S.new ha) (.ref a) (fz_exn.mpr ⟨a, a, [], rfl, .inr ⟨hfl, upd_same⟩, by rw [hfl]; rfl, fzl_nil.mpr rfl⟩)
def dIsA (es : List Nat) : D → Option D := fun d => match d with
  | .exn c' _ => if es.contains c' then some (.bl true) else none
  | _ => none
def ExnA (w : Wd) (es : List Nat) (cv : Value) : Prop := ∀ c' ∈ es, ExcC w.K (w.cls c') ∧ PySem.W.kitOne w.K (.ref (w.cls c')) cv = some true
theorem isA_core (o : Okx w X) {cv : Value} {c : V} (hcv : ∀ u, RelV c u → u = cv) (T : ExnA w es cv) {σ : L2.St} {b1 : Bs} {e1 : En} {d : D} {v : V} {Q : VK} (S1 : Sat w b1 σ e1) (z : Br w b1 d v) (h1 : PR w W s σ b1 (lift (dIsA es d) e1) fun d b' _ => ∀ v, Fz w b'.G d v → Q v b'.H) : rIsX X.K [v, c] b1.H Q := by
  cases d
  case exn c' fs =>
    have h2 : PR w W s σ b1 (lift (if es.contains c' then some (.bl true) else none) e1) fun d b' _ => ∀ v, Fz w b'.G d v → Q v b'.H := h1
    split at h2
    · rename_i hc
      obtain ⟨T1, T2⟩ := T c' (by simpa using hc)
      obtain ⟨a', dd, vs, rfl, kx, _⟩ := fz_exn.mp (z.fz rfl)
      refine ⟨a', w.cls c', dd, (w.flds c').zip vs, c, cv, true, rfl, kx.elim (fun ⟨k1, k2⟩ => .inl ⟨S1.ex _ _ k1, S1.ex _ _ k2⟩) (fun k => .inr (S1.ex _ _ k.2)), by rw [o.K]; exact T1, hcv, by rw [o.K]; exact T2, ?_⟩
      exact h2 b1 (Gr.refl b1) S1 (.bl true) (fz_bl.mpr rfl)
    · exact h2.elim
  all_goals exact h1.elim
theorem zIsAc {hC : Addr} (o : Okx w X) (hg : Gl X "isinstance") (hm : X.mg "isinstance" = none) (hg2 : Gl X x) (hm2 : X.mg x = some (.ref hC)) (T : ExnA w es (.ref hC))
    (ha : PE X a (tB w W s fa)) (hdb : (x == ("__debug__" : Str)) = false := by decide) (hs : starEach [a, .Name x p2] X.env = (false, eval a X.env) :: starEach [.Name x p2] X.env := by rfl)
    (hs2 : starEach [.Name x p2] X.env = (false, eval (.Name x p2) X.env) :: starEach [] X.env := by rfl) (hpl : (backTo pos (starEach [.Name x p2] X.env)).any (·.1) = false := by rfl) :
    PE X (.Call (.Name "isinstance" p) [a, .Name x p2] [] pos) (tZ w W s (un (dIsA es) fa)) :=
  (pe_callB call_isX hg hm PyProof.Rows.boot_isinstance (pa_cons ha (pa_cons (pe_glob (v := .ref hC) hg2 hm2 rfl hdb) pa_nil hs2) hs) (by decide) (by decide) hs hpl).imp fun σ H Q ⟨b, e, he, S, h⟩ => by
  subst he
  exact ⟨b, e, rfl, S, (PR.bind h).mono fun d b1 e1 g1 S1 h1 v z => isA_core (cv := .ref hC) (c := .ref hC) o (fun u hu => hu) T S1 z h1⟩
theorem zIsAb (T0 : String) (o : Okx w X) (hg : Gl X "isinstance") (hm : X.mg "isinstance" = none) (hg2 : Gl X x) (hm2 : X.mg x = none) (hv : bootBuiltins x = some (.type T0)) (T : ExnA w es (.type T0))
    (ha : PE X a (tB w W s fa)) (hn : x ≠ "__name__" := by decide) (hdb : (x == ("__debug__" : Str)) = false := by decide) (hs : starEach [a, .Name x p2] X.env = (false, eval a X.env) :: starEach [.Name x p2] X.env := by rfl)
    (hs2 : starEach [.Name x p2] X.env = (false, eval (.Name x p2) X.env) :: starEach [] X.env := by rfl) (hpl : (backTo pos (starEach [.Name x p2] X.env)).any (·.1) = false := by rfl) :
    PE X (.Call (.Name "isinstance" p) [a, .Name x p2] [] pos) (tZ w W s (un (dIsA es) fa)) :=
  (pe_callB call_isX hg hm PyProof.Rows.boot_isinstance (pa_cons ha (pa_cons (pe_bltn (v := .ty T0) hg2 hm2 hv rfl hn hdb) pa_nil hs2) hs) (by decide) (by decide) hs hpl).imp fun σ H Q ⟨b, e, he, S, h⟩ => by
  subst he
  exact ⟨b, e, rfl, S, (PR.bind h).mono fun d b1 e1 g1 S1 h1 v z => isA_core (cv := .type T0) (c := .ty T0) o (fun u hu => hu) T S1 z h1⟩
def eIsiC (T : String) (fa : EM) : EM := fun e => (fa e).bind fun d e1 => match cel d e1 with
  | some (_, .olst _) => lift ((kitB "list" T).map D.bl) e1
  | some (_, .odic _) => lift ((kitB "dict" T).map D.bl) e1
  | _ => lift (dIsiD T d) e1
theorem zIsiC (T : String) (o : Okx w X) (hg : Gl X "isinstance") (hm : X.mg "isinstance" = none) (hg2 : Gl X x) (hm2 : X.mg x = none) (hv : bootBuiltins x = some (.type T)) (hT : kitB "NoneType" T = some false)
    (ha : PE X a (tZ w W s fa)) (hn : x ≠ "__name__" := by decide) (hdb : (x == ("__debug__" : Str)) = false := by decide) (hs : starEach [a, .Name x p2] X.env = (false, eval a X.env) :: starEach [.Name x p2] X.env := by rfl)
    (hs2 : starEach [.Name x p2] X.env = (false, eval (.Name x p2) X.env) :: starEach [] X.env := by rfl) (hpl : (backTo pos (starEach [.Name x p2] X.env)).any (·.1) = false := by rfl) :
    PE X (.Call (.Name "isinstance" p) [a, .Name x p2] [] pos) (tZ w W s (eIsiC T fa)) :=
  (pe_callB call_isi hg hm PyProof.Rows.boot_isinstance (pa_cons ha (pa_cons (pe_bltn (v := .ty T) hg2 hm2 hv rfl hn hdb) pa_nil hs2) hs) (by decide) (by decide) hs hpl).imp fun σ H Q ⟨b, e, he, S, h⟩ => by
  subst he
  refine ⟨b, e, rfl, S, (PR.bind h).mono fun d b1 e1 g1 S1 h1 v z => ?_⟩
  have fin : ∀ (tn : String) (k : Bool), kitB tn T = some k → TyX w.K b1.H v (.type tn) → (∀ b', Gr s b1 b' → Sat w b' σ e1 → ∀ v, Fz w b'.G (.bl k) v → Q v b'.H) → rIsi X.K [v, .ty T] b1.H Q := fun tn k h2 h3 h4 => by
    rw [o.K]
    exact ⟨v, .ty T, .type tn, .type T, k, rfl, .ty T, h3, kit_ty h2, h4 b1 (Gr.refl b1) S1 (.bl k) (fz_bl.mpr rfl)⟩
  have fin2 : ∀ (tn : String), TyX w.K b1.H v (.type tn) → PR w W s σ b1 (lift ((kitB tn T).map D.bl) e1) (fun d b' _ => ∀ v, Fz w b'.G d v → Q v b'.H) → rIsi X.K [v, .ty T] b1.H Q := fun tn h3 h4 => by
    cases hk : kitB tn T with
    | none => rw [hk] at h4; exact h4.elim
    | some k => rw [hk] at h4; exact fin tn k hk h3 h4
  split at h1
  · rename_i n ds h0
    obtain ⟨a', vs, l, rfl, _, _, _, k4, _⟩ := S1.cellL h0 z
    exact fin2 "list" (.base (.lst k4)) h1
  · rename_i n kvs h0
    obtain ⟨a', rfl, _, _, k⟩ := S1.cell h0 z
    obtain ⟨a2, ks, l', e2, k1, _⟩ := own_odic.mp k
    cases e2
    exact fin2 "dict" (.base (.dK k1)) h1
  · have h2 := h1
    cases d
    case non =>
      cases fz_non.mp z
      exact fin "NoneType" false hT (.base .non) h2
    case dic kvs =>
      obtain ⟨a', o', ks, rfl, k1, _⟩ := fz_dic.mp z
      exact fin2 "dict" (.fDict (S1.ex _ _ k1)) h2
    case bl => exact fin2 "bool" (br_tyX S1 z.br rfl (by decide)) h2
    case int => exact fin2 "int" (br_tyX S1 z.br rfl (by decide)) h2
    case str => exact fin2 "str" (br_tyX S1 z.br rfl (by decide)) h2
    case tup => exact fin2 "tuple" (br_tyX S1 z.br rfl (by decide)) h2
    case tux => exact fin2 "tuple" (br_tyX S1 z.br rfl (by decide)) h2
    case lst => exact fin2 "list" (br_tyX S1 z.br rfl (by decide)) h2
    case olst => exact fin2 "list" (br_tyX S1 z.br rfl (by decide)) h2
    all_goals exact h2.elim
end
end Vm

set_option maxHeartbeats 2000000
namespace Vm
open PySem L2 PyProof.Rows PySem.Spec
def sSetKC (fo fi fv : EM) : SM := fun e => ofE (fv e) fun v e1 => ofE (fo e1) fun x e2 => ofE (fi e2) fun y e3 => match cel x e3 with
  | some (n, .odic kvs) => if (dkey y).isSome ∧ kvs.length < LIM then .nx (e3.put (.m n) (some (.odic (putD kvs y v)))) else .stuck
  | _ => .stuck
section
variable {X : Cx} {W : Wx} {w : Wd} {pos p tp : Pos} {x c ix : Expr} {fi fv fo : EM} {y : Str}
theorem zSetKC (o : Okx w X) (hx : PE X x (tZ w W false fv)) (ho : PE X (.Name y p) (tZ w W false fo)) (hi : PE X ix (tZ w W false fi))
    (ha : ∀ v, assign (.Subscript (.Name y p) ix tp) X.env v = (do
      let ov ← holding [v] (eval (.Name y p) X.env)
      let iv ← holding [v, ov] (eval ix X.env)
      standAt tp
      holding [v, ov, iv] (setItem ov iv v)
      release [v, ov, iv] []) := by intro _; rfl)
    (hs : swapsWithSole [.Subscript (.Name y p) ix tp] x pos.line X.env = pure false := by rfl) (hw : swappedStores [.Subscript (.Name y p) ix tp] x X.env = pure none := by rfl)
    (h1 : (assignEach [.Subscript (.Name y p) ix tp] X.env).map (·.2) = [assign (.Subscript (.Name y p) ix tp) X.env] := by rfl) :
    PS X (.Assign [.Subscript (.Name y p) ix tp] x pos) (tS w W (sSetKC fo fi fv)) :=
  (ps_asg hx (pg_sub ho hi (set_dk (by have := o.u; omega)) ha) hs hw h1).imp fun D σ H ⟨b, e, he, S, h⟩ => by
  subst he
  refine ⟨b, e, rfl, S, (SR.ofE h).mono fun d b1 e1 g1 S1 h1 v z => ⟨b1, e1, rfl, S1, (SR.ofE h1).mono fun xo b2 e2 g2 S2 h2 vx zx => ⟨b2, e2, rfl, S2, (SR.ofE h2).mono fun yk b3 e3 g3 S3 h3 vk zk => ?_⟩⟩⟩
  split at h3
  · rename_i n kvs h0
    split at h3
    · rename_i hc
      obtain ⟨ky, hy⟩ := Option.isSome_iff_exists.mp hc.1
      obtain ⟨a, rfl, hr, hat, k⟩ := S3.cell h0 (zx.mono g3.g)
      obtain ⟨a', ks, l', ea, k1, k2, k3, k4⟩ := own_odic.mp k
      cases ea
      have hnd := S3.nd (.m n)
      rw [k4] at hnd
      have hn2 := List.nodup_cons.mp hnd
      have zv : Fz w b3.G d v := (z.mono g2.g).mono g3.g
      obtain ⟨l3, o1, o2, o3⟩ := k3.put hy zv hn2.2
      have na : a ∉ l3 := fun q => hn2.1 (o3 a q)
      obtain ⟨b4, q1, q2, q3⟩ := S3.mutO (u' := .dK (putK ks ky v)) (l' := l3) (d' := .odic (putD kvs yk d)) (Gr.refl b3) hat hr k4 (own_odic.mpr ⟨a, _, l3, rfl, upd_same, Nat.le_trans (length_putD ..) (lim_size (show kvs.length + 1 ≤ LIM from hc.2)),
        o1.keep (.refl _) (fun c hc u hu => by
          have : c ≠ a := fun q => na (q ▸ hc)
          exact (upd_ne this).trans hu), rfl⟩) na o2 (fun c hc => .inl (o3 c hc))
      have hv : vk = kV ky := dkey_kV zk hy
      refine ⟨a, _, rfl, .inl ⟨ks, ky, k1, hv, ?_, rfl⟩, ?_⟩
      · rw [k3.length]
        exact Nat.lt_of_lt_of_le hc.2 (lim_size (Nat.le_refl _))
      · rw [← q1]
        exact h3 b4 σ q2 q3
    · exact h3.elim
  · exact h3.elim
end
end Vm

set_option maxHeartbeats 2000000
namespace Vm
open PySem L2 PyProof.Rows PySem.Spec
theorem nosys {X : Cx} {pins : List (Addr × Obj)} {σ : L2.St} {H : Hp} {s : Shared} (hS : (X.K.lookup sysModules).isSome = true) (I : Inv X pins σ H s) : H sysModules = none := by
  obtain ⟨o, ho⟩ := Option.isSome_iff_exists.mp hS
  exact (I.bs _ _ (I.mod.kin _ _ ho)).2
mutual
inductive Dq (H : Hp) : V → PyData → Prop
  | non : Dq H .non .none
  | bl (b : Bool) : Dq H (.bl b) (.bool b)
  | int (i : Int) : Dq H (.int i) (.int i)
  | str (x : Str) : Dq H (.str x) (.str x)
  | lst {a : Addr} {xs : List V} {ds : List PyData} : H a = some (.lst xs) → DqAll H xs ds → Dq H (.ref a) (.list ds)
  | tup {a : Addr} {xs : List V} {ds : List PyData} : H a = some (.tup xs) → DqAll H xs ds → Dq H (.ref a) (.tuple ds)
  | dic {a : Addr} {ks : List (Key × V)} {ds : List (PyData × PyData)} : H a = some (.dK ks) → DqAll H (ks.map fun p => kV p.1) (ds.map (·.1)) → DqAll H (ks.map (·.2)) (ds.map (·.2)) → Dq H (.ref a) (.dict ds)
inductive DqAll (H : Hp) : List V → List PyData → Prop
  | nil : DqAll H [] []
  | cons {v : V} {vs : List V} {d : PyData} {ds : List PyData} : Dq H v d → DqAll H vs ds → DqAll H (v :: vs) (d :: ds)
end
section
variable {X : Cx} {pins : List (Addr × Obj)} {σ : L2.St} {H : Hp} {s : Shared}
theorem kv_rows {P : Program} {W : World} : ∀ {es : List DictEntry} {vs : List (Key × Value)} {ks : List (Key × V)}, PySem.Pairs (mixKind P W) es vs → KV ks vs → Vals (ks.map fun p => kV p.1) (es.map (·.key)) ∧ Vals (ks.map (·.2)) (es.map (·.val))
  | _, _, _, .nil, .nil => ⟨.nil, .nil⟩
  | _, _, _, .cons (e := e) (kv := kv) h1 h2 h3, .cons (a := p) ⟨k1, k2⟩ r => by
    obtain ⟨q1, q2⟩ := kv_rows h3 r
    refine ⟨.cons ?_ q1, .cons ?_ q2⟩
    · show RelV (kV p.1) e.key
      rw [k1]
      rcases keyIs_shape h1 with ⟨i, t, e1, e2⟩ | ⟨x, t, e1, e2⟩
      · rw [e1, e2]
        exact ⟨t, rfl⟩
      · rw [e1, e2]
        exact ⟨t, rfl⟩
    · show RelV p.2 e.val
      rw [h2]
      exact k2
mutual
theorem Dq.reads (hS : (X.K.lookup sysModules).isSome = true) (I : Inv X pins σ H s) : ∀ {v : V} {d : PyData}, Dq H v d → ∀ u : Value, RelV v u → ∃ as, Reads s.heap u d as ∧ sysModules ∉ as
  | _, _, .non, u, r => by
    cases r
    exact ⟨[], Reads.none, by simp⟩
  | _, _, .bl b, u, r => by
    cases r
    exact ⟨[], Reads.bool b, by simp⟩
  | _, _, .int i, u, r => by
    obtain ⟨t, rfl⟩ := r
    exact ⟨[], Reads.int i t, by simp⟩
  | _, _, .str x, u, r => by
    obtain ⟨t, rfl⟩ := r
    exact ⟨[], Reads.str x t, by simp⟩
  | _, _, .lst (a := a) hs ha, u, r => by
    cases r
    obtain ⟨its, rv, ⟨o, n, ho, hc, _, hd⟩, _⟩ := I.list (SqL.of hs)
    obtain ⟨as, hr, hn⟩ := DqAll.reads hS I ha its rv
    refine ⟨_, Reads.list ho hc hd hr, fun z => ?_⟩
    rcases List.mem_cons.mp z with e | z
    · have := nosys hS I
      rw [e, hs] at this
      cases this
    · exact hn z
  | _, _, .tup hs ha, u, r => by
    cases r
    obtain ⟨its, rv, ⟨o, ho, hc, n, hd⟩, _⟩ := I.tuple (SqT.of hs)
    obtain ⟨as, hr, hn⟩ := DqAll.reads hS I ha its rv
    exact ⟨_, Reads.tuple ho hc hd hr, hn⟩
  | _, _, .dic (a := a) hs h1 h2, u, r => by
    cases r
    obtain ⟨_, hsys, vs, kv, o', es, ep, e1, ex, e2, _, e3, _⟩ := I.hok a _ hs
    obtain ⟨q1, q2⟩ := kv_rows e3 kv
    obtain ⟨as, r1, n1⟩ := DqAll.reads hS I h1 _ q1
    obtain ⟨bs, r2, n2⟩ := DqAll.reads hS I h2 _ q2
    refine ⟨_, Reads.dict e1 ex.1 e2 r1 r2, fun z => ?_⟩
    rcases List.mem_cons.mp z with e | z
    · rw [← e] at hsys
      simp at hsys
    · rcases List.mem_append.mp z with z | z
      · exact n1 z
      · exact n2 z
theorem DqAll.reads (hS : (X.K.lookup sysModules).isSome = true) (I : Inv X pins σ H s) : ∀ {vs : List V} {ds : List PyData}, DqAll H vs ds → ∀ us : List Value, Vals vs us → ∃ as, ReadsAll s.heap us ds as ∧ sysModules ∉ as
  | _, _, .nil, us, r => by
    cases r
    exact ⟨[], ReadsAll.nil, by simp⟩
  | _, _, .cons h1 h2, us, r => by
    cases r with
    | cons r1 r2 =>
      obtain ⟨as, q1, n1⟩ := Dq.reads hS I h1 _ r1
      obtain ⟨bs, q2, n2⟩ := DqAll.reads hS I h2 _ r2
      refine ⟨_, ReadsAll.cons q1 q2, fun z => ?_⟩
      rcases List.mem_append.mp z with z | z
      · exact n1 z
      · exact n2 z
end
def rRepQ : List V → Hp → VK → Prop := fun xs H Q => ∃ v ps, xs = [v] ∧ Dq H v (.list ps) ∧ (PyData.list ps).showable = true ∧ (PyData.list ps).depth ≤ 20 ∧ (PyData.list ps).shown.length ≤ 1000000 ∧ Q (.str (PyData.list ps).shown) H
theorem call_repQ (hS : (X.K.lookup sysModules).isSome = true) (hq : X.A.guards = some []) (hu : X.A.units + 65 < cLine) : CallR X (.builtin "repr") rRepQ := by
  intro pins s σ H xs us Q I r h
  obtain ⟨v, ps, rfl, hd, hs, hdp, hl, q⟩ := h
  obtain ⟨u, rfl, ru⟩ := vals1 r
  obtain ⟨as, rd, nm⟩ := Dq.reads hS I hd u ru
  cases hd with
  | lst h1 h2 =>
    obtain rfl := (show u = Value.ref _ from ru)
    exact repr_of_reads' rd hs (fun _ => nm) hq (by omega) (fun _ _ e => e) (fun h' u tk k => ⟨.str _, H, I.kept k, ⟨_, rfl⟩, q⟩) (Nat.le_trans hl (by decide))
end
end Vm

set_option maxHeartbeats 2000000
namespace Vm
open PySem L2 PyProof.Rows PySem.Spec
mutual
def rsp : D → Option PyData
  | .non => some .none
  | .bl b => some (.bool b)
  | .int i => some (.int i)
  | .str x => some (.str x)
  | .tup xs => (rspL xs).map .tuple
  | .lst xs => (rspL xs).map .list
  | _ => none
def rspL : List D → Option (List PyData)
  | [] => some []
  | d :: r => (rsp d).bind fun p => (rspL r).map (p :: ·)
end
def pk : Key → PyData
  | .inl i => .int i
  | .inr x => .str x
def rspK : List (D × D) → Option (List (PyData × PyData))
  | [] => some []
  | (k, d) :: r => (rsp d).bind fun p => (dkey k).bind fun ky => (rspK r).map ((pk ky, p) :: ·)
def rs1 (e : En) : D → Option PyData
  | .loc n => match e.at (.m n) with
    | some (.olst ds) => (rspL ds).map .list
    | some (.odic kvs) => (rspK kvs).map .dict
    | _ => none
  | d => rsp d
def rs1L (e : En) : List D → Option (List PyData)
  | [] => some []
  | d :: r => (rs1 e d).bind fun p => (rs1L e r).map (p :: ·)
def litm : D → Option (List D)
  | .lst ds => some ds
  | .olst ds => some ds
  | _ => none
def eReprM (f : EM) : EM := fun e => (f e).bind fun d e1 => match (litm d).bind (rs1L e1) with
  | some ps => if (PyData.list ps).showable = true ∧ (PyData.list ps).depth ≤ 20 ∧ (PyData.list ps).shown.length ≤ 1000000 ∧ PyData.strOk (PyData.list ps).shown = true then .ok (.str (PyData.list ps).shown) e1 else .stuck
  | none => .stuck
section
variable {w : Wd} {G : Gs} {H : Hp}
mutual
theorem rsp_ok (hx : ∀ a u, G.F a = some u → H a = some u) : ∀ {d : D} {p : PyData} {v : V}, rsp d = some p → Fz w G d v → Dq H v p
  | .non, _, _, h, z => by
    cases fz_non.mp z
    simp only [rsp] at h
    cases h
    exact .non
  | .bl b, _, _, h, z => by
    cases fz_bl.mp z
    simp only [rsp] at h
    cases h
    exact .bl b
  | .int i, _, _, h, z => by
    cases fz_int.mp z
    simp only [rsp] at h
    cases h
    exact .int i
  | .str x, _, _, h, z => by
    obtain ⟨rfl, _⟩ := fz_str.mp z
    simp only [rsp] at h
    cases h
    exact .str x
  | .tup xs, _, _, h, z => by
    simp only [rsp] at h
    obtain ⟨ps, h1, rfl⟩ := Option.map_eq_some_iff.mp h
    obtain ⟨a, vs, rfl, k1, _, k3⟩ := fz_tup.mp z
    exact .tup (hx _ _ k1) (rspL_ok hx h1 k3)
  | .lst xs, _, _, h, z => by
    simp only [rsp] at h
    obtain ⟨ps, h1, rfl⟩ := Option.map_eq_some_iff.mp h
    obtain ⟨a, vs, rfl, k1, _, k3⟩ := fz_lst.mp z
    exact .lst (hx _ _ k1) (rspL_ok hx h1 k3)
  | .tux _, _, _, h, _ => by simp [rsp] at h
  | .rol _, _, _, h, _ => by simp [rsp] at h
  | .dic _, _, _, h, _ => by simp [rsp] at h
  | .dix _, _, _, h, _ => by simp [rsp] at h
  | .ins _ _, _, _, h, _ => by simp [rsp] at h
  | .olst _, _, _, h, _ => by simp [rsp] at h
  | .odic _, _, _, h, _ => by simp [rsp] at h
  | .odix _, _, _, h, _ => by simp [rsp] at h
  | .oins _ _ _, _, _, h, _ => by simp [rsp] at h
  | .otup _, _, _, h, _ => by simp [rsp] at h
  | .loc _, _, _, h, _ => by simp [rsp] at h
  | .exn _ _, _, _, h, _ => by simp [rsp] at h
  | .fn _, _, _, h, _ => by simp [rsp] at h
  | .otbl _, _, _, h, _ => by simp [rsp] at h
theorem rspL_ok (hx : ∀ a u, G.F a = some u → H a = some u) : ∀ {ds : List D} {ps : List PyData} {vs : List V}, rspL ds = some ps → FzL w G ds vs → DqAll H vs ps
  | [], _, _, h, z => by
    cases fzl_nil.mp z
    simp only [rspL] at h
    cases h
    exact .nil
  | d :: r, _, _, h, z => by
    simp only [rspL] at h
    obtain ⟨p, h1, h2⟩ := Option.bind_eq_some_iff.mp h
    obtain ⟨ps, h3, rfl⟩ := Option.map_eq_some_iff.mp h2
    obtain ⟨v, t, rfl, z1, z2⟩ := fzl_cons.mp z
    exact .cons (rsp_ok hx h1 z1) (rspL_ok hx h3 z2)
end
theorem rsp_F : ∀ {d : D} {p : PyData}, rsp d = some p → isF d = true := fun {d p} h => by
  cases d <;> first | rfl | (simp [rsp] at h)
theorem rspL_own (hx : ∀ a u, G.F a = some u → H a = some u) : ∀ {ds : List D} {ps : List PyData} {vs : List V} {l : List Addr}, rspL ds = some ps → OwnL w G H ds vs l → DqAll H vs ps
  | [], _, _, _, h, z => by
    obtain ⟨rfl, _⟩ := ownl_nil.mp z
    simp only [rspL] at h
    cases h
    exact .nil
  | d :: r, _, _, _, h, z => by
    simp only [rspL] at h
    obtain ⟨p, h1, h2⟩ := Option.bind_eq_some_iff.mp h
    obtain ⟨ps, h3, rfl⟩ := Option.map_eq_some_iff.mp h2
    obtain ⟨v, t, l1, l2, rfl, z1, z2, _⟩ := ownl_cons.mp z
    exact .cons (rsp_ok hx h1 ((own_fz (rsp_F h1)).mp z1).1) (rspL_own hx h3 z2)
theorem pk_ok (ky : Key) : Dq H (kV ky) (pk ky) := by
  cases ky with
  | inl i => exact .int i
  | inr x => exact .str x
theorem rspK_own (hx : ∀ a u, G.F a = some u → H a = some u) : ∀ {kvs : List (D × D)} {ps : List (PyData × PyData)} {ks : List (Key × V)} {l : List Addr}, rspK kvs = some ps → OwnK w G H kvs ks l → DqAll H (ks.map fun p => kV p.1) (ps.map (·.1)) ∧ DqAll H (ks.map (·.2)) (ps.map (·.2))
  | [], _, _, _, h, z => by
    obtain ⟨rfl, _⟩ := ownk_nil.mp z
    simp only [rspK] at h
    cases h
    exact ⟨.nil, .nil⟩
  | (k, d) :: r, _, _, _, h, z => by
    simp only [rspK] at h
    obtain ⟨p, h1, h2⟩ := Option.bind_eq_some_iff.mp h
    obtain ⟨ky, h3, h4⟩ := Option.bind_eq_some_iff.mp h2
    obtain ⟨ps, h5, rfl⟩ := Option.map_eq_some_iff.mp h4
    obtain ⟨key, v, t, l1, l2, rfl, z0, z1, z2, _⟩ := ownk_cons.mp z
    rw [h3] at z0
    cases z0
    obtain ⟨q1, q2⟩ := rspK_own hx h5 z2
    exact ⟨.cons (pk_ok ky) q1, .cons (rsp_ok hx h1 ((own_fz (rsp_F h1)).mp z1).1) q2⟩
end
section
variable {X : Cx} {W : Wx} {s : Bool} {w : Wd} {pos p : Pos} {a : Expr} {fa : EM} {b : Bs} {σ : L2.St} {e : En}
theorem rs1_ok (S : Sat w b σ e) : ∀ {d : D} {p : PyData} {v : V}, rs1 e d = some p → Fz w b.G d v → Dq b.H v p := fun {d p v} h z => by
  cases d
  case loc n =>
    simp only [rs1] at h
    split at h
    · rename_i ds h0
      obtain ⟨ps, h1, rfl⟩ := Option.map_eq_some_iff.mp h
      obtain ⟨a, vs, l, rfl, _, _, _, k4, _, k6⟩ := S.cellL (x := .loc n) (n := n) (ds := ds) (by simp [cel, h0]) z
      exact .lst k4 (rspL_own S.ex h1 k6)
    · rename_i kvs h0
      obtain ⟨ps, h1, rfl⟩ := Option.map_eq_some_iff.mp h
      obtain ⟨a, rfl, _, _, k⟩ := S.cell (x := .loc n) (n := n) (d := .odic kvs) (by simp [cel, h0]) z
      obtain ⟨a', ks, l', ea, k1, _, k3, _⟩ := own_odic.mp k
      cases ea
      obtain ⟨q1, q2⟩ := rspK_own S.ex h1 k3
      exact .dic k1 q1 q2
    · cases h
  all_goals exact rsp_ok S.ex h z
theorem rs1L_ok (S : Sat w b σ e) : ∀ {ds : List D} {ps : List PyData} {vs : List V}, rs1L e ds = some ps → FzL w b.G ds vs → DqAll b.H vs ps
  | [], _, _, h, z => by
    cases fzl_nil.mp z
    simp only [rs1L] at h
    cases h
    exact .nil
  | d :: r, _, _, h, z => by
    simp only [rs1L] at h
    obtain ⟨p, h1, h2⟩ := Option.bind_eq_some_iff.mp h
    obtain ⟨ps, h3, rfl⟩ := Option.map_eq_some_iff.mp h2
    obtain ⟨v, t, rfl, z1, z2⟩ := fzl_cons.mp z
    exact .cons (rs1_ok S h1 z1) (rs1L_ok S h3 z2)
theorem rs1_F : ∀ {d : D} {p : PyData}, rs1 e d = some p → isF d = true := fun {d p} h => by
  cases d <;> first | rfl | exact rsp_F h
theorem rs1L_own (S : Sat w b σ e) : ∀ {ds : List D} {ps : List PyData} {vs : List V} {l : List Addr}, rs1L e ds = some ps → OwnL w b.G b.H ds vs l → DqAll b.H vs ps
  | [], _, _, _, h, z => by
    obtain ⟨rfl, _⟩ := ownl_nil.mp z
    simp only [rs1L] at h
    cases h
    exact .nil
  | d :: r, _, _, _, h, z => by
    simp only [rs1L] at h
    obtain ⟨p, h1, h2⟩ := Option.bind_eq_some_iff.mp h
    obtain ⟨ps, h3, rfl⟩ := Option.map_eq_some_iff.mp h2
    obtain ⟨v, t, l1, l2, rfl, z1, z2, _⟩ := ownl_cons.mp z
    exact .cons (rs1_ok S h1 ((own_fz (rs1_F h1)).mp z1).1) (rs1L_own S h3 z2)
theorem zReprM (o : Okx w X) (hS : (X.K.lookup sysModules).isSome = true) (hq : X.A.guards = some []) (hg : Gl X "repr") (hm : X.mg "repr" = none) (ha : PE X a (tB w W s fa)) (hs : starEach [a] X.env = (false, eval a X.env) :: starEach [] X.env := by rfl) (hpl : (backTo pos (starEach [] X.env)).any (·.1) = false := by rfl) :
    PE X (.Call (.Name "repr" p) [a] [] pos) (tZ w W s (eReprM fa)) :=
  (pe_callB (call_repQ hS hq o.u) hg hm (by rfl) (pa_cons ha pa_nil hs) (by decide) (by decide) hs hpl).imp fun σ H Q ⟨b, e, he, S, h⟩ => by
  subst he
  refine ⟨b, e, rfl, S, (PR.bind h).mono fun d b1 e1 g1 S1 h1 v z => ?_⟩
  split at h1
  · rename_i ps hps
    split at h1
    · rename_i hc
      obtain ⟨c1, c2, c3, c4⟩ := hc
      obtain ⟨ds, hd, hr⟩ := Option.bind_eq_some_iff.mp hps
      have dq : Dq b1.H v (.list ps) := by
        cases d <;> try (simp [litm] at hd; done)
        · simp only [litm, Option.some.injEq] at hd
          subst hd
          obtain ⟨a', vs, rfl, k1, _, k3⟩ := fz_lst.mp (z.fz rfl)
          exact .lst (S1.ex _ _ k1) (rs1L_ok S1 hr k3)
        · simp only [litm, Option.some.injEq] at hd
          subst hd
          obtain ⟨l, z, _⟩ := z
          obtain ⟨a', vs, l', rfl, k1, _, k3, _⟩ := own_olst.mp z
          exact .lst k1 (rs1L_own S1 hr k3)
      exact ⟨v, ps, rfl, dq, c1, c2, c3, h1 b1 (Gr.refl b1) S1 _ (fz_str.mpr ⟨rfl, c4⟩)⟩
    · exact h1.elim
  · exact h1.elim
end
end Vm

set_option maxHeartbeats 1000000
namespace Vm
open PySem L2 PyProof.Rows
def gFdvW (i j : Int) : Option Int := if 0 < j ∧ j.natAbs.log2 < 9000 then some (i / j) else none
def dFdvW := dInt gFdvW
theorem ob_fdvW {w : Wd} : OpB w (rI CDivW fun i j => .int (i / j)) dFdvW := ob_int fun i j k h => by
  unfold gFdvW at h
  split at h
  · cases h
    exact ⟨by assumption, rfl⟩
  · cases h
end Vm

set_option maxHeartbeats 1000000
namespace VmH
open PySem PySem.Spec PyProof.Rows L2 He
structure XSN (d : XD) : Prop where
  b : XS d d.fld
  kw : ∀ (name qual : Str) (cl : List (Str × Addr)) (T : Addr) (kV doc pm : Value) (an : Option Addr) (cdv ct : Value) (u v : Value), ∃ k, bindArgs (PySem.W.fnX name qual (defArgs d.st) (defBody d.st) (defScope d.st) cl (.ref T) kV doc pm an cdv ct) ⟨[u], [((d.fld : Str), v)]⟩ = seqItems? (.ref T) >>= k ∧ k (some ⟨[.none]⟩) = pure [(("self" : Str), u), (d.fld, v)]
  df : ∀ (name qual : Str) (cl : List (Str × Addr)) (T : Addr) (kV doc pm : Value) (an : Option Addr) (cdv ct : Value) (u : Value), ∃ k, bindArgs (PySem.W.fnX name qual (defArgs d.st) (defBody d.st) (defScope d.st) cl (.ref T) kV doc pm an cdv ct) ⟨[u], []⟩ = seqItems? (.ref T) >>= k ∧ k (some ⟨[.none]⟩) = pure [(("self" : Str), u), (d.fld, .none)]
section
variable {P : Program} {K : PySem.W.Frag} {mg : Str → Option Value} {xs : List XD} {d : XD} {file : Str}
theorem exMN_of (h : fnX K d = d.val) (b : excB file K xs d = true) (bn : dfnB K d = true) (s : XSN d) (hf : ((P.main.file : Str) == file) = true) (top : (P.main.scope.names.lookup ("super" : Str)).isSome = false) (hms : mg "super" = none) : Vm.ExMN P K mg (ga K d.x) d.fld := by
  have xf := xfacts b
  unfold excB at b
  simp only [Bool.and_eq_true] at b
  obtain ⟨b1, b2, b3, b4, b5, b6, b7, b8, b9, b10, b11, b12, b13, b14, b16, b15, b17⟩ := b
  unfold subB at b6
  simp only [Bool.and_eq_true] at b6
  obtain ⟨s1, s2, s3, s4, s5⟩ := b6
  have T : OexC K (ga K d.x) := ⟨oexB_ok b4, eqO_ok b10, of_decide_eq_true b11, of_decide_eq_true b12, b13⟩
  unfold cloB at b5
  unfold fnX at h
  cases q : K.lookup (ma K (ga K d.x) "__init__") with
  | none => rw [q] at b5; cases b5
  | some o =>
    obtain ⟨oc, od, dt, osl⟩ := o
    rw [q] at b5 h
    cases dt with
    | func fd =>
      obtain ⟨n1, n2, n3, n4, n5, n6, n7, n8, n9, n10, n11, n12, n13, n14, n15⟩ := fd
      have e2 : (some (n1, n2, n3, n4, n5, n6, n7.map (·.1), n15) : FnV2) = some (("__init__" : Str), d.x ++ ".__init__", defArgs d.st, FuncBody.stmts (defBody d.st), defScope d.st, mainGlobals, [("__class__" : Str)], builtinsNs) := h
      simp only [Option.some.injEq, Prod.mk.injEq] at e2
      obtain ⟨h1, h2, h3, h4, h5, h6, h7, h8⟩ := e2
      dsimp only at b5
      split at b5
      · rename_i _ _ y cc c
        split at b5
        · rename_i C' _ _ vs _ l1 l2
          split at b5
          · rename_i f tf hv
            simp only [Bool.and_eq_true, beq_iff_eq, decide_eq_true_eq] at b5
            obtain ⟨k1, k2, k3⟩ := b5
            subst k1 k2 h1 h2 h3 h4 h5 h6 h8
            have hy : y = ("__class__" : Str) := by simpa using h7
            subst hy
            unfold dfnB at bn
            rw [q] at bn
            dsimp only at bn
            split at bn
            · split at bn
              · rename_i Tt _ _ _ _ _ lT
                refine ⟨ma K (ga K d.x) "__init__", ⟨"__init__", d.x ++ ".__init__", defArgs d.st, defBody d.st, defScope d.st, [("__class__", cc)], c⟩, _, n9, n10, n11, n14, oc, n12, od, osl, q, k3, ⟨T, eqO_ok b7, of_decide_eq_true b8, eqO_ok b9, s.b.body, s.b.hd, s.b.sc, s.b.sup, ⟨cc, _, _, _, rfl, l1⟩, ⟨_, _, vs, _, f, tf, l2, hv, hf⟩, Option.isSome_iff_exists.mp s1, of_decide_eq_true s2, eqO_ok s3, eqO_ok s4, of_decide_eq_true s5, top⟩, hms, s.b.nd, s.b.nc, ?_, ?_, ?_⟩
                · refine fun sh us X hl => BindsTo.of_looks fun M => ?_
                  obtain ⟨k, e1, e2⟩ := s.b.bind _ _ [("__class__", cc)] Tt n9 n10 n11 n12 (.ref c) n14 us (⟨[.none]⟩ : Array Value) (by simpa using hl) rfl
                  rw [e1, List.append_nil]
                  exact looks_items X lT rfl (.of_pure e2)
                · refine fun sh u v X => BindsTo.of_looks fun M => ?_
                  obtain ⟨k, e1, e2⟩ := s.kw _ _ [("__class__", cc)] Tt n9 n10 n11 n12 (.ref c) n14 u v
                  rw [e1]
                  exact looks_items X lT rfl (.of_pure e2)
                · refine fun sh u X => BindsTo.of_looks fun M => ?_
                  obtain ⟨k, e1, e2⟩ := s.df _ _ [("__class__", cc)] Tt n9 n10 n11 n12 (.ref c) n14 u
                  rw [e1]
                  exact looks_items X lT rfl (.of_pure e2)
              · cases bn
            · cases bn
          · cases b5
        · cases b5
      · cases b5
    | _ => cases b5
end
end VmH

set_option maxHeartbeats 1000000
namespace Vm
open PySem L2 PyProof.Rows
def dSlS : D → Option Int → Option Int → Option D
  | .str z, l, h => if z.length ≤ LIM ∧ PyData.strOk (cutS z l h) = true then some (.str (cutS z l h)) else none
  | _, _, _ => none
section
variable {X : Cx} {W : Wx} {s : Bool} {w : Wd} {pos p2 : Pos} {x : Expr} {lo hi : Option Expr} {fx : EM} {fl fh : OM}
end
end Vm

set_option maxHeartbeats 1000000
namespace Vm
open PySem L2
section
variable {X : Cx} {W : Wx} {s : Bool} {w : Wd} {pos p : Pos} {x : Str} {F : FV} {k : Nat}
theorem vCall0 (F0 : Fn X.prog X.w X.K X.mg X.base k x (spF w F)) (hr : Room k X.A) (hg : Gl X x := by rfl) (hdb : (x == ("__debug__" : Str)) = false := by decide) : PE X (.Call (.Name x p) [] [] pos) (tV w W s (eCall F aNil)) := by
  obtain ⟨f, fd, ps, h1, h2, h3, h4⟩ := F0.ex
  refine (pe_call0 h1 hr hg h2 h3 h4 .nil pass0 hdb).imp fun σ H Q h => ?_
  obtain ⟨b, e, rfl, S, h⟩ := h
  exact call_sp (E := E0) S (Gr.refl b) (fzl_nil.mpr rfl) h
end
end Vm

set_option maxHeartbeats 1000000
namespace Vm
open PySem L2 PyProof.Rows
def rngD2 (i j : Int) : List D := (List.range (j - i).toNat).map fun n => D.int (i + (n : Nat))
def itRange2 (f g : EM) : LM := fun e => (f e).bind fun d e1 => (g e1).bind fun d2 e2 => match d, d2 with
  | .int i, .int j => if (-1000000 ≤ i ∧ i ≤ 1000000) ∧ (-1000000 ≤ j ∧ j ≤ 1000000) then .ok (rngD2 i j) e2 else .stuck
  | _, _ => .stuck
section
variable {X : Cx} {W : Wx} {s : Bool} {w : Wd} {pos : Pos} {a b : Expr} {f g : EM} {tg : Expr}
end
end Vm

set_option maxHeartbeats 1000000
namespace Vm
open PySem L2 PyProof.Rows
mutual
def flt : D → Bool
  | .non => true
  | .bl _ => true
  | .int _ => true
  | .str _ => true
  | .tup xs => fltL xs
  | .tux xs => fltL xs
  | _ => false
def fltL : List D → Bool
  | [] => true
  | d :: ds => flt d && fltL ds
end
mutual
def spo : D → Bool
  | .non => true
  | .bl _ => true
  | .int _ => true
  | .str _ => true
  | .tup xs => fltL xs
  | .tux xs => fltL xs
  | .olst xs => spoL xs
  | .otup xs => spoL xs
  | _ => false
def spoL : List D → Bool
  | [] => true
  | d :: ds => spo d && spoL ds
end
theorem flt_nolst {w : Wd} {G : Gs} {d : D} {a : Addr} {ws : List V} (f : flt d = true) (z : Fz w G d (.ref a)) (h : G.F a = some (.lst ws)) : False := by
  cases d <;> try (cases f; done)
  · cases fz_non.mp z
  · cases fz_bl.mp z
  · cases fz_int.mp z
  · cases (fz_str.mp z).1
  · obtain ⟨a', vs, e, h1, _⟩ := fz_tup.mp z
    cases e
    rw [h] at h1; cases h1
  · obtain ⟨a', o, vs, e, h1, _⟩ := fz_tux.mp z
    cases e
    rw [h] at h1; cases h1
theorem fltL_mem : ∀ {ds : List D} {d : D}, fltL ds = true → d ∈ ds → flt d = true
  | [], _, _, m => nomatch m
  | d0 :: ds, d, h, m => by
    have h' : flt d0 = true ∧ fltL ds = true := by simpa [fltL] using h
    rcases List.mem_cons.mp m with rfl | m
    · exact h'.1
    · exact fltL_mem h'.2 m
theorem FzL.mem {w : Wd} {G : Gs} : ∀ {ds : List D} {vs : List V} {v : V}, FzL w G ds vs → v ∈ vs → ∃ d ∈ ds, Fz w G d v
  | [], vs, v, h, m => by
    rw [fzl_nil.mp h] at m
    cases m
  | d :: ds, vs, v, h, m => by
    obtain ⟨v1, r, rfl, h1, h2⟩ := fzl_cons.mp h
    rcases List.mem_cons.mp m with rfl | m
    · exact ⟨d, List.mem_cons_self .., h1⟩
    · obtain ⟨d', hd, z⟩ := FzL.mem h2 m
      exact ⟨d', List.mem_cons_of_mem _ hd, z⟩
def ToF (G G2 : Gs) : Prop := (∀ a vs, G.F a = some (.tup vs) → (∀ A ws, V.ref A ∈ vs → G.F A ≠ some (.lst ws)) → G2.F a = some (.tup vs)) ∧ (∀ a o vs, G.F a = some (.frz o (.tup vs)) → G2.F a = some (.frz o (.tup vs)))
mutual
theorem Fz.flt {w : Wd} {G G2 : Gs} (k : ToF G G2) : ∀ {d : D} {v : V}, Fz w G d v → flt d = true → Fz w G2 d v
  | .non, v, h, _ => fz_non.mpr (fz_non.mp h)
  | .bl _, v, h, _ => fz_bl.mpr (fz_bl.mp h)
  | .int _, v, h, _ => fz_int.mpr (fz_int.mp h)
  | .str _, v, h, _ => fz_str.mpr (fz_str.mp h)
  | .tup ds, v, h, c => by
    have c' : fltL ds = true := by simpa [Vm.flt] using c
    obtain ⟨a, vs, rfl, h1, h2, h3⟩ := fz_tup.mp h
    refine fz_tup.mpr ⟨a, vs, rfl, k.1 a vs h1 (fun A ws m q => ?_), h2, FzL.flt k h3 c'⟩
    obtain ⟨d, hd, z⟩ := h3.mem m
    exact flt_nolst (fltL_mem c' hd) z q
  | .tux ds, v, h, c => by
    have c' : fltL ds = true := by simpa [Vm.flt] using c
    obtain ⟨a, o, vs, rfl, h1, hd, h2, h3⟩ := fz_tux.mp h
    exact fz_tux.mpr ⟨a, o, vs, rfl, k.2 a o vs h1, hd, h2, FzL.flt k h3 c'⟩
  | .lst _, _, _, c => by simp [Vm.flt] at c
  | .rol _, _, _, c => by simp [Vm.flt] at c
  | .dic _, _, _, c => by simp [Vm.flt] at c
  | .dix _, _, _, c => by simp [Vm.flt] at c
  | .ins _ _, _, _, c => by simp [Vm.flt] at c
  | .loc _, _, _, c => by simp [Vm.flt] at c
  | .exn _ _, _, _, c => by simp [Vm.flt] at c
  | .fn _, _, _, c => by simp [Vm.flt] at c
  | .olst _, _, _, c => by simp [Vm.flt] at c
  | .odic _, _, _, c => by simp [Vm.flt] at c
  | .odix _, _, _, c => by simp [Vm.flt] at c
  | .oins _ _ _, _, _, c => by simp [Vm.flt] at c
  | .otbl _, _, _, c => by simp [Vm.flt] at c
  | .otup _, _, _, c => by simp [Vm.flt] at c
theorem FzL.flt {w : Wd} {G G2 : Gs} (k : ToF G G2) : ∀ {ds : List D} {vs : List V}, FzL w G ds vs → fltL ds = true → FzL w G2 ds vs
  | [], vs, h, _ => fzl_nil.mpr (fzl_nil.mp h)
  | d :: ds, vs, h, c => by
    obtain ⟨v, r, rfl, h1, h2⟩ := fzl_cons.mp h
    have c' : Vm.flt d = true ∧ fltL ds = true := by simpa [fltL] using c
    exact fzl_cons.mpr ⟨v, r, rfl, Fz.flt k h1 c'.1, FzL.flt k h2 c'.2⟩
end
mutual
theorem Own.spo {w : Wd} {G G2 : Gs} {H : Hp} (k : ToF G G2) : ∀ {d : D} {v : V} {l : List Addr}, Own w G H d v l → spo d = true → Own w G2 H d v l
  | .non, v, l, h, _ => by simpa [Own] using h
  | .bl _, v, l, h, _ => by simpa [Own] using h
  | .int _, v, l, h, _ => by simpa [Own] using h
  | .str _, v, l, h, _ => by simpa [Own] using h
  | .tup ds, v, l, h, c => by
    obtain ⟨z, rfl⟩ := (own_fz (d := .tup ds) rfl).mp h
    exact (own_fz (d := .tup ds) rfl).mpr ⟨z.flt k (by simpa [Vm.spo, Vm.flt] using c), rfl⟩
  | .tux ds, v, l, h, c => by
    obtain ⟨z, rfl⟩ := (own_fz (d := .tux ds) rfl).mp h
    exact (own_fz (d := .tux ds) rfl).mpr ⟨z.flt k (by simpa [Vm.spo, Vm.flt] using c), rfl⟩
  | .olst ds, v, l, h, c => by
    obtain ⟨a, vs, l', rfl, h1, h2, h3, rfl⟩ := own_olst.mp h
    exact own_olst.mpr ⟨a, vs, l', rfl, h1, h2, OwnL.spo k h3 (by simpa [Vm.spo] using c), rfl⟩
  | .otup ds, v, l, h, c => by
    obtain ⟨a, vs, l', rfl, h1, h2, h3, rfl⟩ := own_otup.mp h
    exact own_otup.mpr ⟨a, vs, l', rfl, h1, h2, OwnL.spo k h3 (by simpa [Vm.spo] using c), rfl⟩
  | .lst _, _, _, _, c => by simp [Vm.spo] at c
  | .rol _, _, _, _, c => by simp [Vm.spo] at c
  | .dic _, _, _, _, c => by simp [Vm.spo] at c
  | .dix _, _, _, _, c => by simp [Vm.spo] at c
  | .ins _ _, _, _, _, c => by simp [Vm.spo] at c
  | .loc _, _, _, _, c => by simp [Vm.spo] at c
  | .exn _ _, _, _, _, c => by simp [Vm.spo] at c
  | .fn _, _, _, _, c => by simp [Vm.spo] at c
  | .odic _, _, _, _, c => by simp [Vm.spo] at c
  | .odix _, _, _, _, c => by simp [Vm.spo] at c
  | .oins _ _ _, _, _, _, c => by simp [Vm.spo] at c
  | .otbl _, _, _, _, c => by simp [Vm.spo] at c
theorem OwnL.spo {w : Wd} {G G2 : Gs} {H : Hp} (k : ToF G G2) : ∀ {ds : List D} {vs : List V} {l : List Addr}, OwnL w G H ds vs l → spoL ds = true → OwnL w G2 H ds vs l
  | [], _, _, h, _ => ownl_nil.mpr (ownl_nil.mp h)
  | d :: ds, _, _, h, c => by
    obtain ⟨v, r, l1, l2, rfl, h1, h2, rfl⟩ := ownl_cons.mp h
    have c' : Vm.spo d = true ∧ spoL ds = true := by simpa [spoL] using c
    exact ownl_cons.mpr ⟨v, r, l1, l2, rfl, Own.spo k h1 c'.1, OwnL.spo k h2 c'.2, rfl⟩
end
def hasOl : List D → Bool
  | [] => false
  | .olst _ :: _ => true
  | _ :: ds => hasOl ds
def lend2 : D → Option D
  | .otup ds => if hasOl ds then (lendL ds).map .tup else none
  | d => lendD d
def lend2L : List D → Option (List D)
  | [] => some []
  | d :: ds => (lend2 d).bind fun d' => (lend2L ds).map (d' :: ·)
open Classical in
noncomputable def lentF2 (b : Bs) : Hp := fun a => match b.G.F a with
  | some u => some u
  | none => match b.H a with
    | some (.lst vs) => some (.lst vs)
    | some (.tup vs) => if ∃ A ws, V.ref A ∈ vs ∧ b.H A = some (.lst ws) then some (.tup vs) else none
    | _ => none
noncomputable def Bs.lent2 (b : Bs) : Bs := ⟨⟨lentF2 b, fun n => match n with
  | 0 => b.G.ρ 0
  | _ => none⟩, b.H, fun y => match y with
  | .m 0 => b.o (.m 0)
  | _ => []⟩
section
variable {w : Wd} {b b' : Bs} {σ : L2.St} {e : En} {s : Bool}
theorem lentF2_old {a : Addr} {u : HO} (h : b.G.F a = some u) : lentF2 b a = some u := by
  unfold lentF2
  rw [h]
theorem lentF2_lst (S : ∀ a u, b.G.F a = some u → b.H a = some u) {a : Addr} {vs : List V} (h : b.H a = some (.lst vs)) : lentF2 b a = some (.lst vs) := by
  cases hF : b.G.F a with
  | some u =>
    have := S a u hF
    rw [h] at this
    cases this
    exact lentF2_old hF
  | none =>
    unfold lentF2
    rw [hF, h]
theorem lentF2_tup (S : ∀ a u, b.G.F a = some u → b.H a = some u) {a A : Addr} {vs ws : List V} (h : b.H a = some (.tup vs)) (m : V.ref A ∈ vs) (k : b.H A = some (.lst ws)) : lentF2 b a = some (.tup vs) := by
  cases hF : b.G.F a with
  | some u =>
    have := S a u hF
    rw [h] at this
    cases this
    exact lentF2_old hF
  | none =>
    unfold lentF2
    rw [hF, h]
    have : ∃ A ws, V.ref A ∈ vs ∧ b.H A = some (.lst ws) := ⟨A, ws, m, k⟩
    simp only [this, if_true]
theorem lentF2_cases {a : Addr} {u : HO} (h : lentF2 b a = some u) : b.G.F a = some u ∨ (∃ vs, u = .lst vs ∧ b.H a = some u) ∨ ∃ vs A ws, u = .tup vs ∧ b.H a = some u ∧ V.ref A ∈ vs ∧ b.H A = some (.lst ws) := by
  unfold lentF2 at h
  split at h
  · rename_i u' hu
    cases h
    exact .inl hu
  · split at h
    · rename_i vs hv
      cases h
      exact .inr (.inl ⟨vs, rfl, hv⟩)
    · rename_i vs hv
      split at h
      · rename_i hx
        cases h
        obtain ⟨A, ws, h1, h2⟩ := hx
        exact .inr (.inr ⟨vs, A, ws, rfl, hv, h1, h2⟩)
      · cases h
    · cases h
theorem lent2_ex (S : ∀ a u, b.G.F a = some u → b.H a = some u) : ∀ a u, lentF2 b a = some u → b.H a = some u := fun a u h => by
  rcases lentF2_cases h with h | ⟨_, rfl, h⟩ | ⟨_, _, _, rfl, h, _⟩
  · exact S a u h
  · exact h
  · exact h
theorem lent2_own {a : Addr} : b.lent2.own a ↔ a ∈ b.o (.m 0) := by
  constructor
  · rintro ⟨y, hy⟩
    cases y with
    | s i => exact nomatch hy
    | m n => cases n with
      | zero => exact hy
      | succ n => exact nomatch hy
  · exact fun h => ⟨.m 0, h⟩
theorem tbl_at {q : Str} {r : Mu} (S : Sat w b σ e) (hm : e.mu = some (.otbl q) :: r) : ∃ P ps, b.G.ρ 0 = some P ∧ b.H P = some (.tbl ps) ∧ TriplesOk ps.toList ∧ (∀ (pos : Pos) (cv : Value), codeAmong pos ps.toList = some cv → ∃ c, cv = .ref c ∧ b.G.F c = some (LamX.CodeO c q)) ∧ P = w.cls 999 ∧ b.o (.m 0) = [P] := by
  obtain ⟨v, h1, h2⟩ := S.sl (.m 0) (.otbl q) (by show (e.mu[0]?).getD none = _; rw [hm]; rfl)
  obtain ⟨P, ps, rfl, k1, k2, ⟨k3, k4⟩, k5⟩ := own_otbl.mp h2
  have h1' : (b.G.ρ 0).map V.ref = some (.ref P) := h1
  cases hr : b.G.ρ 0 with
  | none => rw [hr] at h1'; cases h1'
  | some P' =>
    rw [hr] at h1'
    cases h1'
    exact ⟨P, ps, rfl, k1, k2, k3, k4, k5⟩
theorem Sat.lent2 {q : Str} {r : Mu} (S : Sat w b σ e) (hm : e.mu = some (.otbl q) :: r) : Sat w b.lent2 [] ⟨[], [some (.otbl q)]⟩ := by
  obtain ⟨P, ps, k0, k1, k2, k3, k4, k5⟩ := tbl_at S hm
  exact {
    ex := lent2_ex S.ex
    le := rfl
    lm := fun n => by
      cases n with
      | zero =>
        show b.G.ρ 0 = none ↔ 1 ≤ 0
        rw [k0]
        simp
      | succ n => exact ⟨fun _ => by show 1 ≤ n + 1; omega, fun _ => rfl⟩
    sl := fun x d h => by
      cases x with
      | s i =>
        have h' : (([] : List (Option D))[i]?).getD none = some d := h
        simp at h'
      | m n =>
        cases n with
        | zero =>
          have h' : some (D.otbl q) = some d := h
          cases h'
          refine ⟨.ref P, ?_, own_otbl.mpr ⟨P, ps, rfl, k1, k2, ⟨fun pos cv h => ?_, k4⟩, k5⟩⟩
          · show (b.G.ρ 0).map V.ref = _
            rw [k0]; rfl
          · obtain ⟨c, c1, c2⟩ := k3 pos cv h
            exact ⟨c, c1, lentF2_old c2⟩
        | succ n =>
          have h' : (([some (.otbl q)] : List (Option D))[n + 1]?).getD none = some d := h
          simp at h'
    em := fun x h => by
      cases x with
      | s i => rfl
      | m n =>
        cases n with
        | zero =>
          have h' : some (D.otbl q) = none := h
          cases h'
        | succ n => rfl
    ap := fun x y a hx hy => by
      have hx' : x = .m 0 := by
        cases x with
        | s i => exact nomatch hx
        | m n => cases n with
          | zero => rfl
          | succ n => exact nomatch hx
      have hy' : y = .m 0 := by
        cases y with
        | s i => exact nomatch hy
        | m n => cases n with
          | zero => rfl
          | succ n => exact nomatch hy
      rw [hx', hy']
    nd := fun x => by
      cases x with
      | s i => exact List.nodup_nil
      | m n => cases n with
        | zero => exact S.nd (.m 0)
        | succ n => exact List.nodup_nil
    fo := fun x a h => by
      have h0 : a ∈ b.o (.m 0) := lent2_own.mp ⟨x, h⟩
      rw [k5] at h0
      obtain rfl := List.mem_singleton.mp h0
      show lentF2 b a = none
      cases hl : lentF2 b a with
      | none => rfl
      | some u =>
        have := lent2_ex S.ex a u hl
        rcases lentF2_cases hl with h | ⟨_, rfl, h⟩ | ⟨_, _, _, rfl, h, _⟩
        · have := S.fo (.m 0) a (by rw [k5]; simp)
          rw [h] at this
          cases this
        · rw [k1] at h; cases h
        · rw [k1] at h; cases h }
def Bs.got2 (b b' : Bs) : Bs := ⟨⟨Vm.gotF b b', b.G.ρ⟩, b'.H, fun y => match y with
  | .m 0 => b'.o (.m 0)
  | y => b.o y⟩
theorem got2_o {a : Addr} {y : Ix} (h : a ∈ (b.got2 b').o y) : (y = .m 0 ∧ a ∈ b'.o (.m 0)) ∨ (y ≠ .m 0 ∧ a ∈ b.o y) := by
  cases y with
  | s i => exact .inr ⟨(by intro z; cases z), h⟩
  | m n => cases n with
    | zero => exact .inl ⟨rfl, h⟩
    | succ n => exact .inr ⟨(by intro z; cases z), h⟩
theorem gr_got2 (S : Sat w b σ e) (g : Gr false b.lent2 b') : Gr s b (b.got2 b') where
  g := ⟨fun a u h => by
    show Vm.gotF b b' a = some u
    rw [gotF_old (S.ex a u h)]
    exact h, fun _ _ h => h⟩
  k := fun a u h k => g.k a u h (keeps_no fun z => by
    have z' := lent2_own.mp z
    unfold keeps at k
    split at k
    · exact k 0 z'
    · exact k ⟨_, z'⟩)
  n := fun a h => by
    cases hb : b.H a with
    | none => exact .inr (.inr rfl)
    | some u =>
      refine .inl fun z => h ?_
      show Vm.gotF b b' a = none
      rw [gotF_old hb]
      exact z
  p := fun a ⟨y, h⟩ => by
    rcases got2_o h with ⟨_, h⟩ | ⟨_, h⟩
    · rcases g.p a ⟨_, h⟩ with z | z
      · exact .inl ⟨_, lent2_own.mp z⟩
      · exact .inr z
    · exact .inl ⟨y, h⟩
  q := fun _ n a h => by
    rcases got2_o h with ⟨_, h⟩ | ⟨_, h⟩
    · rcases g.p a ⟨_, h⟩ with z | z
      · exact .inl ⟨0, lent2_own.mp z⟩
      · exact .inr z
    · exact .inl ⟨n, h⟩
  h := g.h
theorem Sat.got2 {q q' : Str} {r : Mu} (S : Sat w b σ e) (hm : e.mu = some (.otbl q) :: r) (g : Gr false b.lent2 b') (S' : Sat w b' [] ⟨[], [some (.otbl q')]⟩) : Sat w (b.got2 b') σ ⟨e.sl, some (.otbl q') :: r⟩ := by
  obtain ⟨P, ps, k0, k1, k2, k3, k4, k5⟩ := tbl_at S hm
  obtain ⟨P', ps', m0, m1, m2, m3, m4, m5⟩ := tbl_at S' rfl
  have hP : P' = P := m4.trans k4.symm
  subst hP
  have keep : ∀ {y : Ix} {a : Addr} {u : HO}, y ≠ .m 0 → a ∈ b.o y → b.H a = some u → b'.H a = some u := fun {y a u} hy ha hu => g.k a u hu (keeps_no fun z => hy (S.ap y (.m 0) a ha (lent2_own.mp z)))
  have own : ∀ {y : Ix} {d : D} {v : V}, y ≠ .m 0 → Own w b.G b.H d v (b.o y) → Own w (b.got2 b').G b'.H d v (b.o y) := fun {y d v} hy h => h.keep (gr_got2 (s := true) S g).g fun a ha u hu => keep hy ha hu
  exact {
    ex := fun a u h => by
      have h : Vm.gotF b b' a = some u := h
      cases hb : b.H a with
      | none =>
        rw [gotF_new hb] at h
        exact S'.ex a u h
      | some u0 =>
        rw [gotF_old hb] at h
        exact g.k a u (S.ex a u h) (keeps_no fun z => by
          have := S.fo _ a (lent2_own.mp z)
          rw [h] at this
          cases this)
    le := S.le
    lm := fun n => by
      have := S.lm n
      rw [hm] at this
      exact this
    sl := fun x d h => by
      cases x with
      | s i =>
        obtain ⟨v, h1, h2⟩ := S.sl (.s i) d h
        exact ⟨v, h1, own (by intro z; cases z) h2⟩
      | m n => cases n with
        | zero =>
          have h' : some (D.otbl q') = some d := h
          cases h'
          refine ⟨.ref P', ?_, own_otbl.mpr ⟨P', ps', rfl, m1, m2, ⟨fun pos cv h => ?_, m4⟩, m5⟩⟩
          · show (b.G.ρ 0).map V.ref = _
            rw [k0]; rfl
          · obtain ⟨c, c1, c2⟩ := m3 pos cv h
            refine ⟨c, c1, ?_⟩
            show Vm.gotF b b' c = _
            cases hb : b.H c with
            | none => rw [gotF_new hb]; exact c2
            | some u0 =>
              rw [gotF_old hb]
              rcases g.n c (by rw [c2]; intro z; cases z) with z | z | z
              · cases hl : lentF2 b c with
                | none => exact absurd hl z
                | some u1 =>
                  have h1 : b'.G.F c = some u1 := g.g.f c u1 hl
                  rw [c2] at h1
                  cases h1
                  rcases lentF2_cases hl with h | ⟨_, h, _⟩ | ⟨_, _, _, h, _⟩
                  · exact h
                  · cases h
                  · cases h
              · have h0 := lent2_own.mp z
                rw [k5] at h0
                obtain rfl := List.mem_singleton.mp h0
                have := S'.fo (.m 0) c (by rw [m5]; simp)
                rw [c2] at this
                cases this
              · have z' : b.H c = none := z
                rw [hb] at z'
                cases z'
        | succ n =>
          obtain ⟨v, h1, h2⟩ := S.sl (.m (n + 1)) d (by
            show (e.mu[n + 1]?).getD none = some d
            rw [hm]
            exact h)
          exact ⟨v, h1, own (by intro z; cases z) h2⟩
    em := fun x h => by
      cases x with
      | s i => exact S.em (.s i) h
      | m n => cases n with
        | zero =>
          have h' : some (D.otbl q') = none := h
          cases h'
        | succ n => exact S.em (.m (n + 1)) (by
            show (e.mu[n + 1]?).getD none = none
            rw [hm]
            exact h)
    ap := fun x y a hx hy => by
      have one : ∀ {y : Ix}, a ∈ b'.o (.m 0) → y ≠ .m 0 → a ∈ b.o y → False := fun {y} h1 hn h2 => by
        rw [m5] at h1
        obtain rfl := List.mem_singleton.mp h1
        exact hn (S.ap y (.m 0) a h2 (by rw [k5]; simp))
      rcases got2_o hx with ⟨rfl, h1⟩ | ⟨n1, h1⟩ <;> rcases got2_o hy with ⟨rfl, h2⟩ | ⟨n2, h2⟩
      · rfl
      · exact (one h1 n2 h2).elim
      · exact (one h2 n1 h1).elim
      · exact S.ap x y a h1 h2
    nd := fun x => by
      cases x with
      | s i => exact S.nd (.s i)
      | m n => cases n with
        | zero => exact S'.nd (.m 0)
        | succ n => exact S.nd (.m (n + 1))
    fo := fun x a h => by
      show Vm.gotF b b' a = none
      rcases got2_o h with ⟨rfl, h'⟩ | ⟨_, h'⟩
      · rw [m5] at h'
        obtain rfl := List.mem_singleton.mp h'
        rw [gotF_old k1]
        exact S.fo (.m 0) a (by rw [k5]; simp)
      · obtain ⟨h1, u, h2⟩ := S.there ⟨x, h'⟩
        rw [gotF_old h2]
        exact h1 }
theorem BrL.of_own : ∀ {ds : List D} {vs : List V} {l : List Addr}, OwnL w b.G b.H ds vs l → (∀ a ∈ l, ∀ n, a ∉ b.o (.m n)) → BrL w b ds vs
  | [], vs, l, h, _ => (ownl_nil.mp h).1
  | d :: ds, vs, l, h, k => by
    obtain ⟨v, r, l1, l2, rfl, h1, h2, rfl⟩ := ownl_cons.mp h
    exact ⟨v, r, rfl, ⟨l1, h1, fun a ha => k a (List.mem_append_left _ ha)⟩, BrL.of_own h2 fun a ha => k a (List.mem_append_right _ ha)⟩
theorem bare2_le : (⟨b.G.F, fun _ => none⟩ : Gs).le b.lent2.G := ⟨fun a u h => lentF2_old h, fun _ _ h => by cases h⟩
theorem Br.lentA (S : Sat w b σ e) {d d' : D} {v : V} (z : Br w b d v) (h : lendD d = some d') (hn : noLoc d' = true) : Fz w b.lent2.G d' v := by
  unfold lendD at h
  split at h
  · rename_i ds
    split at h
    · rename_i hf
      cases h
      obtain ⟨a, vs, l, rfl, h1, h2, h3⟩ := z.olst
      have z3 := (h3.fz hf).1
      exact fz_lst.mpr ⟨a, vs, rfl, lentF2_lst S.ex h1, h2, FzL.mono bare2_le (FzL.bare z3 (by simpa [noLoc] using hn))⟩
    · cases h
  · split at h
    · rename_i hF
      cases h
      exact ((z.fz hF).bare hn).mono bare2_le
    · cases h
theorem BrL.lentA (S : Sat w b σ e) : ∀ {ds ds' : List D} {vs : List V}, BrL w b ds vs → lendL ds = some ds' → noLocL ds' = true → FzL w b.lent2.G ds' vs
  | [], ds', vs, z, h, _ => by
    cases h
    exact fzl_nil.mpr z
  | d :: ds, ds', vs, z, h, hn => by
    obtain ⟨v, r, rfl, z1, z2⟩ := z
    obtain ⟨d1, h1, h2⟩ := Option.bind_eq_some_iff.mp (show (lendD d).bind (fun d' => (lendL ds).map (d' :: ·)) = some ds' from h)
    obtain ⟨ds1, h3, rfl⟩ := Option.map_eq_some_iff.mp h2
    have hn' : noLoc d1 = true ∧ noLocL ds1 = true := by simpa [noLocL] using hn
    exact fzl_cons.mpr ⟨v, r, rfl, z1.lentA S h1 hn'.1, BrL.lentA S z2 h3 hn'.2⟩
theorem ol_mem : ∀ {ds : List D} {vs : List V}, BrL w b ds vs → hasOl ds = true → ∃ A ws, V.ref A ∈ vs ∧ b.H A = some (.lst ws)
  | [], vs, _, h => by simp [hasOl] at h
  | d :: ds, vs, z, h => by
    obtain ⟨v, r, rfl, z1, z2⟩ := z
    have key : hasOl ds = true → ∃ A ws, V.ref A ∈ v :: r ∧ b.H A = some (.lst ws) := fun h => by
      obtain ⟨A, ws, h1, h2⟩ := ol_mem z2 h
      exact ⟨A, ws, List.mem_cons_of_mem _ h1, h2⟩
    cases d with
    | olst xs =>
      obtain ⟨a, vs, l, rfl, h1, _, _⟩ := z1.olst
      exact ⟨a, vs, List.mem_cons_self .., h1⟩
    | _ => exact key h
theorem lendL_len : ∀ {ds ds' : List D}, lendL ds = some ds' → ds'.length = ds.length
  | [], ds', h => by cases h; rfl
  | d :: ds, ds', h => by
    obtain ⟨d1, h1, h2⟩ := Option.bind_eq_some_iff.mp (show (lendD d).bind (fun d' => (lendL ds).map (d' :: ·)) = some ds' from h)
    obtain ⟨ds1, h3, rfl⟩ := Option.map_eq_some_iff.mp h2
    simp [lendL_len h3]
theorem Br.lentB (S : Sat w b σ e) {d d' : D} {v : V} (z : Br w b d v) (h : lend2 d = some d') (hn : noLoc d' = true) : Fz w b.lent2.G d' v := by
  cases d with
  | otup ds =>
    have h' : (if hasOl ds then (lendL ds).map D.tup else none) = some d' := h
    split at h'
    · rename_i ho
      obtain ⟨ds', h1, rfl⟩ := Option.map_eq_some_iff.mp h'
      obtain ⟨l, h2, h3⟩ := z
      obtain ⟨T, vs, l', rfl, k1, k2, k3, rfl⟩ := own_otup.mp h2
      have zb : BrL w b ds vs := BrL.of_own k3 fun a ha => h3 a (List.mem_cons_of_mem _ ha)
      obtain ⟨A, ws, a1, a2⟩ := ol_mem zb ho
      exact fz_tup.mpr ⟨T, vs, rfl, lentF2_tup S.ex k1 a1 a2, by rw [lendL_len h1]; exact k2, zb.lentA S h1 (by simpa [noLoc] using hn)⟩
    · cases h'
  | _ => exact z.lentA S h hn
theorem BrL.lentB (S : Sat w b σ e) : ∀ {ds ds' : List D} {vs : List V}, BrL w b ds vs → lend2L ds = some ds' → noLocL ds' = true → FzL w b.lent2.G ds' vs
  | [], ds', vs, z, h, _ => by
    cases h
    exact fzl_nil.mpr z
  | d :: ds, ds', vs, z, h, hn => by
    obtain ⟨v, r, rfl, z1, z2⟩ := z
    obtain ⟨d1, h1, h2⟩ := Option.bind_eq_some_iff.mp (show (lend2 d).bind (fun d' => (lend2L ds).map (d' :: ·)) = some ds' from h)
    obtain ⟨ds1, h3, rfl⟩ := Option.map_eq_some_iff.mp h2
    have hn' : noLoc d1 = true ∧ noLocL ds1 = true := by simpa [noLocL] using hn
    exact fzl_cons.mpr ⟨v, r, rfl, z1.lentB S h1 hn'.1, BrL.lentB S z2 h3 hn'.2⟩
end
def eCallM (F : FV) (ar : LM) : EM := fun e => (ar e).bind fun ds e1 => match lend2L ds with
  | some ds' => if noLocL ds' then (match e1.mu with
    | some (.otbl q) :: r => (match F [some (.otbl q)] ds' with
      | .ok d [some (.otbl q')] => if spo d then .ok d ⟨e1.sl, some (.otbl q') :: r⟩ else .stuck
      | _ => .stuck)
    | _ => .stuck) else .stuck
  | none => .stuck
section
variable {X : Cx} {W : Wx} {s : Bool} {w : Wd} {pos p : Pos} {x : Str} {a : Expr} {es : List Expr} {ar : LM} {F : FV} {k : Nat}
end
end Vm

set_option maxHeartbeats 1000000
namespace Vm
open PySem L2 PyProof.Rows
section
variable {w : Wd} {G : Gs} {H : Hp}
end
def kSetIx2 (k j : Nat) (y : D) : D → Option D
  | .otup ds => match ds[k]? with
    | some (.olst xs) => if j < xs.length ∧ xs.all isF = true then some (.otup (ds.set k (.olst (xs.set j y)))) else none
    | _ => none
  | _ => none
def sSetIx2 (i k j : Nat) (f : EM) : SM := fun e => ofE (f e) fun d e1 => match (slotD e1 i).bind (kSetIx2 k j d) with
  | none => .stuck
  | some d2 => .nx ⟨e1.sl.set i (some d2), e1.mu⟩
section
variable {X : Cx} {W : Wx} {s : Bool} {w : Wd} {pos p p2 p3 p4 : Pos} {x : Expr} {f : EM}
end
end Vm

set_option maxHeartbeats 1000000
namespace Vm
open PySem L2 PyProof.Rows
section
variable {w : Wd} {G : Gs} {H : Hp}
end
section
variable {w : Wd} {b b0 : Bs} {σ : L2.St} {e : En}
end
def sPopO (iw io : Nat) : SM := fun e => match slotD e iw with
  | some (.olst xs) => match xs.getLast? with
    | some d => if iw ≠ io ∧ io < e.sl.length then .nx ⟨(e.sl.set iw (some (.olst xs.dropLast))).set io (some d), e.mu⟩ else .stuck
    | none => .stuck
  | _ => .stuck
section
variable {X : Cx} {W : Wx} {w : Wd} {pos p p2 ap cp : Pos}
end
def dSqB : D → Option D
  | .non => some (.bl false)
  | .bl _ => some (.bl false)
  | .int _ => some (.bl false)
  | .str _ => some (.bl false)
  | .tup _ => some (.bl true)
  | .tux _ => some (.bl true)
  | .olst _ => some (.bl true)
  | .otup _ => some (.bl true)
  | _ => none
section
variable {X : Cx} {W : Wx} {s : Bool} {w : Wd} {pos p p2 p3 p4 : Pos} {a : Expr} {fa : EM}
end
end Vm

set_option maxHeartbeats 1000000
namespace Vm
open PySem L2 PyProof.Rows
def kid? : D → Option (List D)
  | .tup xs => some xs
  | .tux xs => some xs
  | .olst xs => some xs
  | .otup xs => some xs
  | _ => none
def sKids (iw io : Nat) : SM := fun e => match slotD e iw, slotD e io with
  | some (.olst ds), some d => if iw ≠ io then (match kid? d with
    | some xs => if ds.length + xs.length ≤ LIM ∧ xs.length < LIM then .nx ⟨(e.sl.set io none).set iw (some (.olst (ds ++ xs))), e.mu⟩ else .stuck
    | none => if flat d then .nx ⟨e.sl.set io none, e.mu⟩ else .stuck) else .stuck
  | _, _ => .stuck
section
variable {w : Wd} {b b0 : Bs} {σ : L2.St} {e : En}
end
section
variable {X : Cx} {W : Wx} {w : Wd} {pos pos2 p p2 p3 p4 p5 p6 p7 p8 p9 p10 p11 p12 p13 p14 q1 q2 q3 q4 ap cp : Pos}
end
end Vm

set_option maxHeartbeats 1000000
namespace Vm
open PySem L2 PyProof.Rows
def Bs.hand (b : Bs) (l : List Addr) : Bs := ⟨b.G, b.H, fun y => match y with
  | .s 0 => l
  | .s (_ + 1) => []
  | .m n => b.o (.m n)⟩
def spO (w : Wd) (n : Nat) (bd : SM) : Sp := fun vs H Q _ => ∃ b mu d v l, vs = [v] ∧ H = b.H ∧ Sat w b [] ⟨[], mu⟩ ∧ Own w b.G b.H d v l ∧ l.Nodup ∧ (∀ a ∈ l, b.G.F a = none ∧ ¬ b.own a) ∧ match bd ⟨some d :: List.replicate n none, mu⟩ with
  | .nx e => ∀ b', Gr false (b.hand l) b' → Sat w b' [] ⟨[], e.mu⟩ → Q .non b'.H
  | _ => False
section
variable {w : Wd} {b b' : Bs} {σ : L2.St} {e : En} {l : List Addr}
theorem hand_o {a : Addr} {y : Ix} (h : a ∈ (b.hand l).o y) : (y = .s 0 ∧ a ∈ l) ∨ ∃ n, y = .m n ∧ a ∈ b.o (.m n) := by
  cases y with
  | s i => cases i with
    | zero => exact .inl ⟨rfl, h⟩
    | succ i => exact nomatch h
  | m n => exact .inr ⟨n, rfl, h⟩
theorem rep_none {α : Type} (n i : Nat) : ((List.replicate n (none : Option α))[i]?).getD none = none := by
  by_cases h : i < n
  · rw [List.getElem?_replicate_of_lt h]; rfl
  · rw [List.getElem?_eq_none (by simp; omega)]; rfl
theorem Sat.hand {mu : Mu} {d : D} {v : V} {n : Nat} (S : Sat w b [] ⟨[], mu⟩) (O : Own w b.G b.H d v l) (nd : l.Nodup) (fr : ∀ a ∈ l, b.G.F a = none ∧ ¬ b.own a) : Sat w (b.hand l) (some v :: List.replicate n none) ⟨some d :: List.replicate n none, mu⟩ where
  ex := S.ex
  le := by simp
  lm := S.lm
  sl := fun y d' h => by
    cases y with
    | s i => cases i with
      | zero =>
        have h' : some d = some d' := h
        cases h'
        exact ⟨v, rfl, O⟩
      | succ i =>
        have h' : ((List.replicate n (none : Option D))[i]?).getD none = some d' := h
        rw [rep_none] at h'
        cases h'
    | m k => exact S.sl (.m k) d' h
  em := fun y h => by
    cases y with
    | s i => cases i with
      | zero =>
        have h' : some d = none := h
        cases h'
      | succ i => rfl
    | m k => exact S.em (.m k) h
  ap := fun y z a h1 h2 => by
    rcases hand_o h1 with ⟨rfl, k1⟩ | ⟨n1, rfl, k1⟩ <;> rcases hand_o h2 with ⟨rfl, k2⟩ | ⟨n2, rfl, k2⟩
    · rfl
    · exact absurd ⟨_, k2⟩ (fr a k1).2
    · exact absurd ⟨_, k1⟩ (fr a k2).2
    · exact S.ap _ _ a k1 k2
  nd := fun y => by
    cases y with
    | s i => cases i with
      | zero => exact nd
      | succ i => exact List.nodup_nil
    | m k => exact S.nd (.m k)
  fo := fun y a h => by
    rcases hand_o h with ⟨rfl, k1⟩ | ⟨n1, rfl, k1⟩
    · exact (fr a k1).1
    · exact S.fo _ a k1
end
def Bs.aftH (b b' : Bs) (i : Nat) : Bs := ⟨b'.G, b'.H, fun y => match y with
  | .s j => if j = i then [] else b.o (.s j)
  | .m n => b'.o (.m n)⟩
section
variable {w : Wd} {b b' : Bs} {σ : L2.St} {e : En} {i : Nat} {mu : Mu}
theorem aftH_s {j : Nat} {a : Addr} (h : a ∈ (b.aftH b' i).o (.s j)) : j ≠ i ∧ a ∈ b.o (.s j) := by
  have h' : a ∈ (if j = i then [] else b.o (.s j)) := h
  split at h'
  · cases h'
  · exact ⟨by assumption, h'⟩
theorem handT_own {l : List Addr} {a : Addr} (h : (b.top.hand l).own a) : a ∈ l ∨ ∃ n, a ∈ b.o (.m n) := by
  obtain ⟨y, hy⟩ := h
  rcases hand_o hy with ⟨_, h⟩ | ⟨n, _, h⟩
  · exact .inl h
  · exact .inr ⟨n, h⟩
theorem Sat.aftH (S : Sat w b σ e) (g : Gr false (b.top.hand (b.o (.s i))) b') (S' : Sat w b' [] ⟨[], mu⟩) : Sat w (b.aftH b' i) σ ⟨e.sl.set i none, mu⟩ := by
  have apart : ∀ j a, j ≠ i → a ∈ b.o (.s j) → ¬ (b.top.hand (b.o (.s i))).own a ∧ ∃ u, b.H a = some u := fun j a hj h => by
    refine ⟨fun z => ?_, (S.there ⟨_, h⟩).2⟩
    rcases handT_own z with z | ⟨n, z⟩
    · have := S.ap _ _ a h z
      cases this
      exact hj rfl
    · cases S.ap _ _ a h z
  have noc : ∀ j a n, j ≠ i → a ∈ b.o (.s j) → a ∉ b'.o (.m n) := fun j a n hj h z => by
    obtain ⟨h1, u, hu⟩ := apart j a hj h
    rcases g.p a ⟨.m n, z⟩ with q | q
    · exact h1 q
    · have q' : b.H a = none := q
      rw [hu] at q'
      cases q'
  refine ⟨S'.ex, by rw [List.length_set]; exact S.le, S'.lm, fun y d h => ?_, fun y h => ?_, fun y z a h1 h2 => ?_, fun y => ?_, fun y a h => ?_⟩
  · cases y with
    | s j =>
      have h0 : ((e.sl.set i none)[j]?).getD none = some d := h
      have hj : j ≠ i := fun z => by
        subst z
        by_cases hi : j < e.sl.length
        · rw [List.getElem?_set_self hi] at h0; cases h0
        · rw [List.getElem?_eq_none (by rw [List.length_set]; omega)] at h0; cases h0
      rw [List.getElem?_set_ne (fun z => hj z.symm)] at h0
      obtain ⟨v, k1, k2⟩ := S.sl (.s j) d h0
      refine ⟨v, k1, ?_⟩
      show Own w b'.G b'.H d v (if j = i then [] else b.o (.s j))
      rw [if_neg hj]
      exact k2.keep g.g fun a ha u hu => g.k a u hu (keeps_no (apart j a hj ha).1)
    | m n => exact S'.sl (.m n) d h
  · cases y with
    | s j =>
      show (if j = i then [] else b.o (.s j)) = []
      by_cases hj : j = i
      · rw [if_pos hj]
      · rw [if_neg hj]
        have h0 : ((e.sl.set i none)[j]?).getD none = none := h
        rw [List.getElem?_set_ne (fun z => hj z.symm)] at h0
        exact S.em (.s j) h0
    | m n => exact S'.em (.m n) h
  · cases y with
    | s i1 =>
      obtain ⟨n1, k1⟩ := aftH_s h1
      cases z with
      | s j => exact S.ap _ _ a k1 (aftH_s h2).2
      | m n => exact absurd h2 (noc i1 a n n1 k1)
    | m n =>
      cases z with
      | s j => exact absurd h1 (noc j a n (aftH_s h2).1 (aftH_s h2).2)
      | m k => exact S'.ap _ _ a h1 h2
  · cases y with
    | s j =>
      show (if j = i then [] else b.o (.s j)).Nodup
      split
      · exact List.nodup_nil
      · exact S.nd (.s j)
    | m n => exact S'.nd (.m n)
  · cases y with
    | s j =>
      obtain ⟨n1, k1⟩ := aftH_s h
      obtain ⟨h1, u, hu⟩ := apart j a n1 k1
      cases q : b'.G.F a with
      | none => exact q
      | some u' =>
        rcases g.n a (by rw [q]; intro z; cases z) with z | z | z
        · exact absurd (S.fo _ a k1) z
        · exact absurd z h1
        · have z' : b.H a = none := z
          rw [hu] at z'
          cases z'
    | m n => exact S'.fo (.m n) a h
end
def sGive (i n : Nat) (bd : SM) : SM := fun e => match slotD e i with
  | some d => (match bd ⟨some d :: List.replicate n none, e.mu⟩ with
    | .nx e' => .nx ⟨e.sl.set i none, e'.mu⟩
    | _ => .stuck)
  | none => .stuck
section
variable {X : Cx} {W : Wx} {w : Wd} {pos p p2 cp : Pos} {k n : Nat} {bd : SM}
end
end Vm

set_option maxHeartbeats 1000000
namespace Vm
open PySem L2 PyProof.Rows
def dSlR : D → Option Int → Option Int → Option D := fun x l h => match x with
  | .rol xs => some (.olst (cutD xs l h))
  | _ => none
section
variable {X : Cx} {W : Wx} {s : Bool} {w : Wd} {pos p2 : Pos} {x : Expr} {lo hi : Option Expr} {fx : EM} {fl fh : OM}
end
end Vm

set_option maxHeartbeats 2000000
namespace Vm
open PySem L2 PyProof.Rows
def wfuel : Nat := 100000000
structure Gf (P : Program) (w : World) (K : PySem.W.Frag) (mg : Str → Option Value) (base : Heap) (cls : Nat → Addr) (flds : Nat → List Str) : Prop where
  f_ValueError : mg "ValueError" = none
  f_dict : mg "dict" = none
  f_int : mg "int" = none
  f_isinstance : mg "isinstance" = none
  f_len : mg "len" = none
  f_list : mg "list" = none
  f_max : mg "max" = none
  f_range : mg "range" = none
  f_repr : mg "repr" = none
  x0_HushError : ExA0 K (cls 12)
  g_HushError : mg "HushError" = some (.ref (cls 12))
  x0_NothingToUndo : ExA0 K (cls 11)
  g_NothingToUndo : mg "NothingToUndo" = some (.ref (cls 11))
  g_InvalidList : mg "InvalidList" = some (.ref (cls 0))
  xl_InvalidList : flds 0 = [("value" : Str)]
  xk_InvalidList : ExMN P K mg (cls 0) "value"
  xi_InvalidList : ∀ s, ExnI ⟨P, w, K, cls, flds, s, none⟩ [0, 1, 2, 3, 4, 5, 6, 7, 8, 9, 10, 11] 0
  g_InvalidItem : mg "InvalidItem" = some (.ref (cls 1))
  xl_InvalidItem : flds 1 = [("value" : Str)]
  xk_InvalidItem : ExMN P K mg (cls 1) "value"
  xi_InvalidItem : ∀ s, ExnI ⟨P, w, K, cls, flds, s, none⟩ [0, 1, 2, 3, 4, 5, 6, 7, 8, 9, 10, 11] 1
  g_InvalidBook : mg "InvalidBook" = some (.ref (cls 2))
  xl_InvalidBook : flds 2 = [("value" : Str)]
  xk_InvalidBook : ExMN P K mg (cls 2) "value"
  xi_InvalidBook : ∀ s, ExnI ⟨P, w, K, cls, flds, s, none⟩ [0, 1, 2, 3, 4, 5, 6, 7, 8, 9, 10, 11] 2
  g_InvalidLot : mg "InvalidLot" = some (.ref (cls 3))
  xl_InvalidLot : flds 3 = [("value" : Str)]
  xk_InvalidLot : ExMN P K mg (cls 3) "value"
  xi_InvalidLot : ∀ s, ExnI ⟨P, w, K, cls, flds, s, none⟩ [0, 1, 2, 3, 4, 5, 6, 7, 8, 9, 10, 11] 3
  g_InvalidRun : mg "InvalidRun" = some (.ref (cls 4))
  xl_InvalidRun : flds 4 = [("value" : Str)]
  xk_InvalidRun : ExMN P K mg (cls 4) "value"
  xi_InvalidRun : ∀ s, ExnI ⟨P, w, K, cls, flds, s, none⟩ [0, 1, 2, 3, 4, 5, 6, 7, 8, 9, 10, 11] 4
  g_InvalidGoal : mg "InvalidGoal" = some (.ref (cls 5))
  xl_InvalidGoal : flds 5 = [("value" : Str)]
  xk_InvalidGoal : ExMN P K mg (cls 5) "value"
  xi_InvalidGoal : ∀ s, ExnI ⟨P, w, K, cls, flds, s, none⟩ [0, 1, 2, 3, 4, 5, 6, 7, 8, 9, 10, 11] 5
  g_InvalidNumber : mg "InvalidNumber" = some (.ref (cls 6))
  xl_InvalidNumber : flds 6 = [("value" : Str)]
  xk_InvalidNumber : ExMN P K mg (cls 6) "value"
  xi_InvalidNumber : ∀ s, ExnI ⟨P, w, K, cls, flds, s, none⟩ [0, 1, 2, 3, 4, 5, 6, 7, 8, 9, 10, 11] 6
  g_InvalidText : mg "InvalidText" = some (.ref (cls 7))
  xl_InvalidText : flds 7 = [("value" : Str)]
  xk_InvalidText : ExMN P K mg (cls 7) "value"
  xi_InvalidText : ∀ s, ExnI ⟨P, w, K, cls, flds, s, none⟩ [0, 1, 2, 3, 4, 5, 6, 7, 8, 9, 10, 11] 7
  g_InvalidName : mg "InvalidName" = some (.ref (cls 8))
  xl_InvalidName : flds 8 = [("name" : Str)]
  xk_InvalidName : ExMN P K mg (cls 8) "name"
  xi_InvalidName : ∀ s, ExnI ⟨P, w, K, cls, flds, s, none⟩ [0, 1, 2, 3, 4, 5, 6, 7, 8, 9, 10, 11] 8
  g_TakenName : mg "TakenName" = some (.ref (cls 9))
  xl_TakenName : flds 9 = [("name" : Str)]
  xk_TakenName : ExMN P K mg (cls 9) "name"
  xi_TakenName : ∀ s, ExnI ⟨P, w, K, cls, flds, s, none⟩ [0, 1, 2, 3, 4, 5, 6, 7, 8, 9, 10, 11] 9
  g_UnknownName : mg "UnknownName" = some (.ref (cls 10))
  xl_UnknownName : flds 10 = [("name" : Str)]
  xk_UnknownName : ExMN P K mg (cls 10) "name"
  xi_UnknownName : ∀ s, ExnI ⟨P, w, K, cls, flds, s, none⟩ [0, 1, 2, 3, 4, 5, 6, 7, 8, 9, 10, 11] 10
  xi_NothingToUndo : ∀ s, ExnI ⟨P, w, K, cls, flds, s, none⟩ [0, 1, 2, 3, 4, 5, 6, 7, 8, 9, 10, 11] 11
  sys : (K.lookup sysModules).isSome = true
  xa_HushError : ∀ s, ExnA ⟨P, w, K, cls, flds, s, none⟩ [0, 1, 2, 3, 4, 5, 6, 7, 8, 9, 10, 11] (.ref (cls 12))
  xv : ∀ s, ExnA ⟨P, w, K, cls, flds, s, none⟩ [0, 1, 2, 3, 4, 5, 6, 7, 8, 9, 10, 11] (.type "ValueError")
  xvh : ∀ s, ExnA ⟨P, w, K, cls, flds, s, none⟩ [12] (.type "ValueError")
  xz_NothingToUndo : flds 11 = []
  xz_HushError : flds 12 = []
  xf_name : ∀ s, ExnF ⟨P, w, K, cls, flds, s, none⟩ [8, 9, 10] "name"
  xf_value : ∀ s, ExnF ⟨P, w, K, cls, flds, s, none⟩ [0, 1, 2, 3, 4, 5, 6, 7] "value"
  d__law_cell : Def1 K mg "_law_cell" "_law_cell" Hd.s0
  d__law_generator : Def1 K mg "_law_generator" "_law_generator" Hd.s1
  d__law_hash : Def1 K mg "_law_hash" "_law_hash" Hd.s2
  d__law_kinds : Def1 K mg "_law_kinds" "_law_kinds" Hd.s3
  d__law_named : Def1 K mg "_law_named" "_law_named" Hd.s4
  d__law_placed : Def1 K mg "_law_placed" "_law_placed" Hd.s5
  d__law_random : Def1 K mg "_law_random" "_law_random" Hd.s6
  d__law_right : Def1 K mg "_law_right" "_law_right" Hd.s7
  d__law_unset : Def1 K mg "_law_unset" "_law_unset" Hd.s8
  d_law : Def1 K mg "law" "law" Hd.s9
def bd__law_cell : SM := (seqS (sIf (eTest (bin dLt (eVar 1) (un dLen (eVar 0)))) (sRet (bin dIxA (eVar 0) (eVar 1))) sNext)
  (sRet (eC (.int 0))))
theorem sc__law_cell : FnScope ["_law_script", "_law_index"] ["_law_script", "_law_index"] (defScope Hd.s0) := ⟨rfl, rfl, rfl, by decide +kernel, rfl, by decide +kernel, by decide +kernel⟩
def fn__law_cell : PF := runP 2 0 bd__law_cell
theorem ok__law_cell {P : Program} {w : World} {K : PySem.W.Frag} {mg : Str → Option Value} {base : Heap} {cls : Nat → Addr} {flds : Nat → List Str} (g : Gf P w K mg base cls flds) (sf : Option Addr) : Fn P w K mg base 1 "_law_cell" (spF ⟨P, w, K, cls, flds, sf, none⟩ (pureF fn__law_cell)) := g.d__law_cell.fn (fun f fd F => F.bindsN (ps := ["_law_script", "_law_index"]) fun _ _ _ _ _ _ us hl => match us, hl with | [_, _], _ => rfl) fun f fd F => fn_p (W := ⟨P, w, K, cls, flds, sf, none⟩) F sc__law_cell rfl rfl fun cdv A outer s H vs E hr => by
  have o : Okx ⟨P, w, K, cls, flds, sf, none⟩ (cxOf CX0 P w K mg base ["_law_script", "_law_index"] "_law_cell" (defScope Hd.s0) f cdv A outer s H E).nox := ⟨rfl, rfl, rfl, u65 hr, rfl, sc__law_cell.nd⟩
  have nd := sc__law_cell.nd
  exact (zsCons (zIf (s := false) (fCmpT ob_lt op_lt (zVar 1) (bZ (zCallB ub_len (c_len o) (by rfl) g.f_len PySem.boot_len (bZ (zVar 0))))) (zsOne (vRet (s := false) (vZ (fIx ob_ixA (r_ixA o) (zVar 0) (bZ (zVar 1)))))) zsNil)
  (zsOne (vRet (s := false) (vZ zInt))))
def bd__law_generator : SM := (seqS (sAsg (frzA (eCall (pureF fn__law_cell) (aCons (eVar 0) (aCons (eVar 1) aNil)))) (gN 2))
  (sRet (eLst (aCons (bin dMod (un dToInt (bin dMax2 (bin dSub (eVar 2) (bin dPow (eC (.int 10)) (eC (.int 18)))) (eC (.int 0)))) (bin dPow (bin dPow (eC (.int 10)) (eC (.int 60))) (eC (.int 10)))) (aCons (bin dMod (un dToInt (eVar 2)) (eC (.int 2147483647))) (aCons (frzE (bin dMulA (eC (.int 1000)) (eVar 1))) aNil))))))
theorem sc__law_generator : FnScope ["_law_script", "_law_index", "_law_seed"] ["_law_script", "_law_index"] (defScope Hd.s1) := ⟨rfl, rfl, rfl, by decide +kernel, rfl, by decide +kernel, by decide +kernel⟩
def fn__law_generator : PF := runP 2 1 bd__law_generator
theorem ok__law_generator {P : Program} {w : World} {K : PySem.W.Frag} {mg : Str → Option Value} {base : Heap} {cls : Nat → Addr} {flds : Nat → List Str} (g : Gf P w K mg base cls flds) (sf : Option Addr) : Fn P w K mg base 2 "_law_generator" (spF ⟨P, w, K, cls, flds, sf, none⟩ (pureF fn__law_generator)) := g.d__law_generator.fn (fun f fd F => F.bindsN (ps := ["_law_script", "_law_index"]) fun _ _ _ _ _ _ us hl => match us, hl with | [_, _], _ => rfl) fun f fd F => fn_p (W := ⟨P, w, K, cls, flds, sf, none⟩) F sc__law_generator rfl rfl fun cdv A outer s H vs E hr => by
  have o : Okx ⟨P, w, K, cls, flds, sf, none⟩ (cxOf CX0 P w K mg base ["_law_script", "_law_index", "_law_seed"] "_law_generator" (defScope Hd.s1) f cdv A outer s H E).nox := ⟨rfl, rfl, rfl, u65 hr, rfl, sc__law_generator.nd⟩
  have nd := sc__law_generator.nd
  exact (zsCons (vSet (s := false) 2 nd (vZ (zVA (vCall (ok__law_cell g sf) (hr.mono (by decide)) (zaCons (zVar 0) (zaCons (zVar 1) zaNil))))))
  (zsOne (vRet (s := false) (oLst (zaCons (fOp ob_mod op_mod (zCallT ub_int call_int1 (by rfl) g.f_int PyProof.Rows.boot_int (bZ (zMax2 o (by rfl) g.f_max (fOp ob_sub op_sub (zVar 2) (bZ (fOp ob_pow op_powW zInt (bZ zInt)))) zInt))) (bZ (fOp ob_pow op_powW (fOp ob_pow op_powW zInt (bZ zInt)) (bZ zInt)))) (zaCons (fOp ob_mod op_mod (zCallT ub_int call_int1 (by rfl) g.f_int PyProof.Rows.boot_int (bZ (zVar 2))) (bZ zInt)) (zaCons (zV (fOpO ob_mulA (r_mulA o) zInt (bZ (zVar 1)))) zaNil)))))))
def bd__law_hash : SM := (seqS (sAsg (bin dMod (un dToInt (bin dAddA (frzE (bin dAddA (frzE (bin dAddA (frzE (bin dMulA (eVar 0) (eC (.int 1103515245)))) (bin dMulA (frzE (bin dMulA (eC (.int 7919)) (eVar 1))) (eVar 1)))) (eVar 1))) (eC (.int 1)))) (eC (.int 2147483647))) (gN 2))
  (seqS (sAsg (bin dMod (un dToInt (bin dAddA (frzE (bin dMulA (eVar 2) (eVar 2))) (eC (.int 69621)))) (eC (.int 2147483629))) (gN 2))
  (sRet (bin dMod (un dToInt (bin dMulA (eVar 2) (eC (.int 48271)))) (eC (.int 2147483587))))))
theorem sc__law_hash : FnScope ["_law_seed", "_law_index", "_law_mixed"] ["_law_seed", "_law_index"] (defScope Hd.s2) := ⟨rfl, rfl, rfl, by decide +kernel, rfl, by decide +kernel, by decide +kernel⟩
def fn__law_hash : PF := runP 2 1 bd__law_hash
theorem ok__law_hash {P : Program} {w : World} {K : PySem.W.Frag} {mg : Str → Option Value} {base : Heap} {cls : Nat → Addr} {flds : Nat → List Str} (g : Gf P w K mg base cls flds) (sf : Option Addr) : Fn P w K mg base 1 "_law_hash" (spF ⟨P, w, K, cls, flds, sf, none⟩ (pureF fn__law_hash)) := g.d__law_hash.fn (fun f fd F => F.bindsN (ps := ["_law_seed", "_law_index"]) fun _ _ _ _ _ _ us hl => match us, hl with | [_, _], _ => rfl) fun f fd F => fn_p (W := ⟨P, w, K, cls, flds, sf, none⟩) F sc__law_hash rfl rfl fun cdv A outer s H vs E hr => by
  have o : Okx ⟨P, w, K, cls, flds, sf, none⟩ (cxOf CX0 P w K mg base ["_law_seed", "_law_index", "_law_mixed"] "_law_hash" (defScope Hd.s2) f cdv A outer s H E).nox := ⟨rfl, rfl, rfl, u65 hr, rfl, sc__law_hash.nd⟩
  have nd := sc__law_hash.nd
  exact (zsCons (vSet (s := false) 2 nd (vZ (fOp ob_mod op_mod (zCallT ub_int call_int1 (by rfl) g.f_int PyProof.Rows.boot_int (bV (fOpO ob_addA (r_addA o) (zV (fOpO ob_addA (r_addA o) (zV (fOpO ob_addA (r_addA o) (zV (fOpO ob_mulA (r_mulA o) (zVar 0) (bZ zInt))) (bV (fOpO ob_mulA (r_mulA o) (zV (fOpO ob_mulA (r_mulA o) zInt (bZ (zVar 1)))) (bZ (zVar 1)))))) (bZ (zVar 1)))) (bZ zInt)))) (bZ zInt))))
  (zsCons (vSet (s := false) 2 nd (vZ (fOp ob_mod op_mod (zCallT ub_int call_int1 (by rfl) g.f_int PyProof.Rows.boot_int (bV (fOpO ob_addA (r_addA o) (zV (fOpO ob_mulA (r_mulA o) (zVar 2) (bZ (zVar 2)))) (bZ zInt)))) (bZ zInt))))
  (zsOne (vRet (s := false) (vZ (fOp ob_mod op_mod (zCallT ub_int call_int1 (by rfl) g.f_int PyProof.Rows.boot_int (bV (fOpO ob_mulA (r_mulA o) (zVar 2) (bZ zInt)))) (bZ zInt)))))))
def bd__law_kinds : SM := (seqS (sAsg (frzE (eLst (aCons (un (dIsE [0, 1, 2, 3, 4, 5, 6, 7, 8, 9, 10, 11] 0) (eVar 0)) (aCons (un (dIsE [0, 1, 2, 3, 4, 5, 6, 7, 8, 9, 10, 11] 1) (eVar 0)) (aCons (un (dIsE [0, 1, 2, 3, 4, 5, 6, 7, 8, 9, 10, 11] 2) (eVar 0)) aNil))))) (gN 1))
  (seqS (sAsg (frzE (bin dAddA (eVar 1) (eLst (aCons (un (dIsE [0, 1, 2, 3, 4, 5, 6, 7, 8, 9, 10, 11] 3) (eVar 0)) (aCons (un (dIsE [0, 1, 2, 3, 4, 5, 6, 7, 8, 9, 10, 11] 4) (eVar 0)) aNil))))) (gN 1))
  (seqS (sAsg (frzE (bin dAddA (eVar 1) (eLst (aCons (un (dIsE [0, 1, 2, 3, 4, 5, 6, 7, 8, 9, 10, 11] 5) (eVar 0)) (aCons (un (dIsE [0, 1, 2, 3, 4, 5, 6, 7, 8, 9, 10, 11] 6) (eVar 0)) aNil))))) (gN 1))
  (seqS (sAsg (frzE (bin dAddA (eVar 1) (eLst (aCons (un (dIsE [0, 1, 2, 3, 4, 5, 6, 7, 8, 9, 10, 11] 7) (eVar 0)) (aCons (un (dIsE [0, 1, 2, 3, 4, 5, 6, 7, 8, 9, 10, 11] 8) (eVar 0)) aNil))))) (gN 1))
  (seqS (sAsg (frzE (bin dAddA (eVar 1) (eLst (aCons (un (dIsE [0, 1, 2, 3, 4, 5, 6, 7, 8, 9, 10, 11] 9) (eVar 0)) (aCons (un (dIsE [0, 1, 2, 3, 4, 5, 6, 7, 8, 9, 10, 11] 10) (eVar 0)) aNil))))) (gN 1))
  (seqS (sIf (tOrD (tNotD (eTest (un (dIsA [0, 1, 2, 3, 4, 5, 6, 7, 8, 9, 10, 11]) (eVar 0)))) (tNotD (eTest (un (dIsA [0, 1, 2, 3, 4, 5, 6, 7, 8, 9, 10, 11]) (eVar 0))))) (sRet (eLst aNil)) sNext)
  (sRet (eLc (itRange (eC (.int 12))) (gN 2) (eTest (bin dIxA (frzE (bin dAddA (eVar 1) (eLst (aCons (un (dIsE [0, 1, 2, 3, 4, 5, 6, 7, 8, 9, 10, 11] 11) (eVar 0)) aNil)))) (eVar 2))) (eVar 2) [2]))))))))
theorem sc__law_kinds : FnScope ["_law_error", "_law_classes", "_law_at"] ["_law_error"] (defScope Hd.s3) := ⟨rfl, rfl, rfl, by decide +kernel, rfl, by decide +kernel, by decide +kernel⟩
def fn__law_kinds : FV := runF 1 2 bd__law_kinds
theorem ok__law_kinds {P : Program} {w : World} {K : PySem.W.Frag} {mg : Str → Option Value} {base : Heap} {cls : Nat → Addr} {flds : Nat → List Str} (g : Gf P w K mg base cls flds) (sf : Option Addr) : Fn P w K mg base 1 "_law_kinds" (spF ⟨P, w, K, cls, flds, sf, none⟩ fn__law_kinds) := g.d__law_kinds.fn (fun f fd F => F.bindsN (ps := ["_law_error"]) fun _ _ _ _ _ _ us hl => match us, hl with | [_], _ => rfl) fun f fd F => fn_v (W := ⟨P, w, K, cls, flds, sf, none⟩) F sc__law_kinds rfl rfl fun cdv A outer s H vs E hr => by
  have o : Okx ⟨P, w, K, cls, flds, sf, none⟩ (cxOf CX0 P w K mg base ["_law_error", "_law_classes", "_law_at"] "_law_kinds" (defScope Hd.s3) f cdv A outer s H E).nox := ⟨rfl, rfl, rfl, u65 hr, rfl, sc__law_kinds.nd⟩
  have nd := sc__law_kinds.nd
  exact (zsCons (vSet (s := false) 1 nd (vZ (zV (oLst (zaCons (zIsE 0 o (by rfl) g.f_isinstance (by rfl) g.g_InvalidList (g.xi_InvalidList _) (bZ (zVar 0))) (zaCons (zIsE 1 o (by rfl) g.f_isinstance (by rfl) g.g_InvalidItem (g.xi_InvalidItem _) (bZ (zVar 0))) (zaCons (zIsE 2 o (by rfl) g.f_isinstance (by rfl) g.g_InvalidBook (g.xi_InvalidBook _) (bZ (zVar 0))) zaNil)))))))
  (zsCons (vSet (s := false) 1 nd (vZ (zV (fOpO ob_addA (r_addA o) (zVar 1) (bV (oLst (zaCons (zIsE 3 o (by rfl) g.f_isinstance (by rfl) g.g_InvalidLot (g.xi_InvalidLot _) (bZ (zVar 0))) (zaCons (zIsE 4 o (by rfl) g.f_isinstance (by rfl) g.g_InvalidRun (g.xi_InvalidRun _) (bZ (zVar 0))) zaNil))))))))
  (zsCons (vSet (s := false) 1 nd (vZ (zV (fOpO ob_addA (r_addA o) (zVar 1) (bV (oLst (zaCons (zIsE 5 o (by rfl) g.f_isinstance (by rfl) g.g_InvalidGoal (g.xi_InvalidGoal _) (bZ (zVar 0))) (zaCons (zIsE 6 o (by rfl) g.f_isinstance (by rfl) g.g_InvalidNumber (g.xi_InvalidNumber _) (bZ (zVar 0))) zaNil))))))))
  (zsCons (vSet (s := false) 1 nd (vZ (zV (fOpO ob_addA (r_addA o) (zVar 1) (bV (oLst (zaCons (zIsE 7 o (by rfl) g.f_isinstance (by rfl) g.g_InvalidText (g.xi_InvalidText _) (bZ (zVar 0))) (zaCons (zIsE 8 o (by rfl) g.f_isinstance (by rfl) g.g_InvalidName (g.xi_InvalidName _) (bZ (zVar 0))) zaNil))))))))
  (zsCons (vSet (s := false) 1 nd (vZ (zV (fOpO ob_addA (r_addA o) (zVar 1) (bV (oLst (zaCons (zIsE 9 o (by rfl) g.f_isinstance (by rfl) g.g_TakenName (g.xi_TakenName _) (bZ (zVar 0))) (zaCons (zIsE 10 o (by rfl) g.f_isinstance (by rfl) g.g_UnknownName (g.xi_UnknownName _) (bZ (zVar 0))) zaNil))))))))
  (zsCons (zIf (s := false) ((zOrT (zNotT (zTest (zIsAc o (by rfl) g.f_isinstance (by rfl) g.g_HushError (g.xa_HushError _) (bZ (zVar 0))))) (zOr1 (zNotT (zTest (zIsAb "ValueError" o (by rfl) g.f_isinstance (by rfl) g.f_ValueError (by rfl) (g.xv _) (bZ (zVar 0)))))))).pt (zsOne (vRet (s := false) (oLst zaNil))) zsNil)
  (zsOne (vRet (s := false) (oLc [("_law_at", 2)] o (ziRange (by rfl) g.f_range zInt) (blkOk_by (N := ["_law_error", "_law_classes", "_law_at"]) (sc := defScope Hd.s3) (by decide +kernel)) (fun _ _ _ _ _ => (zgN 2 nd)) (fun _ _ _ _ _ => (ztOne (zTest (fIx ob_ixA (r_ixA o.blk) (zV (fOpO ob_addA (r_addA o.blk) (zVar 1) (bV (oLst (zaCons (zIsE 11 o.blk (by rfl) g.f_isinstance (by rfl) g.g_NothingToUndo (g.xi_NothingToUndo _) (bZ (zVar 0))) zaNil))))) (bZ (zVar 2)))))) (fun _ _ _ _ _ => (vZ (zVar 2))))))))))))
def bd__law_named : SM := (seqS (sAsg (frzE (eLst (aCons (eExn 0 (eVar 0)) (aCons (eExn 1 (eVar 0)) (aCons (eExn 2 (eVar 0)) aNil))))) (gN 1))
  (seqS (sAsg (frzE (bin dAddA (eVar 1) (eLst (aCons (eExn 3 (eVar 0)) (aCons (eExn 4 (eVar 0)) (aCons (eExn 5 (eVar 0)) aNil)))))) (gN 1))
  (seqS (sAsg (frzE (bin dAddA (eVar 1) (eLst (aCons (eExn 6 (eVar 0)) (aCons (eExn 7 (eVar 0)) aNil))))) (gN 1))
  (sRet (bin dAddA (eVar 1) (eLst (aCons (eExn 8 (eVar 0)) (aCons (eExn 9 (eVar 0)) (aCons (eExn 10 (eVar 0)) aNil)))))))))
theorem sc__law_named : FnScope ["_law_given", "_law_found"] ["_law_given"] (defScope Hd.s4) := ⟨rfl, rfl, rfl, by decide +kernel, rfl, by decide +kernel, by decide +kernel⟩
def fn__law_named : FV := runF 1 1 bd__law_named
theorem ok__law_named {P : Program} {w : World} {K : PySem.W.Frag} {mg : Str → Option Value} {base : Heap} {cls : Nat → Addr} {flds : Nat → List Str} (g : Gf P w K mg base cls flds) (sf : Option Addr) : Fn P w K mg base 3 "_law_named" (spF ⟨P, w, K, cls, flds, sf, none⟩ fn__law_named) := g.d__law_named.fn (fun f fd F => F.bindsN (ps := ["_law_given"]) fun _ _ _ _ _ _ us hl => match us, hl with | [_], _ => rfl) fun f fd F => fn_v (W := ⟨P, w, K, cls, flds, sf, none⟩) F sc__law_named rfl rfl fun cdv A outer s H vs E hr => by
  have o : Okx ⟨P, w, K, cls, flds, sf, none⟩ (cxOf CX0 P w K mg base ["_law_given", "_law_found"] "_law_named" (defScope Hd.s4) f cdv A outer s H E).nox := ⟨rfl, rfl, rfl, u65 hr, rfl, sc__law_named.nd⟩
  have nd := sc__law_named.nd
  exact (zsCons (vSet (s := false) 1 nd (vZ (zV (oLst (zaCons (zExnK 0 o g.xk_InvalidList g.xl_InvalidList (hr.mono (by decide)) g.g_InvalidList (zVar 0)) (zaCons (zExnK 1 o g.xk_InvalidItem g.xl_InvalidItem (hr.mono (by decide)) g.g_InvalidItem (zVar 0)) (zaCons (zExnK 2 o g.xk_InvalidBook g.xl_InvalidBook (hr.mono (by decide)) g.g_InvalidBook (zVar 0)) zaNil)))))))
  (zsCons (vSet (s := false) 1 nd (vZ (zV (fOpO ob_addA (r_addA o) (zVar 1) (bV (oLst (zaCons (zExnK 3 o g.xk_InvalidLot g.xl_InvalidLot (hr.mono (by decide)) g.g_InvalidLot (zVar 0)) (zaCons (zExnK 4 o g.xk_InvalidRun g.xl_InvalidRun (hr.mono (by decide)) g.g_InvalidRun (zVar 0)) (zaCons (zExnK 5 o g.xk_InvalidGoal g.xl_InvalidGoal (hr.mono (by decide)) g.g_InvalidGoal (zVar 0)) zaNil)))))))))
  (zsCons (vSet (s := false) 1 nd (vZ (zV (fOpO ob_addA (r_addA o) (zVar 1) (bV (oLst (zaCons (zExnK 6 o g.xk_InvalidNumber g.xl_InvalidNumber (hr.mono (by decide)) g.g_InvalidNumber (zVar 0)) (zaCons (zExnK 7 o g.xk_InvalidText g.xl_InvalidText (hr.mono (by decide)) g.g_InvalidText (zVar 0)) zaNil))))))))
  (zsOne (vRet (s := false) (fOpO ob_addA (r_addA o) (zVar 1) (bV (oLst (zaCons (zExnK 8 o g.xk_InvalidName g.xl_InvalidName (hr.mono (by decide)) g.g_InvalidName (zVar 0)) (zaCons (zExnK 9 o g.xk_TakenName g.xl_TakenName (hr.mono (by decide)) g.g_TakenName (zVar 0)) (zaCons (zExnK 10 o g.xk_UnknownName g.xl_UnknownName (hr.mono (by decide)) g.g_UnknownName (zVar 0)) zaNil)))))))))))
def bd__law_placed : SM := (seqS (sAsg (frzE (eLst (aCons (eExn 0 (eVar 0)) (aCons (eExn 1 (eVar 0)) (aCons (eExn 2 (eVar 0)) (aCons (eExn 3 (eVar 0)) (aCons (eExn 4 (eVar 0)) aNil))))))) (gN 1))
  (seqS (sAsg (frzE (bin dAddA (eVar 1) (eLst (aCons (eExn 5 (eVar 0)) (aCons (eExn 6 (eVar 0)) (aCons (eExn 7 (eVar 0)) aNil)))))) (gN 1))
  (sRet (bin dAddA (eVar 1) (eLst (aCons (eExn 8 (eVar 0)) (aCons (eExn 9 (eVar 0)) (aCons (eExn 10 (eVar 0)) aNil))))))))
theorem sc__law_placed : FnScope ["_law_given", "_law_found"] ["_law_given"] (defScope Hd.s5) := ⟨rfl, rfl, rfl, by decide +kernel, rfl, by decide +kernel, by decide +kernel⟩
def fn__law_placed : FV := runF 1 1 bd__law_placed
theorem ok__law_placed {P : Program} {w : World} {K : PySem.W.Frag} {mg : Str → Option Value} {base : Heap} {cls : Nat → Addr} {flds : Nat → List Str} (g : Gf P w K mg base cls flds) (sf : Option Addr) : Fn P w K mg base 3 "_law_placed" (spF ⟨P, w, K, cls, flds, sf, none⟩ fn__law_placed) := g.d__law_placed.fn (fun f fd F => F.bindsN (ps := ["_law_given"]) fun _ _ _ _ _ _ us hl => match us, hl with | [_], _ => rfl) fun f fd F => fn_v (W := ⟨P, w, K, cls, flds, sf, none⟩) F sc__law_placed rfl rfl fun cdv A outer s H vs E hr => by
  have o : Okx ⟨P, w, K, cls, flds, sf, none⟩ (cxOf CX0 P w K mg base ["_law_given", "_law_found"] "_law_placed" (defScope Hd.s5) f cdv A outer s H E).nox := ⟨rfl, rfl, rfl, u65 hr, rfl, sc__law_placed.nd⟩
  have nd := sc__law_placed.nd
  exact (zsCons (vSet (s := false) 1 nd (vZ (zV (oLst (zaCons (zExn 0 o g.xk_InvalidList.m g.xl_InvalidList (hr.mono (by decide)) g.g_InvalidList (zVar 0)) (zaCons (zExn 1 o g.xk_InvalidItem.m g.xl_InvalidItem (hr.mono (by decide)) g.g_InvalidItem (zVar 0)) (zaCons (zExn 2 o g.xk_InvalidBook.m g.xl_InvalidBook (hr.mono (by decide)) g.g_InvalidBook (zVar 0)) (zaCons (zExn 3 o g.xk_InvalidLot.m g.xl_InvalidLot (hr.mono (by decide)) g.g_InvalidLot (zVar 0)) (zaCons (zExn 4 o g.xk_InvalidRun.m g.xl_InvalidRun (hr.mono (by decide)) g.g_InvalidRun (zVar 0)) zaNil)))))))))
  (zsCons (vSet (s := false) 1 nd (vZ (zV (fOpO ob_addA (r_addA o) (zVar 1) (bV (oLst (zaCons (zExn 5 o g.xk_InvalidGoal.m g.xl_InvalidGoal (hr.mono (by decide)) g.g_InvalidGoal (zVar 0)) (zaCons (zExn 6 o g.xk_InvalidNumber.m g.xl_InvalidNumber (hr.mono (by decide)) g.g_InvalidNumber (zVar 0)) (zaCons (zExn 7 o g.xk_InvalidText.m g.xl_InvalidText (hr.mono (by decide)) g.g_InvalidText (zVar 0)) zaNil)))))))))
  (zsOne (vRet (s := false) (fOpO ob_addA (r_addA o) (zVar 1) (bV (oLst (zaCons (zExn 8 o g.xk_InvalidName.m g.xl_InvalidName (hr.mono (by decide)) g.g_InvalidName (zVar 0)) (zaCons (zExn 9 o g.xk_TakenName.m g.xl_TakenName (hr.mono (by decide)) g.g_TakenName (zVar 0)) (zaCons (zExn 10 o g.xk_UnknownName.m g.xl_UnknownName (hr.mono (by decide)) g.g_UnknownName (zVar 0)) zaNil))))))))))
def bd__law_random : SM := (seqS (sIf (eTest (bin dGt (eIxL 0 0) (eC (.int 0)))) (seqS (sAsg (bin dMod (un dToInt (eIxL 0 0)) (eVar 1)) (gN 2))
  (seqS (sSetA 0 (eC (.int 0)) (bin dFdvW (eIxL 0 0) (eVar 1)))
  (sRet (eVar 2)))) sNext)
  (seqS (sAsg (eC (.int 0)) (gN 2))
  (seqS (sFor (itRange (frzE (bin dAddA (eC (.int 1)) (bin dFdv (un dBitLen (eVar 1)) (eC (.int 30)))))) (gN 3) (seqS (sSetA 0 (eC (.int 2)) (frzE (bin dAddA (eIxL 0 2) (eC (.int 1)))))
  (sAsg (frzE (bin dAddA (frzE (bin dMulA (eVar 2) (eC (.int 2147483587)))) (eCall (pureF fn__law_hash) (aCons (eIxL 0 1) (aCons (eIxL 0 2) aNil))))) (gN 2))))
  (sRet (bin dMod (un dToInt (eVar 2)) (eVar 1))))))
theorem sc__law_random : FnScope ["_law_generator_here", "_law_bound", "_law_drawn", "_law_turn"] ["_law_generator_here", "_law_bound"] (defScope Hd.s6) := ⟨rfl, rfl, rfl, by decide +kernel, rfl, by decide +kernel, by decide +kernel⟩
def fn__law_random : FV := runF 2 2 bd__law_random
theorem ok__law_random {P : Program} {w : World} {K : PySem.W.Frag} {mg : Str → Option Value} {base : Heap} {cls : Nat → Addr} {flds : Nat → List Str} (g : Gf P w K mg base cls flds) (sf : Option Addr) : Fn P w K mg base 2 "_law_random" (spF ⟨P, w, K, cls, flds, sf, none⟩ fn__law_random) := g.d__law_random.fn (fun f fd F => F.bindsN (ps := ["_law_generator_here", "_law_bound"]) fun _ _ _ _ _ _ us hl => match us, hl with | [_, _], _ => rfl) fun f fd F => fn_v (W := ⟨P, w, K, cls, flds, sf, none⟩) F sc__law_random rfl rfl fun cdv A outer s H vs E hr => by
  have o : Okx ⟨P, w, K, cls, flds, sf, none⟩ (cxOf CX0 P w K mg base ["_law_generator_here", "_law_bound", "_law_drawn", "_law_turn"] "_law_random" (defScope Hd.s6) f cdv A outer s H E).nox := ⟨rfl, rfl, rfl, u65 hr, rfl, sc__law_random.nd⟩
  have nd := sc__law_random.nd
  exact (zsCons (zIf (s := false) (fCmpT ob_gt op_gt (zIxL o 0 0) (bZ zInt)) (zsCons (vSet (s := false) 2 nd (vZ (fOp ob_mod op_mod (zCallT ub_int call_int1 (by rfl) g.f_int PyProof.Rows.boot_int (bZ (zIxL o 0 0))) (bZ (zVar 1)))))
  (zsCons (zSetA 0 o (hx := (fOp ob_fdvW op_fdivW (zIxL o 0 0) (bZ (zVar 1)))) (hi := zInt))
  (zsOne (vRet (s := false) (vZ (zVar 2)))))) zsNil)
  (zsCons (vSet (s := false) 2 nd (vZ zInt))
  (zsCons (zFor [3] PassesOwn.never o (ziRange (by rfl) g.f_range (zV (fOpO ob_addA (r_addA o) zInt (bZ (fOp ob_fdv op_fdiv (zBitLen o (zVar 1)) (bZ zInt)))))) (zgN 3 nd) (zsCons (zSetA 0 o (hx := (zV (fOpO ob_addA (r_addA o) (zIxL o 0 2) (bZ zInt)))) (hi := zInt))
  (zsOne (vSet (s := false) 2 nd (vZ (zV (fOpO ob_addA (r_addA o) (zV (fOpO ob_mulA (r_mulA o) (zVar 2) (bZ zInt))) (bV (vCall (ok__law_hash g sf) (hr.mono (by decide)) (zaCons (zIxL o 0 1) (zaCons (zIxL o 0 2) zaNil)))))))))))
  (zsOne (vRet (s := false) (vZ (fOp ob_mod op_mod (zCallT ub_int call_int1 (by rfl) g.f_int PyProof.Rows.boot_int (bZ (zVar 2))) (bZ (zVar 1)))))))))
def bd__law_right : SM := (seqS (sIf (eTest (bin dNeA (frzE (eLc (itSeq (eVar 0)) (gN 3) tYesD (frzA (eCall fn__law_kinds (aCons (eVar 3) aNil))) [3])) (eLc (itRange (eC (.int 11))) (gN 4) tYesD (frzE (eLst (aCons (eVar 4) aNil))) [4]))) (sRet (eC (.bl false))) sNext)
  (seqS (sAsg (frzE (bin dAddA (frzE (eLc (itSeq (frzE (eSl dSlA (eVar 0) pN (pS (eC (.int 8)))))) (gN 3) tYesD (eExnF [0, 1, 2, 3, 4, 5, 6, 7] (eVar 3)) [3])) (eLc (itSeq (frzE (eSl dSlA (eVar 0) (pS (eC (.int 8))) pN))) (gN 3) tYesD (eExnF [8, 9, 10] (eVar 3)) [3]))) (gN 2))
  (sRet (bin dEqA (eReprM (eVar 2)) (eReprM (bin dMulA (frzE (eLst (aCons (eVar 1) aNil))) (eC (.int 11))))))))
theorem sc__law_right : FnScope ["_law_errors", "_law_given", "_law_fields", "_law_error", "_law_at"] ["_law_errors", "_law_given"] (defScope Hd.s7) := ⟨rfl, rfl, rfl, by decide +kernel, rfl, by decide +kernel, by decide +kernel⟩
def fn__law_right : FV := runF 2 3 bd__law_right
theorem ok__law_right {P : Program} {w : World} {K : PySem.W.Frag} {mg : Str → Option Value} {base : Heap} {cls : Nat → Addr} {flds : Nat → List Str} (g : Gf P w K mg base cls flds) (sf : Option Addr) : FnC P w K mg base 2 "_law_right" (spF ⟨P, w, K, cls, flds, sf, none⟩ fn__law_right) := g.d__law_right.fnC (fun f fd F => F.bindsN (ps := ["_law_errors", "_law_given"]) fun _ _ _ _ _ _ us hl => match us, hl with | [_, _], _ => rfl) fun f fd F => fn_vC (W := ⟨P, w, K, cls, flds, sf, none⟩) F sc__law_right rfl rfl fun cdv A outer s H vs E hr hq => by
  have o : Okx ⟨P, w, K, cls, flds, sf, none⟩ (cxOf CX0 P w K mg base ["_law_errors", "_law_given", "_law_fields", "_law_error", "_law_at"] "_law_right" (defScope Hd.s7) f cdv A outer s H E).nox := ⟨rfl, rfl, rfl, u65 hr, rfl, sc__law_right.nd⟩
  have nd := sc__law_right.nd
  exact (zsCons (zIf (s := false) (fCmpT ob_neA (r_neA o) (zV (oLc [("_law_error", 3)] o (ziSeq o (zVar 0)) (blkOk_by (N := ["_law_errors", "_law_given", "_law_fields", "_law_error", "_law_at"]) (sc := defScope Hd.s7) (by decide +kernel)) (fun _ _ _ _ _ => (zgN 3 nd)) (fun _ _ _ _ _ => ztNil) (fun _ _ _ _ _ => (vZ (zVA (vCall (ok__law_kinds g sf) (hr.mono (by decide)) (zaCons (zVar 3) zaNil))))))) (bV (oLc [("_law_at", 4)] o (ziRange (by rfl) g.f_range zInt) (blkOk_by (N := ["_law_errors", "_law_given", "_law_fields", "_law_error", "_law_at"]) (sc := defScope Hd.s7) (by decide +kernel)) (fun _ _ _ _ _ => (zgN 4 nd)) (fun _ _ _ _ _ => ztNil) (fun _ _ _ _ _ => (vZ (zV (oLst (zaCons (zVar 4) zaNil)))))))) (zsOne (vRet (s := false) (vZ zBl))) zsNil)
  (zsCons (vSet (s := false) 2 nd (vZ (zV (fOpO ob_addA (r_addA o) (zV (oLc [("_law_error", 3)] o (ziSeq o (zV (vSlA o (zVar 0) zpN (zpS zInt)))) (blkOk_by (N := ["_law_errors", "_law_given", "_law_fields", "_law_error", "_law_at"]) (sc := defScope Hd.s7) (by decide +kernel)) (fun _ _ _ _ _ => (zgN 3 nd)) (fun _ _ _ _ _ => ztNil) (fun _ _ _ _ _ => (vZ (zExnF o.blk (g.xf_value _) (zVar 3)))))) (bV (oLc [("_law_error", 3)] o (ziSeq o (zV (vSlA o (zVar 0) (zpS zInt) zpN))) (blkOk_by (N := ["_law_errors", "_law_given", "_law_fields", "_law_error", "_law_at"]) (sc := defScope Hd.s7) (by decide +kernel)) (fun _ _ _ _ _ => (zgN 3 nd)) (fun _ _ _ _ _ => ztNil) (fun _ _ _ _ _ => (vZ (zExnF o.blk (g.xf_name _) (zVar 3))))))))))
  (zsOne (vRet (s := false) (vZ (fCmp ob_eqA (r_eqA o) (zReprM o g.sys hq (by rfl) g.f_repr (bZ (zVar 2))) (bZ (zReprM o g.sys hq (by rfl) g.f_repr (bV (fOpO ob_mulA (r_mulA o) (zV (oLst (zaCons (zVar 1) zaNil))) (bZ zInt)))))))))))
def bd__law_unset : SM := (seqS (sAsg (frzE (eLst (aCons (eExn 0 (eC .non)) (aCons (eExn 1 (eC .non)) (aCons (eExn 2 (eC .non)) (aCons (eExn 3 (eC .non)) (aCons (eExn 4 (eC .non)) (aCons (eExn 5 (eC .non)) aNil)))))))) (gN 0))
  (sRet (bin dAddA (eVar 0) (eLst (aCons (eExn 6 (eC .non)) (aCons (eExn 7 (eC .non)) (aCons (eExn 8 (eC .non)) (aCons (eExn 9 (eC .non)) (aCons (eExn 10 (eC .non)) aNil)))))))))
theorem sc__law_unset : FnScope ["_law_found"] [] (defScope Hd.s8) := ⟨rfl, rfl, rfl, by decide +kernel, rfl, by decide +kernel, by decide +kernel⟩
def fn__law_unset : FV := runF 0 1 bd__law_unset
theorem ok__law_unset {P : Program} {w : World} {K : PySem.W.Frag} {mg : Str → Option Value} {base : Heap} {cls : Nat → Addr} {flds : Nat → List Str} (g : Gf P w K mg base cls flds) (sf : Option Addr) : Fn P w K mg base 3 "_law_unset" (spF ⟨P, w, K, cls, flds, sf, none⟩ fn__law_unset) := g.d__law_unset.fn (fun f fd F => F.bindsN (ps := []) fun _ _ _ _ _ _ us hl => match us, hl with | [], _ => rfl) fun f fd F => fn_v (W := ⟨P, w, K, cls, flds, sf, none⟩) F sc__law_unset rfl rfl fun cdv A outer s H vs E hr => by
  have o : Okx ⟨P, w, K, cls, flds, sf, none⟩ (cxOf CX0 P w K mg base ["_law_found"] "_law_unset" (defScope Hd.s8) f cdv A outer s H E).nox := ⟨rfl, rfl, rfl, u65 hr, rfl, sc__law_unset.nd⟩
  have nd := sc__law_unset.nd
  exact (zsCons (vSet (s := false) 0 nd (vZ (zV (oLst (zaCons (zExn0 0 o g.xk_InvalidList g.xl_InvalidList (hr.mono (by decide)) g.g_InvalidList) (zaCons (zExn0 1 o g.xk_InvalidItem g.xl_InvalidItem (hr.mono (by decide)) g.g_InvalidItem) (zaCons (zExn0 2 o g.xk_InvalidBook g.xl_InvalidBook (hr.mono (by decide)) g.g_InvalidBook) (zaCons (zExn0 3 o g.xk_InvalidLot g.xl_InvalidLot (hr.mono (by decide)) g.g_InvalidLot) (zaCons (zExn0 4 o g.xk_InvalidRun g.xl_InvalidRun (hr.mono (by decide)) g.g_InvalidRun) (zaCons (zExn0 5 o g.xk_InvalidGoal g.xl_InvalidGoal (hr.mono (by decide)) g.g_InvalidGoal) zaNil))))))))))
  (zsOne (vRet (s := false) (fOpO ob_addA (r_addA o) (zVar 0) (bV (oLst (zaCons (zExn0 6 o g.xk_InvalidNumber g.xl_InvalidNumber (hr.mono (by decide)) g.g_InvalidNumber) (zaCons (zExn0 7 o g.xk_InvalidText g.xl_InvalidText (hr.mono (by decide)) g.g_InvalidText) (zaCons (zExn0 8 o g.xk_InvalidName g.xl_InvalidName (hr.mono (by decide)) g.g_InvalidName) (zaCons (zExn0 9 o g.xk_TakenName g.xl_TakenName (hr.mono (by decide)) g.g_TakenName) (zaCons (zExn0 10 o g.xk_UnknownName g.xl_UnknownName (hr.mono (by decide)) g.g_UnknownName) zaNil)))))))))))
def bd_law : SM := (seqS (sAsg (frzA (eCall fn__law_random (aCons (eCell (eCall (pureF fn__law_generator) (aCons (eVar 0) (aCons (eC (.int 0)) aNil)))) (aCons (bin dPow (eC (.int 10)) (eC (.int 12))) aNil)))) (gN 1))
  (seqS (sAsg (frzE (eLst (aCons (frzA (eCall fn__law_placed (aCons (eVar 1) aNil))) (aCons (frzA (eCall fn__law_named (aCons (eC (.str "elder")) aNil))) aNil)))) (gN 2))
  (seqS (sFor (itSeq (frzE (eLst (aCons (eVar 1) (aCons (bin dSub (eC (.int 0)) (eVar 1)) (aCons (eTup (aCons (eC (.int 1)) (aCons (eC (.int 2)) aNil))) (aCons (eTup aNil) (aCons (eCell (eLst (aCons (eC (.int 1)) aNil))) (aCons (eCell (eLst aNil)) (aCons (eCell eDic) (aCons (eCell (eDic1 (eC (.str "a")) (frzE (eLst (aCons (eVar 1) aNil))))) (aCons (eC (.str "a b")) (aCons (eC (.str "")) (aCons (eC (.bl true)) (aCons (eC .non) (aCons (eTup (aCons (eC (.str "idle")) (aCons (frzE (eLst (aCons (eC (.int 1)) aNil))) aNil))) aNil)))))))))))))))) (gN 3) (seqS (sMix ((4, (frzA (eCall fn__law_placed (aCons (eVar 3) aNil)))) :: ((5, (frzA (eCall fn__law_named (aCons (eVar 3) aNil)))) :: [])))
  (seqS (sIf (tOrD (tNotD (eTest (frzA (eCall fn__law_right (aCons (eVar 4) (aCons (eVar 3) aNil)))))) (tNotD (eTest (frzA (eCall fn__law_right (aCons (eVar 5) (aCons (eVar 3) aNil))))))) (sRet (eC (.bl false))) sNext)
  (seqS (sIf (eTest (eIsiC "list" (eVar 3))) (sAppC (eVar 3) (eC (.str "more"))) sNext)
  (seqS (sIf (eTest (eIsiC "dict" (eVar 3))) (sSetKC (eVar 3) (eC (.str "more")) (frzE (eLst (aCons (eC (.int 1)) aNil)))) sNext)
  (sIf (tOrD (tNotD (eTest (frzA (eCall fn__law_right (aCons (eVar 4) (aCons (eVar 3) aNil)))))) (tNotD (eTest (frzA (eCall fn__law_right (aCons (eVar 5) (aCons (eVar 3) aNil))))))) (sRet (eC (.bl false))) sNext))))))
  (seqS (sIf (tOrD (tNotD (eTest (frzA (eCall fn__law_right (aCons (bin dIxA (eVar 2) (eC (.int 0))) (aCons (eVar 1) aNil)))))) (tOrD (tNotD (eTest (frzA (eCall fn__law_right (aCons (bin dIxA (eVar 2) (eC (.int 1))) (aCons (eC (.str "elder")) aNil)))))) (tNotD (eTest (frzA (eCall fn__law_right (aCons (frzA (eCall fn__law_unset aNil)) (aCons (eC .non) aNil)))))))) (sRet (eC (.bl false))) sNext)
  (sRet (eAnd (bin dEqA (frzA (eCall fn__law_kinds (aCons (eExnZ 11) aNil))) (eLst (aCons (eC (.int 11)) aNil))) (un (dIsA [12]) (eExnZ 12))))))))
theorem sc_law : FnScope ["_law_script", "_law_mark", "_law_elder", "_law_given", "_law_first", "_law_second"] ["_law_script"] (defScope Hd.s9) := ⟨rfl, rfl, rfl, by decide +kernel, rfl, by decide +kernel, by decide +kernel⟩
def fn_law : FV := runF 1 5 bd_law
theorem okF_law {P : Program} {w : World} {K : PySem.W.Frag} {mg : Str → Option Value} {base : Heap} {cls : Nat → Addr} {flds : Nat → List Str} (g : Gf P w K mg base cls flds) (sf : Option Addr) {f : Addr} {fd : FuncData} (F : FunD K "law" "law" (defArgs Hd.s9) (defBody Hd.s9) (defScope Hd.s9) [] [] f fd) : VmX.FnG P w K mg base CX0 4 f fd ["_law_script"] (spF ⟨P, w, K, cls, flds, sf, none⟩ fn_law) := fn_vC (W := ⟨P, w, K, cls, flds, sf, none⟩) F sc_law rfl rfl fun cdv A outer s H vs E hr hq => by
  have o : Okx ⟨P, w, K, cls, flds, sf, none⟩ (cxOf CX0 P w K mg base ["_law_script", "_law_mark", "_law_elder", "_law_given", "_law_first", "_law_second"] "law" (defScope Hd.s9) f cdv A outer s H E).nox := ⟨rfl, rfl, rfl, u65 hr, rfl, sc_law.nd⟩
  have nd := sc_law.nd
  exact (zsCons (vSet (s := false) 1 nd (vZ (zVA (vCall (ok__law_random g sf) (hr.mono (by decide)) (zaCons (zCell (vCall (ok__law_generator g sf) (hr.mono (by decide)) (zaCons (zVar 0) (zaCons zInt zaNil)))) (zaCons (fOp ob_pow op_powW zInt (bZ zInt)) zaNil))))))
  (zsCons (vSet (s := false) 2 nd (vZ (zV (oLst (zaCons (zVA (vCall (ok__law_placed g sf) (hr.mono (by decide)) (zaCons (zVar 1) zaNil))) (zaCons (zVA (vCall (ok__law_named g sf) (hr.mono (by decide)) (zaCons zStr zaNil))) zaNil))))))
  (zsCons (zFor [3] PassesOwn.never o (ziSeq o (zV (oLst (zaCons (zVar 1) (zaCons (fOp ob_sub op_sub zInt (bZ (zVar 1))) (zaCons (zTup (zaCons zInt (zaCons zInt zaNil))) (zaCons (zTup zaNil) (zaCons (zCell (oLst (zaCons zInt zaNil))) (zaCons (zCell (oLst zaNil)) (zaCons (zCell vDic) (zaCons (zCell (vDic1 zStr (zV (oLst (zaCons (zVar 1) zaNil))))) (zaCons zStr (zaCons zStr (zaCons zBl (zaCons zNon (zaCons (zTup (zaCons zStr (zaCons (zV (oLst (zaCons zInt zaNil))) zaNil))) zaNil)))))))))))))))) (zgN 3 nd) (zsCons (zPar2 o (zmV 4 nd (vZ (zVA (vCall (ok__law_placed g sf) (hr.mono (by decide)) (zaCons (zVar 3) zaNil)))) (zmV 5 nd (vZ (zVA (vCall (ok__law_named g sf) (hr.mono (by decide)) (zaCons (zVar 3) zaNil)))) zmNil)))
  (zsCons (zIf (s := false) ((zOrT (zNotT (zTest (zVA (vCallC (ok__law_right g sf) (hr.mono (by decide)) hq (zaCons (zVar 4) (zaCons (zVar 3) zaNil)))))) (zOr1 (zNotT (zTest (zVA (vCallC (ok__law_right g sf) (hr.mono (by decide)) hq (zaCons (zVar 5) (zaCons (zVar 3) zaNil))))))))).pt (zsOne (vRet (s := false) (vZ zBl))) zsNil)
  (zsCons (zIf (s := false) (zTest (zIsiC "list" o (by rfl) g.f_isinstance (by rfl) g.f_list (by rfl) (by decide +kernel) (zVar 3))) (zsOne (zAppC zStr (zVar 3))) zsNil)
  (zsCons (zIf (s := false) (zTest (zIsiC "dict" o (by rfl) g.f_isinstance (by rfl) g.f_dict (by rfl) (by decide +kernel) (zVar 3))) (zsOne (zSetKC o (zV (oLst (zaCons zInt zaNil))) (zVar 3) zStr)) zsNil)
  (zsOne (zIf (s := false) ((zOrT (zNotT (zTest (zVA (vCallC (ok__law_right g sf) (hr.mono (by decide)) hq (zaCons (zVar 4) (zaCons (zVar 3) zaNil)))))) (zOr1 (zNotT (zTest (zVA (vCallC (ok__law_right g sf) (hr.mono (by decide)) hq (zaCons (zVar 5) (zaCons (zVar 3) zaNil))))))))).pt (zsOne (vRet (s := false) (vZ zBl))) zsNil)))))))
  (zsCons (zIf (s := false) ((zOrT (zNotT (zTest (zVA (vCallC (ok__law_right g sf) (hr.mono (by decide)) hq (zaCons (fIx ob_ixA (r_ixA o) (zVar 2) (bZ zInt)) (zaCons (zVar 1) zaNil)))))) (zOrT (zNotT (zTest (zVA (vCallC (ok__law_right g sf) (hr.mono (by decide)) hq (zaCons (fIx ob_ixA (r_ixA o) (zVar 2) (bZ zInt)) (zaCons zStr zaNil)))))) (zOr1 (zNotT (zTest (zVA (vCallC (ok__law_right g sf) (hr.mono (by decide)) hq (zaCons (zVA (vCall0 (ok__law_unset g sf) (hr.mono (by decide)))) (zaCons zNon zaNil)))))))))).pt (zsOne (vRet (s := false) (vZ zBl))) zsNil)
  (zsOne (vRet (s := false) (vZ (zAndV (fCmp ob_eqA (r_eqA o) (zVA (vCall (ok__law_kinds g sf) (hr.mono (by decide)) (zaCons (zExnZ 11 o g.x0_NothingToUndo.x g.xz_NothingToUndo g.g_NothingToUndo) zaNil))) (bV (oLst (zaCons zInt zaNil)))) (zAnd1V (zIsAb "ValueError" o (by rfl) g.f_isinstance (by rfl) g.f_ValueError (by rfl) (g.xvh _) (bZ (zExnZ 12 o g.x0_HushError.x g.xz_HushError g.g_HushError))))))))))))
end Vm

namespace Hm
structure Dd where
  bh : Bool
  pl : Nat
  ot : Nat
  fail : Bool
  hh : Nat → Option Nat
  hs : Nat → Option Nat
def Dd.mv (d : Dd) (i p : Nat) : Prop := d.hs i = some p ∨ (i = p ∧ (d.fail = true ∨ d.hs i = none))
def Dd.hm (d : Dd) (i p : Nat) : Prop := d.hh i = some p ∨ (i = p ∧ (d.fail = true ∨ d.hh i = none))
def gt (c : List Nat) (i : Nat) : Nat := c.getD i 0
@[simp] theorem gt_nil (i : Nat) : gt [] i = 0 := by simp [gt]
@[simp] theorem gt_zero (x : Nat) (r : List Nat) : gt (x :: r) 0 = x := by simp [gt]
@[simp] theorem gt_succ (x : Nat) (r : List Nat) (i : Nat) : gt (x :: r) (i + 1) = gt r i := by simp [gt]
def inc : List Nat → Nat → List Nat
  | [], _ => []
  | x :: r, 0 => (x + 1) :: r
  | x :: r, i + 1 => x :: inc r i
def dec : List Nat → Nat → List Nat
  | [], _ => []
  | x :: r, 0 => (x - 1) :: r
  | x :: r, i + 1 => x :: dec r i
theorem inc_len : ∀ (c : List Nat) i, (inc c i).length = c.length
  | [], _ => rfl
  | _ :: _, 0 => rfl
  | _ :: r, i + 1 => by simp [inc, inc_len r i]
theorem dec_len : ∀ (c : List Nat) i, (dec c i).length = c.length
  | [], _ => rfl
  | _ :: _, 0 => rfl
  | _ :: r, i + 1 => by simp [dec, dec_len r i]
theorem inc_gt : ∀ (c : List Nat) (i j : Nat), i < c.length → gt (inc c i) j = gt c j + (if j = i then 1 else 0)
  | [], _, _, h => by simp at h
  | x :: r, 0, 0, _ => by simp [inc]
  | x :: r, 0, j + 1, _ => by simp [inc]
  | x :: r, i + 1, 0, _ => by simp [inc]
  | x :: r, i + 1, j + 1, h => by
    have := inc_gt r i j (by simpa using h)
    simpa [inc] using this
theorem dec_gt : ∀ (c : List Nat) (i j : Nat), i < c.length → gt (dec c i) j = gt c j - (if j = i then 1 else 0)
  | [], _, _, h => by simp at h
  | x :: r, 0, 0, _ => by simp [dec]
  | x :: r, 0, j + 1, _ => by simp [dec]
  | x :: r, i + 1, 0, _ => by simp [dec]
  | x :: r, i + 1, j + 1, h => by
    have := dec_gt r i j (by simpa using h)
    simpa [dec] using this
theorem inc_sum : ∀ (c : List Nat) (i : Nat), i < c.length → (inc c i).sum = c.sum + 1
  | [], _, h => by simp at h
  | x :: r, 0, _ => by simp [inc]; omega
  | x :: r, i + 1, h => by
    have := inc_sum r i (by simpa using h)
    simp [inc, this]; omega
theorem ext {a b : List Nat} (h : a.length = b.length) (k : ∀ i, gt a i = gt b i) : a = b := by
  apply List.ext_getElem h
  intro i h1 h2
  have := k i
  simp [gt, List.getD, List.getElem?_eq_getElem h1, List.getElem?_eq_getElem h2] at this
  exact this
theorem gt_out {c : List Nat} {i : Nat} (h : c.length ≤ i) : gt c i = 0 := by simp [gt, List.getD, List.getElem?_eq_none h]
def Le (a b : List Nat) : Prop := ∀ i, gt a i ≤ gt b i
theorem Le.refl (a) : Le a a := fun _ => Nat.le_refl _
theorem Le.trans {a b c} (h : Le a b) (k : Le b c) : Le a c := fun i => Nat.le_trans (h i) (k i)
theorem Le.anti {a b : List Nat} (hl : a.length = b.length) (h : Le a b) (k : Le b a) : a = b := ext hl fun i => Nat.le_antisymm (h i) (k i)
theorem Le.tail {x y a b} (h : Le (x :: a) (y :: b)) : Le a b := fun i => by simpa using h (i + 1)
theorem Le.head {x y a b} (h : Le (x :: a) (y :: b)) : x ≤ y := by simpa using h 0
theorem Le.sum : ∀ {a b : List Nat}, a.length = b.length → Le a b → a.sum ≤ b.sum
  | [], [], _, _ => Nat.le_refl _
  | [], _ :: _, h, _ => by simp at h
  | _ :: _, [], h, _ => by simp at h
  | x :: a, y :: b, h, k => by
    have := Le.sum (by simpa using h) k.tail
    have := k.head
    simp; omega
theorem Le.eq_of_sum : ∀ {a b : List Nat}, a.length = b.length → Le a b → b.sum ≤ a.sum → a = b
  | [], [], _, _, _ => rfl
  | [], _ :: _, h, _, _ => by simp at h
  | _ :: _, [], h, _, _ => by simp at h
  | x :: a, y :: b, h, k, s => by
    have h1 := Le.sum (by simpa using h) k.tail
    have h2 := k.head
    simp at s
    have h3 := Le.eq_of_sum (by simpa using h) k.tail (by omega)
    subst h3
    have : x = y := by omega
    rw [this]
theorem Le.lt_ex {a b : List Nat} (hl : a.length = b.length) (h : Le a b) (n : a ≠ b) : ∃ i, i < b.length ∧ gt a i < gt b i := by
  refine Classical.byContradiction fun k => n (ext hl fun i => ?_)
  by_cases hi : i < b.length
  · have h1 := h i
    have h2 : ¬ gt a i < gt b i := fun z => k ⟨i, hi, z⟩
    omega
  · rw [gt_out (c := a) (by omega), gt_out (c := b) (by omega)]
theorem inc_dec {c : List Nat} {i : Nat} (h : 0 < gt c i) : inc (dec c i) i = c := by
  have hi : i < c.length := Nat.lt_of_not_le fun z => by rw [gt_out z] at h; omega
  refine ext (by rw [inc_len, dec_len]) fun j => ?_
  rw [inc_gt _ _ _ (by rw [dec_len]; exact hi), dec_gt _ _ _ hi]
  by_cases q : j = i
  · subst q; simp; omega
  · simp [q]
theorem inc_inj {a b : List Nat} {i : Nat} (hl : a.length = b.length) (hi : i < a.length) (h : inc a i = inc b i) : a = b := ext hl fun j => by
  have := congrArg (fun c => gt c j) h
  simp only [inc_gt a i j hi, inc_gt b i j (hl ▸ hi)] at this
  omega
theorem inc_comm {a : List Nat} {i j : Nat} (hi : i < a.length) (hj : j < a.length) : inc (inc a i) j = inc (inc a j) i := ext (by simp [inc_len]) fun k => by
  rw [inc_gt _ _ _ (by rw [inc_len]; exact hj), inc_gt _ _ _ hi, inc_gt _ _ _ (by rw [inc_len]; exact hi), inc_gt _ _ _ hj]
  omega
theorem Le.inc {a b : List Nat} {i : Nat} (ha : i < a.length) (hb : i < b.length) (h : Le a b) : Le (inc a i) (inc b i) := fun j => by
  rw [inc_gt _ _ _ ha, inc_gt _ _ _ hb]
  have := h j
  omega
theorem Le.up (a : List Nat) {i : Nat} (hi : i < a.length) : Le a (Hm.inc a i) := fun j => by
  rw [inc_gt _ _ _ hi]
  omega
abbrev zero (w : Nat) : List Nat := List.replicate w 0
theorem zero_gt (w i : Nat) : gt (zero w) i = 0 := by
  simp [gt, zero, List.getD, List.getElem?_replicate]
  split <;> rfl
theorem zero_sum (w : Nat) : (zero w).sum = 0 := by simp [zero]
theorem of_sum_zero {w : Nat} {c : List Nat} (hl : c.length = w) (h : c.sum = 0) : c = zero w :=
  (Le.eq_of_sum (by simp [hl]) (fun i => by rw [zero_gt]; omega) (by simp [h, zero_sum])).symm
theorem pos_ex : ∀ {c : List Nat}, 0 < c.sum → ∃ i, i < c.length ∧ 0 < gt c i
  | [], h => by simp at h
  | x :: r, h => by
    by_cases hx : 0 < x
    · exact ⟨0, by simp, by simpa using hx⟩
    · obtain ⟨i, h1, h2⟩ := pos_ex (c := r) (by simp at h; omega)
      exact ⟨i + 1, by simpa using h1, by simpa using h2⟩
inductive Mv (d : Dd) (w : Nat) : List Nat → List Nat → Prop
  | zero : Mv d w (zero w) (zero w)
  | add {c c' : List Nat} {i p : Nat} : Mv d w c c' → i < w → p < w → d.mv i p → Mv d w (inc c i) (inc c' p)
section
variable {d : Dd} {w : Nat}
theorem Mv.len {c c'} (h : Mv d w c c') : c.length = w ∧ c'.length = w := by
  induction h with
  | zero => simp
  | add _ _ _ _ ih => simp [inc_len, ih]
theorem Mv.sum {c c'} (h : Mv d w c c') : c.sum = c'.sum := by
  induction h with
  | zero => rfl
  | add h hi hp _ ih => rw [inc_sum _ _ (by rw [h.len.1]; exact hi), inc_sum _ _ (by rw [h.len.2]; exact hp), ih]
theorem Mv.inv {c x : List Nat} {p : Nat} (h : Mv d w c (inc x p)) (hx : x.length = w) (hp : p < w) : ∃ i c0, i < w ∧ c = inc c0 i ∧ d.mv i p ∧ Mv d w c0 x := by
  generalize hy : inc x p = y at h
  induction h generalizing x with
  | zero =>
    have := congrArg List.sum hy
    rw [inc_sum _ _ (hx ▸ hp), zero_sum] at this
    omega
  | @add c c' i q h hi hq hm ih =>
    by_cases e : p = q
    · subst e
      have : x = c' := inc_inj (by rw [hx, h.len.2]) (hx ▸ hp) hy
      subst this
      exact ⟨i, c, hi, rfl, hm, h⟩
    · have l2 := h.len.2
      have l1 := h.len.1
      have g1 : 0 < gt c' p := by
        have := congrArg (fun c => gt c p) hy
        simp only [inc_gt x p p (hx ▸ hp), inc_gt c' q p (l2 ▸ hq)] at this
        simp [e] at this
        omega
      have g2 : 0 < gt x q := by
        have := congrArg (fun c => gt c q) hy
        simp only [inc_gt x p q (hx ▸ hp), inc_gt c' q q (l2 ▸ hq)] at this
        have e' : ¬ q = p := fun z => e z.symm
        simp [e'] at this
        omega
      have e1 : inc (dec c' p) p = c' := inc_dec g1
      have e2 : inc (dec x q) q = x := inc_dec g2
      have e3 : dec x q = dec c' p := by
        apply inc_inj (i := p) (by rw [dec_len, dec_len, hx, l2]) (by rw [dec_len, hx]; exact hp)
        apply inc_inj (i := q) (by simp [inc_len, dec_len, hx, l2]) (by rw [inc_len, dec_len, hx]; exact hq)
        rw [inc_comm (by rw [dec_len, hx]; exact hp) (by rw [dec_len, hx]; exact hq), e2, hy, e1]
      obtain ⟨j, c0, hj, rfl, hm', h'⟩ := ih (x := dec c' p) (by rw [dec_len, l2]) e1
      refine ⟨j, inc c0 i, hj, inc_comm (by rw [h'.len.1]; exact hj) (by rw [h'.len.1]; exact hi), hm', ?_⟩
      have := h'.add hi hq hm
      rw [← e3, e2] at this
      exact this
theorem Mv.down {c c' : List Nat} (h : Mv d w c c') : ∀ {t : List Nat}, t.length = w → Le t c' → ∃ r, Le r c ∧ Mv d w r t := by
  induction h with
  | zero =>
    intro t ht hle
    have : t = Hm.zero w := ext (by simp [ht]) fun i => by have := hle i; rw [zero_gt] at this ⊢; omega
    subst this
    exact ⟨_, Le.refl _, .zero⟩
  | @add c c' i p h hi hp hm ih =>
    intro t ht hle
    have l2 := h.len.2
    have l1 := h.len.1
    by_cases q : 0 < gt t p
    · obtain ⟨r, h1, h2⟩ := ih (t := dec t p) (by rw [dec_len, ht]) fun j => by
        have := hle j
        rw [inc_gt _ _ _ (l2 ▸ hp)] at this
        rw [dec_gt _ _ _ (ht ▸ hp)]
        omega
      refine ⟨inc r i, Le.inc (by rw [h2.len.1]; exact hi) (by rw [l1]; exact hi) h1, ?_⟩
      have := h2.add hi hp hm
      rw [inc_dec q] at this
      exact this
    · obtain ⟨r, h1, h2⟩ := ih (t := t) ht fun j => by
        have := hle j
        rw [inc_gt _ _ _ (l2 ▸ hp)] at this
        by_cases e : j = p
        · subst e; omega
        · simp [e] at this; exact this
      exact ⟨r, h1.trans (Le.up _ (by rw [l1]; exact hi)), h2⟩
theorem Mv.up (tot : ∀ i, i < w → ∃ p, p < w ∧ d.mv i p) {r t : List Nat} (h : Mv d w r t) : ∀ (n : Nat) {c : List Nat}, c.length = w → Le r c → c.sum - r.sum = n → ∃ c', Le t c' ∧ Mv d w c c' := by
  intro n
  induction n with
  | zero =>
    intro c hc hle hs
    have := Le.eq_of_sum (by rw [h.len.1, hc]) hle (by omega)
    subst this
    exact ⟨t, Le.refl _, h⟩
  | succ n ih =>
    intro c hc hle hs
    obtain ⟨i, hi, hlt⟩ := Le.lt_ex (by rw [h.len.1, hc]) hle (fun e => by subst e; omega)
    have e1 : inc (dec c i) i = c := inc_dec (by omega)
    have s1 : c.sum = (dec c i).sum + 1 := by
      have := inc_sum (dec c i) i (by rw [dec_len]; exact hi)
      rw [e1] at this
      exact this
    obtain ⟨c', h1, h2⟩ := ih (c := dec c i) (by rw [dec_len, hc]) (fun j => by
      rw [dec_gt _ _ _ hi]
      have := hle j
      by_cases q : j = i
      · subst q; simp; omega
      · simp [q]; exact this) (by omega)
    obtain ⟨p, hp, hm⟩ := tot i (hc ▸ hi)
    refine ⟨inc c' p, h1.trans (Le.up _ (by rw [h2.len.2]; exact hp)), ?_⟩
    have := h2.add (hc ▸ hi) hp hm
    rw [e1] at this
    exact this
end
end Hm

namespace Hm
def add (a b : List Nat) : List Nat := List.zipWith (· + ·) a b
theorem add_gt : ∀ (a b : List Nat) (i : Nat), a.length = b.length → gt (add a b) i = gt a i + gt b i
  | [], [], i, _ => by simp [add]
  | [], _ :: _, _, h => by simp at h
  | _ :: _, [], _, h => by simp at h
  | x :: a, y :: b, 0, _ => by simp [add]
  | x :: a, y :: b, i + 1, h => by
    have := add_gt a b i (by simpa using h)
    simpa [add] using this
theorem add_zero {a : List Nat} {w} (h : a.length = w) : add a (zero w) = a := ext (by simp [add, h, zero]) fun i => by
  rw [add_gt _ _ _ (by simp [h, zero]), zero_gt]; omega
theorem add_inc {a b : List Nat} {i : Nat} (h : a.length = b.length) (hi : i < a.length) : add a (inc b i) = inc (add a b) i := ext (by simp [add, inc_len]) fun j => by
  rw [add_gt _ _ _ (by rw [inc_len]; exact h), inc_gt _ _ _ (h ▸ hi), inc_gt _ _ _ (by simp [add, ← h]; exact hi), add_gt _ _ _ h]
  omega
def split : Nat → Nat → List (List Nat)
  | _, 0 => []
  | m, 1 => [[m]]
  | m, k + 2 => (List.range (m + 1)).flatMap fun f => (split (m - f) (k + 1)).map (f :: ·)
theorem mem_split : ∀ {k m : Nat} {q : List Nat}, q ∈ split m (k + 1) ↔ q.length = k + 1 ∧ q.sum = m
  | 0, m, q => by
    simp only [split, List.mem_singleton]
    constructor
    · rintro rfl; simp
    · rintro ⟨h1, h2⟩
      match q, h1 with
      | [x], _ => simp at h2; rw [h2]
  | k + 1, m, q => by
    simp only [split, List.mem_flatMap, List.mem_map, List.mem_range]
    constructor
    · rintro ⟨f, hf, r, hr, rfl⟩
      have := mem_split.mp hr
      simp [this]; omega
    · rintro ⟨h1, h2⟩
      match q, h1 with
      | x :: r, h1 =>
        simp at h1 h2
        exact ⟨x, by omega, r, mem_split.mpr ⟨h1, by omega⟩, rfl⟩
def row (w : Nat) (ss ps : List Nat) : List Nat := (ss.zip ps).foldl (fun r p => r.set p.1 p.2) (zero w)
theorem set_gt (c : List Nat) (i v j : Nat) (h : i < c.length) : gt (c.set i v) j = if j = i then v else gt c j := by
  simp only [gt, List.getD, List.getElem?_set]
  by_cases q : i = j
  · subst q; simp [h]
  · have q' : ¬ j = i := fun z => q z.symm
    simp [q, q']
theorem fold_len : ∀ (l : List (Nat × Nat)) (r : List Nat), (l.foldl (fun r p => r.set p.1 p.2) r).length = r.length
  | [], r => rfl
  | p :: l, r => by
    rw [List.foldl_cons, fold_len l]
    simp
theorem row_len (w ss ps) : (row w ss ps).length = w := by simp [row, fold_len, zero]
def rowG : List Nat → List Nat → Nat → Nat
  | s :: ss, p :: ps, i => (if i = s then p else 0) + rowG ss ps i
  | _, _, _ => 0
theorem rowG_not : ∀ {ss ps : List Nat} {i : Nat}, i ∉ ss → rowG ss ps i = 0
  | [], _, _, _ => by simp [rowG]
  | _ :: _, [], _, _ => by simp [rowG]
  | s :: ss, p :: ps, i, h => by
    simp at h
    simp [rowG, h.1, rowG_not h.2]
theorem fold_gt : ∀ (ss ps : List Nat) (r : List Nat), ss.Nodup → (∀ s ∈ ss, s < r.length) → ss.length = ps.length → ∀ i, gt ((ss.zip ps).foldl (fun r p => r.set p.1 p.2) r) i = if i ∈ ss then rowG ss ps i else gt r i
  | [], ps, r, _, _, _, i => by simp
  | s :: ss, [], r, _, _, h, i => by simp at h
  | s :: ss, p :: ps, r, hn, hs, hl, i => by
    simp only [List.zip_cons_cons, List.foldl_cons]
    rw [fold_gt ss ps _ (List.nodup_cons.mp hn).2 (fun x hx => by simp; exact hs x (List.mem_cons_of_mem _ hx)) (by simpa using hl)]
    rw [set_gt _ _ _ _ (hs s (List.mem_cons_self ..))]
    have h1 := (List.nodup_cons.mp hn).1
    by_cases e : i = s
    · subst e
      simp [h1, rowG, rowG_not h1]
    · by_cases e2 : i ∈ ss
      · simp [e, e2, rowG]
      · simp [e, e2]
theorem row_gt {w : Nat} {ss ps : List Nat} (hn : ss.Nodup) (hs : ∀ s ∈ ss, s < w) (hl : ss.length = ps.length) (i : Nat) : gt (row w ss ps) i = rowG ss ps i := by
  unfold row
  rw [fold_gt ss ps _ hn (fun s h => by simp [zero]; exact hs s h) hl]
  by_cases e : i ∈ ss
  · simp [e]
  · simp [e, rowG_not e, zero_gt]
theorem rowG_inc : ∀ {ss ps : List Nat} {j : Nat} (hj : j < ss.length), ss.Nodup → ss.length = ps.length → ∀ i, rowG ss (inc ps j) i = rowG ss ps i + if i = ss[j] then 1 else 0
  | [], _, j, hj, _, _, _ => by simp at hj
  | s :: ss, [], j, hj, _, h, _ => by simp at h
  | s :: ss, p :: ps, 0, hj, hn, hl, i => by
    simp only [inc, rowG, List.getElem_cons_zero]
    by_cases e : i = s
    · simp [e]; omega
    · simp [e]
  | s :: ss, p :: ps, j + 1, hj, hn, hl, i => by
    simp only [inc, rowG, List.getElem_cons_succ]
    rw [rowG_inc (by simpa using hj) (List.nodup_cons.mp hn).2 (by simpa using hl)]
    omega
theorem row_inc {w : Nat} {ss ps : List Nat} {j : Nat} (hn : ss.Nodup) (hs : ∀ s ∈ ss, s < w) (hl : ss.length = ps.length) (hj : j < ss.length) : row w ss (inc ps j) = inc (row w ss ps) ss[j] := ext (by simp [row_len, inc_len]) fun i => by
  rw [row_gt hn hs (by rw [inc_len]; exact hl), inc_gt _ _ _ (by rw [row_len]; exact hs _ (List.getElem_mem _)), row_gt hn hs hl, rowG_inc hj hn hl]
theorem rowG_zero : ∀ (ss : List Nat) (i : Nat), rowG ss (zero ss.length) i = 0
  | [], i => rfl
  | s :: ss, i => by
    have := rowG_zero ss i
    simp only [zero, List.length_cons, List.replicate_succ, rowG] at this ⊢
    rw [this]; split <;> rfl
theorem row_zero {w : Nat} {ss : List Nat} (hn : ss.Nodup) (hs : ∀ s ∈ ss, s < w) : row w ss (zero ss.length) = zero w := ext (by simp [row_len, zero]) fun i => by
  rw [row_gt hn hs (by simp [zero]), rowG_zero, zero_gt]
def incN (c : List Nat) (p : Nat) : Nat → List Nat
  | 0 => c
  | m + 1 => inc (incN c p m) p
theorem incN_len (c p) : ∀ m, (incN c p m).length = c.length
  | 0 => rfl
  | m + 1 => by simp [incN, inc_len, incN_len c p m]
theorem incN_gt {c : List Nat} {p : Nat} (hp : p < c.length) : ∀ (m i), gt (incN c p m) i = gt c i + if i = p then m else 0
  | 0, i => by simp [incN]
  | m + 1, i => by
    rw [incN, inc_gt _ _ _ (by rw [incN_len]; exact hp), incN_gt hp m i]
    split <;> omega
def srcF (f : Nat → Option Nat) (fl : Bool) (w p : Nat) : List Nat :=
  if p ∉ (List.range w).filter (fun i => f i == some p) ∧ (fl = true ∨ f p = none) then (List.range w).filter (fun i => f i == some p) ++ [p] else (List.range w).filter (fun i => f i == some p)
theorem mem_srcF {f : Nat → Option Nat} {fl : Bool} {w p i : Nat} (hp : p < w) : i ∈ srcF f fl w p ↔ i < w ∧ (f i = some p ∨ (i = p ∧ (fl = true ∨ f i = none))) := by
  unfold srcF
  split
  · rename_i h
    simp only [List.mem_append, List.mem_filter, List.mem_range, beq_iff_eq, List.mem_singleton]
    constructor
    · rintro (⟨h1, h2⟩ | rfl)
      · exact ⟨h1, .inl h2⟩
      · exact ⟨hp, .inr ⟨rfl, h.2⟩⟩
    · rintro ⟨h1, h2 | ⟨rfl, _⟩⟩
      · exact .inl ⟨h1, h2⟩
      · exact .inr rfl
  · rename_i h
    simp only [List.mem_filter, List.mem_range, beq_iff_eq] at h ⊢
    constructor
    · rintro ⟨h1, h2⟩
      exact ⟨h1, .inl h2⟩
    · rintro ⟨h1, h2 | ⟨rfl, h3⟩⟩
      · exact ⟨h1, h2⟩
      · refine Classical.byContradiction fun z => h ⟨z, h3⟩
theorem srcF_nodup {f : Nat → Option Nat} {fl : Bool} {w p : Nat} : (srcF f fl w p).Nodup := by
  unfold srcF
  have h1 : ((List.range w).filter fun i => f i == some p).Nodup := List.Nodup.sublist List.filter_sublist List.nodup_range
  split
  · rename_i h
    refine List.nodup_append.mpr ⟨h1, by simp, ?_⟩
    intro a ha b hb
    simp at hb
    subst hb
    intro e
    subst e
    exact h.1 ha
  · exact h1
abbrev Dd.srcs (d : Dd) (w p : Nat) : List Nat := srcF d.hs d.fail w p
abbrev Dd.hsrc (d : Dd) (nh p : Nat) : List Nat := srcF d.hh d.fail nh p
theorem mem_srcs {d : Dd} {w p i : Nat} (hp : p < w) : i ∈ d.srcs w p ↔ i < w ∧ d.mv i p := mem_srcF hp
theorem srcs_lt {d : Dd} {w p : Nat} (hp : p < w) : ∀ s ∈ d.srcs w p, s < w := fun s h => ((mem_srcs hp).mp h).1
theorem srcs_nodup {d : Dd} {w p : Nat} : (d.srcs w p).Nodup := srcF_nodup
section
variable {d : Dd} {w : Nat}
theorem mv_incN {x : List Nat} {p : Nat} (hx : x.length = w) (hp : p < w) : ∀ {m : Nat} {r : List Nat}, Mv d w r (incN x p m) ↔ ∃ r0 q, Mv d w r0 x ∧ q.length = (d.srcs w p).length ∧ q.sum = m ∧ r = add r0 (row w (d.srcs w p) q)
  | 0, r => by
    constructor
    · intro h
      exact ⟨r, zero (d.srcs w p).length, h, by simp [zero], zero_sum _, by rw [row_zero srcs_nodup (srcs_lt hp), add_zero h.len.1]⟩
    · rintro ⟨r0, q, h, h1, h2, rfl⟩
      rw [of_sum_zero h1 h2, row_zero srcs_nodup (srcs_lt hp), add_zero h.len.1]
      exact h
  | m + 1, r => by
    constructor
    · intro h
      obtain ⟨i, c0, hi, rfl, hm, h1⟩ := h.inv (by rw [incN_len, hx]) hp
      obtain ⟨r0, q, h2, h3, h4, rfl⟩ := (mv_incN hx hp).mp h1
      obtain ⟨j, hj, hji⟩ := List.getElem_of_mem ((mem_srcs hp).mpr ⟨hi, hm⟩)
      refine ⟨r0, inc q j, h2, by rw [inc_len, h3], by rw [inc_sum _ _ (by rw [h3]; exact hj), h4], ?_⟩
      rw [row_inc srcs_nodup (srcs_lt hp) h3.symm hj, hji, add_inc (by rw [h2.len.1, row_len]) (by rw [h2.len.1]; exact hi)]
    · rintro ⟨r0, q, h, h1, h2, rfl⟩
      obtain ⟨j, hj, hpos⟩ := pos_ex (c := q) (by omega)
      have e := inc_dec hpos
      have hj' : j < (d.srcs w p).length := h1 ▸ hj
      have hs := (mem_srcs hp).mp (List.getElem_mem hj')
      have s := inc_sum (dec q j) j (by rw [dec_len]; exact hj)
      rw [e] at s
      rw [← e, row_inc srcs_nodup (srcs_lt hp) (by rw [dec_len, h1]) hj', add_inc (by rw [h.len.1, row_len]) (by rw [h.len.1]; exact hs.1)]
      exact Mv.add ((mv_incN hx hp).mpr ⟨r0, dec q j, h, by rw [dec_len, h1], by omega, rfl⟩) hs.1 hp hs.2
def dstep (d : Dd) (w : Nat) (found : List (List Nat)) (p m : Nat) : List (List Nat) :=
  if 0 < m then (split m (d.srcs w p).length).flatMap fun q => found.map fun one => add one (row w (d.srcs w p) q) else found
def dealtN (d : Dd) (w : Nat) (c : List Nat) (n : Nat) : List (List Nat) := (List.range n).foldl (fun found p => dstep d w found p (gt c p)) [zero w]
abbrev dealt (d : Dd) (w : Nat) (c : List Nat) : List (List Nat) := dealtN d w c w
def trn (w : Nat) (c : List Nat) : Nat → List Nat
  | 0 => zero w
  | n + 1 => incN (trn w c n) n (gt c n)
theorem trn_len (c) : ∀ n, (trn w c n).length = w
  | 0 => by simp [trn, zero]
  | n + 1 => by rw [trn, incN_len, trn_len c n]
theorem trn_gt (c : List Nat) : ∀ {n : Nat}, n ≤ w → ∀ i, gt (trn w c n) i = if i < n then gt c i else 0
  | 0, _, i => by simp [trn, zero_gt]
  | n + 1, h, i => by
    rw [trn, incN_gt (by rw [trn_len]; omega), trn_gt c (by omega) i]
    by_cases e : i = n
    · subst e; simp
    · have : (i < n + 1) ↔ (i < n) := by omega
      simp [e, this]
theorem trn_full {c : List Nat} (h : c.length = w) : trn w c w = c := ext (by rw [trn_len, h]) fun i => by
  rw [trn_gt c (Nat.le_refl _)]
  by_cases e : i < w
  · simp [e]
  · rw [gt_out (c := c) (by omega)]; simp [e]
theorem mem_dstep {found : List (List Nat)} {x : List Nat} {p m : Nat} (hx : x.length = w) (hp : p < w) (ih : ∀ r, r ∈ found ↔ Mv d w r x) (r : List Nat) : r ∈ dstep d w found p m ↔ Mv d w r (incN x p m) := by
  unfold dstep
  by_cases hm : 0 < m
  · rw [if_pos hm, mv_incN hx hp]
    simp only [List.mem_flatMap, List.mem_map]
    cases hk : (d.srcs w p).length with
    | zero =>
      simp only [split]
      constructor
      · rintro ⟨q, h, _⟩; cases h
      · rintro ⟨r0, q, h, h1, h2, _⟩
        have : q = [] := List.length_eq_zero_iff.mp h1
        subst this
        simp at h2; omega
    | succ k =>
      constructor
      · rintro ⟨q, h, one, h1, rfl⟩
        have := mem_split.mp h
        exact ⟨one, q, (ih _).mp h1, this.1, this.2, rfl⟩
      · rintro ⟨r0, q, h, h1, h2, rfl⟩
        exact ⟨q, mem_split.mpr ⟨h1, h2⟩, r0, (ih _).mpr h, rfl⟩
  · have : m = 0 := by omega
    subst this
    simp [incN, ih]
theorem mem_dealtN (c : List Nat) : ∀ {n : Nat}, n ≤ w → ∀ r, r ∈ dealtN d w c n ↔ Mv d w r (trn w c n)
  | 0, _, r => by
    simp only [dealtN, List.range_zero, List.foldl_nil, List.mem_singleton, trn]
    constructor
    · rintro rfl; exact .zero
    · intro h
      exact of_sum_zero h.len.1 (by rw [h.sum, zero_sum])
  | n + 1, h, r => by
    have ih := mem_dealtN c (n := n) (by omega)
    unfold dealtN
    rw [List.range_succ, List.foldl_append]
    exact mem_dstep (trn_len c n) (by omega) ih r
theorem mem_dealt {c : List Nat} (hc : c.length = w) {r : List Nat} : r ∈ dealt d w c ↔ Mv d w r c := by
  rw [mem_dealtN c (Nat.le_refl _), trn_full hc]
end
end Hm

namespace Hm
abbrev St := Nat × List Nat
abbrev Sm (x : St) : Nat := x.2.sum
def Sle (x y : St) : Prop := x.1 = y.1 ∧ Le x.2 y.2
theorem Sle.refl (x) : Sle x x := ⟨rfl, Le.refl _⟩
theorem Sle.trans {x y z} (h : Sle x y) (k : Sle y z) : Sle x z := ⟨h.1.trans k.1, h.2.trans k.2⟩
def Wf (nh w : Nat) (x : St) : Prop := x.1 < nh ∧ x.2.length = w
structure Dd.Ok (d : Dd) (nh w : Nat) : Prop where
  pl : d.pl < if d.bh then nh else w
  ot : d.ot < if d.bh then nh else w
  hs : ∀ i p, d.hs i = some p → p < w
  hh : ∀ i p, d.hh i = some p → p < nh
def Step (d : Dd) (w : Nat) (x y : St) : Prop :=
  if d.bh then x.1 = d.pl ∧ y.1 = d.ot ∧ Mv d w x.2 y.2
  else d.hm x.1 y.1 ∧ ∃ o o', Mv d w o o' ∧ x.2 = inc o d.pl ∧ y.2 = inc o' d.ot
section
variable {d : Dd} {nh w : Nat}
theorem Sle.anti {x y : St} (hx : Wf nh w x) (hy : Wf nh w y) (h : Sle x y) (k : Sle y x) : x = y := Prod.ext h.1 (Le.anti (by rw [hx.2, hy.2]) h.2 k.2)
theorem Sle.eq_of_sum {x y : St} (hx : Wf nh w x) (hy : Wf nh w y) (h : Sle x y) (k : Sm y ≤ Sm x) : x = y := Prod.ext h.1 (Le.eq_of_sum (by rw [hx.2, hy.2]) h.2 k)
theorem Sle.sum {x y : St} (hx : Wf nh w x) (hy : Wf nh w y) (h : Sle x y) : Sm x ≤ Sm y := Le.sum (by rw [hx.2, hy.2]) h.2
theorem Dd.Ok.tot (ok : d.Ok nh w) (i : Nat) (hi : i < w) : ∃ p, p < w ∧ d.mv i p := by
  cases h : d.hs i with
  | none => exact ⟨i, hi, .inr ⟨rfl, .inr h⟩⟩
  | some p => exact ⟨p, ok.hs i p h, .inl h⟩
theorem Step.sum (ok : d.Ok nh w) {x y : St} (h : Step d w x y) : Sm x = Sm y := by
  unfold Step at h
  have h1 := ok.pl
  have h2 := ok.ot
  split at h
  · exact h.2.2.sum
  · rename_i q
    obtain ⟨_, o, o', m, e1, e2⟩ := h
    simp [q] at h1 h2
    show x.2.sum = y.2.sum
    rw [e1, e2, inc_sum _ _ (by rw [m.len.1]; exact h1), inc_sum _ _ (by rw [m.len.2]; exact h2), m.sum]
theorem Step.wf (ok : d.Ok nh w) {x y : St} (hx : Wf nh w x) (h : Step d w x y) : Wf nh w y := by
  unfold Step at h
  have h1 := ok.pl
  have h2 := ok.ot
  split at h
  · rename_i q
    simp [q] at h1 h2
    exact ⟨by rw [h.2.1]; exact h2, h.2.2.len.2⟩
  · rename_i q
    obtain ⟨hm, o, o', m, e1, e2⟩ := h
    refine ⟨?_, by rw [e2, inc_len, m.len.2]⟩
    rcases hm with h | ⟨h, _⟩
    · exact ok.hh _ _ h
    · rw [← h]; exact hx.1
theorem Step.up (ok : d.Ok nh w) {x x' y : St} (hx' : Wf nh w x') (h : Step d w x y) (l : Sle x x') : ∃ y', Sle y y' ∧ Step d w x' y' := by
  have h1 := ok.pl
  have h2 := ok.ot
  unfold Step at h ⊢
  by_cases q : d.bh = true
  · simp only [q, if_true] at h ⊢
    obtain ⟨c', k1, k2⟩ := h.2.2.up ok.tot _ hx'.2 l.2 rfl
    exact ⟨(d.ot, c'), ⟨h.2.1, k1⟩, by rw [← l.1]; exact h.1, rfl, k2⟩
  · simp [q] at h h1 h2 ⊢
    obtain ⟨hm, o, o', m, e1, e2⟩ := h
    have l2 := l.2
    rw [e1] at l2
    have g0 : 0 < gt x'.2 d.pl := by
      have := l2 d.pl
      rw [inc_gt _ _ _ (by rw [m.len.1]; exact h1)] at this
      simp at this; omega
    have e3 := inc_dec g0
    obtain ⟨c', k1, k2⟩ := m.up ok.tot _ (c := dec x'.2 d.pl) (by rw [dec_len, hx'.2]) (fun j => by
      have := l2 j
      rw [inc_gt _ _ _ (by rw [m.len.1]; exact h1)] at this
      rw [dec_gt _ _ _ (by rw [hx'.2]; exact h1)]
      omega) rfl
    refine ⟨y.1, inc c' d.ot, ⟨rfl, ?_⟩, by rw [← l.1]; exact hm, dec x'.2 d.pl, c', k2, e3.symm, rfl⟩
    rw [e2]
    exact Le.inc (by rw [m.len.2]; exact h2) (by rw [k2.len.2]; exact h2) k1
def restOf (d : Dd) (t : List Nat) : List Nat := if 0 < gt t d.ot then dec t d.ot else t
def beforeBy (d : Dd) (nh w : Nat) (y : St) : List St :=
  if d.bh then (if y.1 = d.ot then (dealt d w y.2).map fun r => (d.pl, r) else [])
  else (d.hsrc nh y.1).flatMap fun h => ((dealt d w (restOf d y.2)).map fun r => inc r d.pl).map fun r => (h, r)
theorem restOf_len (d : Dd) (t : List Nat) : (restOf d t).length = t.length := by
  unfold restOf; split
  · exact dec_len _ _
  · rfl
theorem before_snd (ok : d.Ok nh w) {y z : St} (hy : Wf nh w y) (h : z ∈ beforeBy d nh w y) : Wf nh w z ∧ (∃ y', Step d w z y' ∧ Sle y y') ∧ Sm y ≤ Sm z ∧ Sm z ≤ Sm y + 1 := by
  have h1 := ok.pl
  have h2 := ok.ot
  unfold beforeBy at h
  by_cases q : d.bh = true
  · simp only [q, if_true] at h h1 h2
    split at h
    · rename_i e
      obtain ⟨r, hr, rfl⟩ := List.mem_map.mp h
      have m := (mem_dealt hy.2).mp hr
      refine ⟨⟨h1, m.len.1⟩, ⟨y, ?_, Sle.refl _⟩, ?_, ?_⟩
      · unfold Step
        simp only [q, if_true]
        exact ⟨trivial, e, m⟩
      · exact Nat.le_of_eq m.sum.symm
      · show r.sum ≤ y.2.sum + 1
        rw [m.sum]; omega
    · cases h
  · simp [q] at h h1 h2
    obtain ⟨hh, hm, r, hr, rfl⟩ := h
    have hm' := (mem_srcF hy.1).mp hm
    have m := (mem_dealt (by rw [restOf_len, hy.2])).mp hr
    have rl := m.len.1
    have tl : (restOf d y.2).length = w := by rw [restOf_len, hy.2]
    have le : Le y.2 (inc (restOf d y.2) d.ot) := fun j => by
      rw [inc_gt _ _ _ (by rw [tl]; exact h2)]
      unfold restOf
      split
      · rw [dec_gt _ _ _ (by rw [hy.2]; exact h2)]; omega
      · omega
    have sm : (restOf d y.2).sum ≤ y.2.sum ∧ y.2.sum ≤ (restOf d y.2).sum + 1 := by
      unfold restOf
      split
      · rename_i g0
        have := inc_sum (dec y.2 d.ot) d.ot (by rw [dec_len, hy.2]; exact h2)
        rw [inc_dec g0] at this
        omega
      · omega
    refine ⟨⟨hm'.1, by rw [inc_len, rl]⟩, ⟨(y.1, inc (restOf d y.2) d.ot), ?_, ⟨rfl, le⟩⟩, ?_, ?_⟩
    · unfold Step
      simp [q]
      exact ⟨hm'.2, r, _, m, rfl, rfl⟩
    · show y.2.sum ≤ (inc r d.pl).sum
      rw [inc_sum _ _ (by rw [rl]; exact h1), m.sum]; omega
    · show (inc r d.pl).sum ≤ y.2.sum + 1
      rw [inc_sum _ _ (by rw [rl]; exact h1), m.sum]; omega
theorem before_cov (ok : d.Ok nh w) {x y y' : St} (hx : Wf nh w x) (hy : Wf nh w y) (h : Step d w x y') (l : Sle y y') : ∃ z, z ∈ beforeBy d nh w y ∧ Sle z x := by
  have h1 := ok.pl
  have h2 := ok.ot
  have hy' := h.wf ok hx
  unfold Step at h
  unfold beforeBy
  by_cases q : d.bh = true
  · simp only [q, if_true] at h h1 h2 ⊢
    obtain ⟨e1, e2, m⟩ := h
    obtain ⟨r, k1, k2⟩ := m.down hy.2 l.2
    rw [if_pos (by rw [l.1, e2])]
    exact ⟨(d.pl, r), List.mem_map.mpr ⟨r, (mem_dealt hy.2).mpr k2, rfl⟩, e1.symm, k1⟩
  · rw [if_neg q]
    simp [q] at h h1 h2
    obtain ⟨hm, o, o', m, e1, e2⟩ := h
    have tl : (restOf d y.2).length = w := by rw [restOf_len, hy.2]
    have l2 := l.2
    rw [e2] at l2
    have le : Le (restOf d y.2) o' := fun j => by
      have := l2 j
      rw [inc_gt _ _ _ (by rw [m.len.2]; exact h2)] at this
      unfold restOf
      split
      · rw [dec_gt _ _ _ (by rw [hy.2]; exact h2)]; omega
      · by_cases e : j = d.ot
        · subst e; omega
        · simp [e] at this; exact this
    obtain ⟨r, k1, k2⟩ := m.down tl le
    refine ⟨(x.1, inc r d.pl), List.mem_flatMap.mpr ⟨x.1, ?_, List.mem_map.mpr ⟨inc r d.pl, List.mem_map.mpr ⟨r, (mem_dealt tl).mpr k2, rfl⟩, rfl⟩⟩, rfl, ?_⟩
    · refine (mem_srcF hy.1).mpr ⟨hx.1, ?_⟩
      rw [l.1]
      exact hm
    · rw [e1]
      exact Le.inc (by rw [k2.len.1]; exact h1) (by rw [m.len.1]; exact h1) k1
end

structure Gd where
  nh : Nat
  w : Nat
  ds : List Dd
structure Gd.Ok (G : Gd) : Prop where
  nh : 1 ≤ G.nh
  w : 1 ≤ G.w
  ds : ∀ d ∈ G.ds, d.Ok G.nh G.w
abbrev Gd.Wf (G : Gd) (x : St) : Prop := Hm.Wf G.nh G.w x
inductive Pg (G : Gd) (goals : List St) : St → Prop
  | goal {g x : St} : g ∈ goals → G.Wf x → Sle g x → Pg G goals x
  | step {d : Dd} {x y : St} : d ∈ G.ds → G.Wf x → Step d G.w x y → Pg G goals y → Pg G goals x
def beforeA (G : Gd) (y : St) : List St := G.ds.flatMap fun d => beforeBy d G.nh G.w y
def Abv (found : List St) (x : St) : Prop := ∃ f ∈ found, Sle f x
section
variable {G : Gd} {goals : List St}
theorem Pg.wf {x} (h : Pg G goals x) : G.Wf x := by cases h <;> assumption
theorem Pg.up (ok : G.Ok) {x} (h : Pg G goals x) : ∀ {x'}, G.Wf x' → Sle x x' → Pg G goals x' := by
  induction h with
  | goal hg _ l => intro x' hx' l'; exact .goal hg hx' (l.trans l')
  | step hd hx s _ ih =>
    intro x' hx' l'
    obtain ⟨y', l2, s'⟩ := s.up (ok.ds _ hd) hx' l'
    exact .step hd hx' s' (ih (s'.wf (ok.ds _ hd) hx') l2)
theorem Pg.mono {goals' : List St} (ok : G.Ok) {x} (h : Pg G goals x) (k : ∀ g ∈ goals, G.Wf g → Pg G goals' g) (wf : ∀ g ∈ goals, G.Wf g) : Pg G goals' x := by
  induction h with
  | goal hg hx l => exact (k _ hg (wf _ hg)).up ok hx l
  | step hd hx s _ ih => exact .step hd hx s ih
theorem Pg.before (ok : G.Ok) {y z} (h : Pg G goals y) (hz : z ∈ beforeA G y) : Pg G goals z := by
  obtain ⟨d, hd, hz⟩ := List.mem_flatMap.mp hz
  obtain ⟨w1, ⟨y', s, l⟩, _⟩ := before_snd (ok.ds _ hd) h.wf hz
  exact .step hd w1 s (h.up ok (s.wf (ok.ds _ hd) w1) l)
structure Bas (G : Gd) (goals : List St) (B : List St) : Prop where
  snd : ∀ b ∈ B, Pg G goals b
  cov : ∀ x, Pg G goals x → Abv B x
  anti : ∀ a ∈ B, ∀ b ∈ B, Sle a b → a = b
  nodup : B.Nodup
theorem Bas.sub {B B' : List St} (h : Bas G goals B) (h' : Bas G goals B') : ∀ b ∈ B, b ∈ B' := by
  intro b hb
  obtain ⟨b', hb', l⟩ := h'.cov b (h.snd b hb)
  obtain ⟨b2, hb2, l2⟩ := h.cov b' (h'.snd b' hb')
  have e := h.anti _ hb2 _ hb (l2.trans l)
  subst e
  have := Sle.anti (h'.snd _ hb').wf (h.snd _ hb).wf l l2
  exact this ▸ hb'
theorem Pg.closed (ok : G.Ok) {T : St → Prop} (h0 : ∀ g ∈ goals, ∀ x, G.Wf x → Sle g x → T x) (h1 : ∀ d ∈ G.ds, ∀ x y, G.Wf x → Pg G goals y → Step d G.w x y → T y → T x) {x} (h : Pg G goals x) : T x := by
  induction h with
  | goal hg hx l => exact h0 _ hg _ hx l
  | step hd hx s hp ih => exact h1 _ hd _ _ hx hp s ih

structure Inv (G : Gd) (goals found W : List St) : Prop where
  snd : ∀ x ∈ found, Pg G goals x
  sndW : ∀ x ∈ W, Pg G goals x
  gl : ∀ g ∈ goals, Abv found g ∨ g ∈ W
  bf : ∀ f ∈ found, ∀ z ∈ beforeA G f, Abv found z ∨ z ∈ W
  anti : ∀ a ∈ found, ∀ b ∈ found, Sle a b → a = b
  nodup : found.Nodup
  ord : ∀ f ∈ found, ∀ x ∈ W, Sm f ≤ Sm x
theorem Abv.up {found : List St} {x y} (h : Abv found x) (l : Sle x y) : Abv found y := let ⟨f, hf, k⟩ := h; ⟨f, hf, k.trans l⟩
theorem Inv.low (ok : G.Ok) {found W : List St} (I : Inv G goals found W) (wfg : ∀ g ∈ goals, G.Wf g) (n : Nat) (hn : ∀ x ∈ W, n ≤ Sm x) {x} (h : Pg G goals x) : Abv found x ∨ n ≤ Sm x := by
  refine Pg.closed ok (T := fun x => Abv found x ∨ n ≤ Sm x) ?_ ?_ h
  · intro g hg x hx l
    rcases I.gl g hg with h | h
    · exact .inl (h.up l)
    · exact .inr (Nat.le_trans (hn _ h) (l.sum (wfg g hg) hx))
  · intro d hd x y hx hp s t
    rcases t with ⟨f, hf, l⟩ | t
    · obtain ⟨z, hz, lz⟩ := before_cov (ok.ds _ hd) hx (I.snd f hf).wf s l
      rcases I.bf f hf z (List.mem_flatMap.mpr ⟨d, hd, hz⟩) with k | k
      · exact .inl (k.up lz)
      · exact .inr (Nat.le_trans (hn _ k) (lz.sum (I.sndW z k).wf hx))
    · exact .inr (by rw [s.sum (ok.ds _ hd)]; exact t)
theorem Inv.done (ok : G.Ok) {found : List St} (I : Inv G goals found []) (wfg : ∀ g ∈ goals, G.Wf g) : Bas G goals found where
  snd := I.snd
  anti := I.anti
  nodup := I.nodup
  cov := fun x h => by
    rcases I.low ok wfg (Sm x + 1) (fun x hx => by cases hx) h with k | k
    · exact k
    · omega
theorem Inv.skip {found W W' : List St} {one : St} (I : Inv G goals found W) (ha : Abv found one) (hW : ∀ x, x ∈ W ↔ x = one ∨ x ∈ W') : Inv G goals found W' where
  snd := I.snd
  sndW := fun x h => I.sndW x ((hW x).mpr (.inr h))
  gl := fun g hg => (I.gl g hg).elim .inl fun h => ((hW g).mp h).elim (fun e => .inl (e ▸ ha)) .inr
  bf := fun f hf z hz => (I.bf f hf z hz).elim .inl fun h => ((hW z).mp h).elim (fun e => .inl (e ▸ ha)) .inr
  anti := I.anti
  nodup := I.nodup
  ord := fun f hf x hx => I.ord f hf x ((hW x).mpr (.inr hx))
theorem Inv.take (ok : G.Ok) {found W W' : List St} {one : St} (I : Inv G goals found W) (hn : ¬ Abv found one) (h1 : one ∈ W) (hm : ∀ x ∈ W, Sm one ≤ Sm x) (hW : ∀ x ∈ W, x = one ∨ x ∈ W') (hW1 : ∀ x ∈ W', x ∈ W ∨ x ∈ beforeA G one) (hW2 : ∀ x ∈ beforeA G one, x ∈ W') : Inv G goals (found ++ [one]) W' := by
  have up : ∀ {x}, Abv found x → Abv (found ++ [one]) x := fun ⟨f, hf, l⟩ => ⟨f, List.mem_append_left _ hf, l⟩
  have sf : Abv (found ++ [one]) one := ⟨one, by simp, Sle.refl _⟩
  have hp := I.sndW one h1
  have sb : ∀ z ∈ beforeA G one, Sm one ≤ Sm z := fun z hz => by
    obtain ⟨d, hd, hz⟩ := List.mem_flatMap.mp hz
    exact (before_snd (ok.ds _ hd) hp.wf hz).2.2.1
  refine ⟨?_, ?_, ?_, ?_, ?_, ?_, ?_⟩
  · intro x hx
    rcases List.mem_append.mp hx with h | h
    · exact I.snd x h
    · simp at h; exact h ▸ hp
  · intro x hx
    rcases hW1 x hx with h | h
    · exact I.sndW x h
    · exact hp.before ok h
  · intro g hg
    rcases I.gl g hg with h | h
    · exact .inl (up h)
    · rcases hW g h with rfl | h
      · exact .inl sf
      · exact .inr h
  · intro f hf z hz
    rcases List.mem_append.mp hf with h | h
    · rcases I.bf f h z hz with k | k
      · exact .inl (up k)
      · rcases hW z k with rfl | k
        · exact .inl sf
        · exact .inr k
    · simp at h
      subst h
      exact .inr (hW2 z hz)
  · intro a ha b hb l
    rcases List.mem_append.mp ha with h | h <;> rcases List.mem_append.mp hb with k | k
    · exact I.anti a h b k l
    · simp at k; subst k; exact absurd ⟨a, h, l⟩ hn
    · simp at h; subst h
      exact Sle.eq_of_sum hp.wf (I.snd b k).wf l (I.ord b k _ h1)
    · simp at h k; rw [h, k]
  · refine List.nodup_append.mpr ⟨I.nodup, by simp, ?_⟩
    intro a ha b hb e
    simp at hb
    subst hb
    subst e
    exact hn ⟨a, ha, Sle.refl _⟩
  · intro f hf x hx
    have hx' : Sm one ≤ Sm x := (hW1 x hx).elim (hm x) (sb x)
    rcases List.mem_append.mp hf with h | h
    · exact Nat.le_trans (I.ord f h one h1) hx'
    · simp at h; exact h ▸ hx'
def LB (G : Gd) (f x : St) : Prop := G.Wf x ∧ Sm f ≤ Sm x ∧ Sm x ≤ Sm f + 1 ∧ ∃ d ∈ G.ds, ∃ y, Step d G.w x y ∧ Sle f y
structure LInv (G : Gd) (goals found W : List St) : Prop where
  snd : ∀ x ∈ found, Pg G goals x
  sndW : ∀ x ∈ W, Pg G goals x
  gl : ∀ g ∈ goals, Abv found g ∨ g ∈ W
  bf : ∀ f ∈ found, ∀ z, LB G f z → Abv found z ∨ z ∈ W
  anti : ∀ a ∈ found, ∀ b ∈ found, Sle a b → a = b
  nodup : found.Nodup
theorem LInv.done (ok : G.Ok) {found : List St} (I : LInv G goals found []) (wfg : ∀ g ∈ goals, G.Wf g) : Bas G goals found where
  snd := I.snd
  anti := I.anti
  nodup := I.nodup
  cov := fun x h => by
    refine Pg.closed ok (T := Abv found) ?_ ?_ h
    · intro g hg x hx l
      rcases I.gl g hg with h | h
      · exact h.up l
      · cases h
    · intro d hd x y hx hp s ⟨f, hf, l⟩
      obtain ⟨z, hz, lz⟩ := before_cov (ok.ds _ hd) hx (I.snd f hf).wf s l
      obtain ⟨w1, ⟨y', s', l'⟩, k1, k2⟩ := before_snd (ok.ds _ hd) (I.snd f hf).wf hz
      rcases I.bf f hf z ⟨w1, k1, k2, d, hd, y', s', l'⟩ with k | k
      · exact k.up lz
      · cases k
theorem LInv.skip {found W W' : List St} {one : St} (I : LInv G goals found W) (ha : Abv found one) (hW : ∀ x, x ∈ W ↔ x = one ∨ x ∈ W') : LInv G goals found W' where
  snd := I.snd
  sndW := fun x h => I.sndW x ((hW x).mpr (.inr h))
  gl := fun g hg => (I.gl g hg).elim .inl fun h => ((hW g).mp h).elim (fun e => .inl (e ▸ ha)) .inr
  bf := fun f hf z hz => (I.bf f hf z hz).elim .inl fun h => ((hW z).mp h).elim (fun e => .inl (e ▸ ha)) .inr
  anti := I.anti
  nodup := I.nodup
theorem LInv.take (ok : G.Ok) {found found' W W' : List St} {one : St} (I : LInv G goals found W) (hn : ¬ Abv found one) (h1 : one ∈ W)
    (hf' : ∀ x, x ∈ found' ↔ x = one ∨ (x ∈ found ∧ ¬ Sle one x)) (nd : found'.Nodup)
    (hW : ∀ x ∈ W, x = one ∨ x ∈ W') (hW1 : ∀ x ∈ W', x ∈ W ∨ LB G one x) (hW2 : ∀ x, LB G one x → Abv found' x ∨ x ∈ W') : LInv G goals found' W' := by
  have hp := I.sndW one h1
  have sf : Abv found' one := ⟨one, (hf' one).mpr (.inl rfl), Sle.refl _⟩
  have up : ∀ {x}, Abv found x → Abv found' x := fun {x} ⟨f, hf, l⟩ => by
    by_cases q : Sle one f
    · exact ⟨one, (hf' one).mpr (.inl rfl), q.trans l⟩
    · exact ⟨f, (hf' f).mpr (.inr ⟨hf, q⟩), l⟩
  refine ⟨?_, ?_, ?_, ?_, ?_, nd⟩
  · intro x hx
    rcases (hf' x).mp hx with rfl | h
    · exact hp
    · exact I.snd x h.1
  · intro x hx
    rcases hW1 x hx with h | h
    · exact I.sndW x h
    · obtain ⟨w1, _, _, d, hd, y, s, l⟩ := h
      exact .step hd w1 s (hp.up ok (s.wf (ok.ds _ hd) w1) l)
  · intro g hg
    rcases I.gl g hg with h | h
    · exact .inl (up h)
    · rcases hW g h with rfl | h
      · exact .inl sf
      · exact .inr h
  · intro f hf z hz
    rcases (hf' f).mp hf with rfl | h
    · exact hW2 z hz
    · rcases I.bf f h.1 z hz with k | k
      · exact .inl (up k)
      · rcases hW z k with rfl | k
        · exact .inl sf
        · exact .inr k
  · intro a ha b hb l
    rcases (hf' a).mp ha with rfl | h <;> rcases (hf' b).mp hb with rfl | k
    · rfl
    · exact absurd l k.2
    · exact absurd ⟨a, h.1, l⟩ hn
    · exact I.anti a h.1 b k.1 l
end
end Hm

namespace Hm
def sumTo (g : Nat → Nat) : Nat → Nat
  | 0 => 0
  | n + 1 => sumTo g n + g n
def inflow (f : Nat → Option Nat) (k : List Nat) (n p : Nat) : Nat := sumTo (fun i => if f i = some p then gt k i else 0) n
structure Kv (d : Dd) (w : Nat) (o k : List Nat) : Prop where
  len : k.length = w
  le : ∀ i, i < w → gt k i ≤ gt o i
  non : ∀ i, i < w → d.hs i = none → gt k i = 0
  all : d.fail = false → ∀ i, i < w → d.hs i ≠ none → gt k i = gt o i
def Flow (d : Dd) (w : Nat) (o k o' : List Nat) : Prop := o'.length = w ∧ ∀ p, p < w → gt o' p + gt k p = gt o p + inflow d.hs k w p
def kstep (f : Nat → Option Nat) (k later : List Nat) (i : Nat) : List Nat :=
  if 0 < gt k i then
    let l1 := later.set i (gt later i - gt k i)
    let s := (f i).getD 0
    l1.set s (gt l1 s + gt k i)
  else later
def applyK (f : Nat → Option Nat) (k o : List Nat) (n : Nat) : List Nat := (List.range n).foldl (kstep f k) o
end Hm

set_option maxHeartbeats 2000000
namespace Vm
open PySem L2
@[irreducible] def Wp (s : SM) (e : En) (Q : En → Prop) (R : D → En → Prop) : Prop := match s e with
  | .nx e1 => Q e1
  | .rt d e1 => R d e1
  | _ => False
section
variable {e e1 e2 : En} {Q : En → Prop} {R : D → En → Prop}
theorem Wp.mono {s : SM} {Q' : En → Prop} {R' : D → En → Prop} (h : Wp s e Q R) (hq : ∀ e, Q e → Q' e) (hr : ∀ d e, R d e → R' d e) : Wp s e Q' R' := by
  unfold Wp at h ⊢
  split at h
  · exact hq _ h
  · exact hr _ _ h
  · exact h.elim
theorem wp_seq {s k : SM} (h : Wp s e (fun e1 => Wp k e1 Q R) R) : Wp (seqS s k) e Q R := by
  unfold Wp seqS at *
  split at h
  · rename_i q; simp only [q]; exact h
  · rename_i q; simp only [q]; exact h
  · exact h.elim
theorem wp_asg {f : EM} {g : GM} {d : D} (h : f e = .ok d e1) (k : g d e1 = some e2) (q : Q e2) : Wp (sAsg f g) e Q R := by
  simp [Wp, sAsg, h, ofE, k, q]
theorem wp_set {f : EM} {i : Nat} {d : D} (h : f e = .ok d e1) (q : Q ⟨e1.sl.set i (some d), e1.mu⟩) : Wp (sAsg f (gN i)) e Q R := wp_asg h rfl q
theorem wp_ret {f : EM} {d : D} (h : f e = .ok d e1) (q : R d e1) : Wp (sRet f) e Q R := by
  simp [Wp, sRet, h, ofE, q]
theorem wp_next (q : Q e) : Wp sNext e Q R := by
  unfold Wp sNext
  exact q
theorem wp_if {t : TM} {a b : SM} {k : Bool} (h : t e = .ok k e1) (ha : k = true → Wp a e1 Q R) (hb : k = false → Wp b e1 Q R) : Wp (sIf t a b) e Q R := by
  cases k
  · have := hb rfl
    simpa [Wp, sIf, h, ofE] using this
  · have := ha rfl
    simpa [Wp, sIf, h, ofE] using this
theorem wp_mix {ms : List Mx} {ds : List D} (h : mxEv ms e = .ok ds e1) (hl : ds.length ≤ LIM) (k : mxSet ms ds e1 = some e2) (q : Q e2) : Wp (sMix ms) e Q R := by
  simp [Wp, sMix, h, ofE, hl, k, nxO, q]
theorem wp_forGo {α : Type} {enc : α → D} {g : GM} {bd : SM} (I : List α → En → Prop) : ∀ {l pre : List α} {e : En}, I pre e →
    (∀ p a r e, pre ++ l = p ++ a :: r → I p e → ∃ e2, g (enc a) e = some e2 ∧ Wp bd e2 (I (p ++ [a])) R) → (∀ e, I (pre ++ l) e → Q e) → Wp (forGo g bd (l.map enc)) e Q R
  | [], pre, e, h0, _, hq => by
    rw [List.append_nil] at hq
    unfold Wp
    simp only [List.map_nil, forGo]
    exact hq _ h0
  | a :: l, pre, e, h0, hs, hq => by
    obtain ⟨e2, h1, h2⟩ := hs pre a l e rfl h0
    have key : ∀ e3, I (pre ++ [a]) e3 → Wp (forGo g bd (l.map enc)) e3 Q R := fun e3 h3 => wp_forGo I (pre := pre ++ [a]) h3 (fun p b r e5 he hp => hs p b r e5 (by rw [← he]; simp) hp) (fun e6 h6 => hq e6 (by simpa using h6))
    unfold Wp at h2 ⊢
    simp only [List.map_cons, forGo, h1]
    split at h2
    · rename_i q
      have := key _ h2
      unfold Wp at this
      simp only [q]
      exact this
    · rename_i q; simp only [q]; exact h2
    · exact h2.elim
theorem wp_for {α : Type} {enc : α → D} {it : LM} {g : GM} {bd : SM} {l : List α} (I : List α → En → Prop) (hit : it e = .ok (l.map enc) e1) (h0 : I [] e1)
    (hs : ∀ p a r e, l = p ++ a :: r → I p e → ∃ e2, g (enc a) e = some e2 ∧ Wp bd e2 (I (p ++ [a])) R) (hq : ∀ e, I l e → Q e) : Wp (sFor it g bd) e Q R := by
  have := wp_forGo (g := g) (bd := bd) (enc := enc) (l := l) (pre := []) (Q := Q) (R := R) I h0 (fun p a r e h => hs p a r e (by simpa using h)) (by simpa using hq)
  unfold Wp at this ⊢
  simp only [sFor, hit, ofE]
  exact this
theorem run_ret {m n : Nat} {bd : SM} {ds : List D} {P : D → Prop} (hl : ds.length = m) (h : Wp bd ⟨ds.map some ++ List.replicate n none, []⟩ (fun _ => False) fun d e => e.mu = [] ∧ P d) : ∃ d, runP m n bd ds = .ok d ∧ P d := by
  unfold Wp at h
  unfold runP
  rw [if_pos hl]
  split at h
  · exact h.elim
  · rename_i d e1 q
    refine ⟨d, ?_, h.2⟩
    simp only [q, endP, h.1]
  · exact h.elim
theorem run_eq {m n : Nat} {bd : SM} {ds : List D} {d : D} (hl : ds.length = m) (h : Wp bd ⟨ds.map some ++ List.replicate n none, []⟩ (fun _ => False) fun d' e => e.mu = [] ∧ d' = d) : runP m n bd ds = .ok d := by
  obtain ⟨d', h1, rfl⟩ := run_ret hl h
  exact h1
theorem call_ok {p : PF} {ar : LM} {ds : List D} {d : D} (h : ar e = .ok ds e1) (hm : e1.mu = [] ∨ noLocL ds = true) (k : p ds = .ok d) : eCall (pureF p) ar e = .ok d e1 := by
  obtain ⟨sl, mu⟩ := e1
  cases mu with
  | nil => simp [eCall, h, Rs.bind, callF, pureF, k, toRo]
  | cons c mu =>
    have hm' : noLocL ds = true := by rcases hm with h | h
                                      · cases h
                                      · exact h
    simp [eCall, h, Rs.bind, callF, pureF, k, toRo, hm']
end
@[simp] theorem isF_non : isF .non = true := rfl
@[simp] theorem isF_bl (b) : isF (.bl b) = true := rfl
@[simp] theorem isF_int (b) : isF (.int b) = true := rfl
@[simp] theorem isF_str (b) : isF (.str b) = true := rfl
@[simp] theorem isF_tup (b) : isF (.tup b) = true := rfl
@[simp] theorem isF_tux (b) : isF (.tux b) = true := rfl
@[simp] theorem isF_lst (b) : isF (.lst b) = true := rfl
@[simp] theorem isF_rol (b) : isF (.rol b) = true := rfl
@[simp] theorem isF_dic (b) : isF (.dic b) = true := rfl
@[simp] theorem isF_dix (b) : isF (.dix b) = true := rfl
@[simp] theorem isF_ins (c b) : isF (.ins c b) = true := rfl
@[simp] theorem isF_loc (b) : isF (.loc b) = true := rfl
@[simp] theorem isF_olst (b) : isF (.olst b) = false := rfl
@[simp] theorem isF_odic (b) : isF (.odic b) = false := rfl
@[simp] theorem isF_odix (b) : isF (.odix b) = false := rfl
abbrev eN (n : Nat) : D := .int (n : Int)
def eT (c : List Nat) : D := .tup (c.map eN)
@[simp] theorem eqv_int (a b : Int) : PyData.eqv (.int a) (.int b) = (a == b) := by simp [PyData.eqv]
@[simp] theorem eqv_str (a b : Str) : PyData.eqv (.str a) (.str b) = (a == b) := by simp [PyData.eqv]
theorem deq_int (a b : Int) : deq (.int a) (.int b) = (a == b) := by simp [deq, pd]
theorem deq_str' (a b : Str) : deq (.str a) (.str b) = (a == b) := by simp [deq, pd]
@[simp] theorem dEqA_int (a b : Int) : dEqA (.int a) (.int b) = some (.bl (a == b)) := by simp [orD, dEqA, dEq, pln, deq_int]
@[simp] theorem dEqA_str (a b : Str) : dEqA (.str a) (.str b) = some (.bl (a == b)) := by simp [orD, dEqA, dEq, pln, deq_str']
@[simp] theorem dNeA_int (a b : Int) : dNeA (.int a) (.int b) = some (.bl (!(a == b))) := by simp [orD, dNeA, dNe, pln, deq_int]
theorem plnLA {n : Nat} : ∀ {l : List D}, (∀ d ∈ l, pln n d = true) → plnL n l = true
  | [], _ => by cases n <;> rfl
  | d :: l, h => by simp [plnL, h d (by simp), plnLA fun x hx => h x (List.mem_cons_of_mem _ hx)]
theorem pln_tup {n : Nat} {xs : List D} (h : ∀ d ∈ xs, pln n d = true) : pln (n + 1) (.tup xs) = true := by simp [pln, plnLA h]
@[simp] theorem pln_int (n : Nat) (i : Int) : pln n (.int i) = true := by cases n <;> rfl
@[simp] theorem pln_str (n : Nat) (i : Str) : pln n (.str i) = true := by cases n <;> rfl
@[simp] theorem pln_non (n : Nat) : pln n .non = true := by cases n <;> rfl
@[simp] theorem pln_bl (n : Nat) (b : Bool) : pln n (.bl b) = true := by cases n <;> rfl
@[simp] theorem pln_eT (n : Nat) (c : List Nat) : pln (n + 1) (eT c) = true := pln_tup fun d h => by
  obtain ⟨x, _, rfl⟩ := List.mem_map.mp h
  simp
@[simp] theorem isF_eT (c : List Nat) : isF (eT c) = true := rfl
@[simp] theorem dLt_int (a b : Int) : dLt (.int a) (.int b) = some (.bl (decide (a < b))) := rfl
@[simp] theorem dLe_int (a b : Int) : dLe (.int a) (.int b) = some (.bl (decide (a ≤ b))) := rfl
@[simp] theorem dGt_int (a b : Int) : dGt (.int a) (.int b) = some (.bl (decide (b < a))) := rfl
@[simp] theorem dGe_int (a b : Int) : dGe (.int a) (.int b) = some (.bl (decide (b ≤ a))) := rfl
@[simp] theorem dSub_int (a b : Int) : dSub (.int a) (.int b) = some (.int (a - b)) := rfl
@[simp] theorem dAddA_int (a b : Int) : dAddA (.int a) (.int b) = some (.int (a + b)) := rfl
theorem ixN_nat {n i : Nat} (h : i < n) : ixN n (i : Int) = some i := by
  simp [ixN, h]
theorem atI_nat {xs : List D} {i : Nat} {d : D} (h : xs[i]? = some d) : atI xs (i : Int) = some d := by
  have := (List.getElem?_eq_some_iff.mp h).1
  simp [atI, ixN_nat this, h]
@[simp] theorem dIxA_t0 (a : D) (r : List D) : dIxA (.tup (a :: r)) (.int 0) = if isF a then some a else none := by
  have : atI (a :: r) (0 : Int) = some a := atI_nat (i := 0) rfl
  by_cases h : isF a = true
  · simp [orD, dIxA, dIx, items?, this, h]
  · simp only [Bool.not_eq_true] at h
    simp [orD, dIxA, dIx, items?, this, h, dIxK, dkvs?, dIxN, nkvs?]
@[simp] theorem dIxA_t1 (a b : D) (r : List D) : dIxA (.tup (a :: b :: r)) (.int 1) = if isF b then some b else none := by
  have : atI (a :: b :: r) (1 : Int) = some b := atI_nat (i := 1) rfl
  by_cases h : isF b = true
  · simp [orD, dIxA, dIx, items?, this, h]
  · simp only [Bool.not_eq_true] at h
    simp [orD, dIxA, dIx, items?, this, h, dIxK, dkvs?, dIxN, nkvs?]
@[simp] theorem dIxA_t2 (a b c : D) (r : List D) : dIxA (.tup (a :: b :: c :: r)) (.int 2) = if isF c then some c else none := by
  have : atI (a :: b :: c :: r) (2 : Int) = some c := atI_nat (i := 2) rfl
  by_cases h : isF c = true
  · simp [orD, dIxA, dIx, items?, this, h]
  · simp only [Bool.not_eq_true] at h
    simp [orD, dIxA, dIx, items?, this, h, dIxK, dkvs?, dIxN, nkvs?]
@[simp] theorem dIxA_l0 (a : D) (r : List D) : dIxA (.lst (a :: r)) (.int 0) = if isF a then some a else none := by
  have : atI (a :: r) (0 : Int) = some a := atI_nat (i := 0) rfl
  by_cases h : isF a = true
  · simp [orD, dIxA, dIx, items?, this, h]
  · simp only [Bool.not_eq_true] at h
    simp [orD, dIxA, dIx, items?, this, h, dIxK, dkvs?, dIxN, nkvs?]
@[simp] theorem dIxA_l1 (a b : D) (r : List D) : dIxA (.lst (a :: b :: r)) (.int 1) = if isF b then some b else none := by
  have : atI (a :: b :: r) (1 : Int) = some b := atI_nat (i := 1) rfl
  by_cases h : isF b = true
  · simp [orD, dIxA, dIx, items?, this, h]
  · simp only [Bool.not_eq_true] at h
    simp [orD, dIxA, dIx, items?, this, h, dIxK, dkvs?, dIxN, nkvs?]
theorem ints_map : ∀ (c : List Nat), ints? (c.map eN) = some (c.map fun (n : Nat) => (n : Int))
  | [] => rfl
  | x :: c => by simp [ints?, ints_map c]
theorem sum_cast : ∀ (c : List Nat), (c.map fun (n : Nat) => (n : Int)).sum = (c.sum : Nat)
  | [] => rfl
  | x :: c => by simp [sum_cast c]
@[simp] theorem dSum_eT (c : List Nat) : dSum (eT c) = some (eN c.sum) := by simp [dSum, eT, fitems?, ints_map, sum_cast]
@[simp] theorem dSum_lst (c : List Nat) : dSum (.lst (c.map eN)) = some (eN c.sum) := by simp [dSum, fitems?, ints_map, sum_cast]
def eK (l : List (Nat × Nat)) : List (D × D) := l.map fun p => (eN p.1, eN p.2)
theorem map_eT_F (l : List (List Nat)) : (l.map eT).all isF = true := by simp
theorem lim0 : (0 ≤ LIM) = True := by simp [LIM]
theorem lim1 : (1 ≤ LIM) = True := by simp [LIM]
theorem lim2 : (2 ≤ LIM) = True := by simp [LIM]
theorem lim3 : (3 ≤ LIM) = True := by simp [LIM]
theorem lim4 : (4 ≤ LIM) = True := by simp [LIM]
theorem lim5 : (5 ≤ LIM) = True := by simp [LIM]
theorem lim6 : (6 ≤ LIM) = True := by simp [LIM]
theorem lim7 : (7 ≤ LIM) = True := by simp [LIM]
theorem lim8 : (8 ≤ LIM) = True := by simp [LIM]
local macro_rules | `(tactic| simp! only [$xs,*]) => `(tactic| simp only [bin, un, eVar, eBor, eC, eTest, tAndD, tOrD, tNotD, eOfT, eIf, eAnd, eOr, eNot, aNil, aCons, eTup, eLst, Rs.bind, lift, ofE, eMove, eFrz, frzE, frzA, frzD, gN, gsNil, gsCons, gT, itSeq, seqOf, itOwn, itZipS, itEnum, itItems, wipeE, wipeS, back, backS, clear, tYesD, eFld, isT, items?, fitems?, litems?, Rs.nox, pN, pS, eSl, mkTup, mkLst, dIsN, dNotN, isN, eDic, eDix, mxEv, mxSet, toRo,   isF_non, isF_bl, isF_int, isF_str, isF_tup, isF_tux, isF_lst, isF_rol, isF_dic, isF_dix, isF_ins, isF_loc, isF_olst, isF_odic, isF_odix, isF_eT, if_true, if_false, reduceIte, Bool.false_eq_true, Bool.true_eq_false, Bool.not_true, Bool.not_false, Bool.and_true, Bool.true_and, Bool.and_false, Bool.false_and, Bool.or_true, Bool.true_or, Bool.or_false, Bool.false_or,   List.getElem?_cons_zero, List.getElem?_cons_succ, List.set_cons_zero, List.set_cons_succ, Option.bind_some, Option.map_some, Option.getD_some, Option.getD_none, List.length_cons, List.length_nil, List.length_map, Nat.zero_add, Nat.reduceAdd, List.all_cons, List.all_nil, List.map_cons, List.map_nil, List.replicate, List.cons_append, List.nil_append, lim0, lim1, lim2, lim3, lim4, lim5, lim6, lim7, lim8,   dEqA_int, dEqA_str, dNeA_int, dLt_int, dLe_int, dGt_int, dGe_int, dSub_int, dAddA_int, dIxA_t0, dIxA_t1, dIxA_t2, dIxA_l0, dIxA_l1, dSum_eT, dSum_lst, map_eT_F, $xs,*])
theorem rngD_nat (n : Nat) : rngD (n : Int) = (List.range n).map eN := by
  simp [rngD]
theorem itRange_ok {f : EM} {e e1 : En} {n : Nat} (h : f e = .ok (eN n) e1) (hn : n ≤ LIM) : itRange f e = .ok ((List.range n).map eN) e1 := by
  have h2 : -1000000 ≤ (n : Int) ∧ (n : Int) ≤ 1000000 := by
    unfold LIM at hn
    omega
  unfold itRange
  rw [h]
  simp only [Rs.bind]
  rw [if_pos h2, rngD_nat]
theorem ocall {p : PF} {ar : LM} {ds : List D} {r : D} {e : En} (h1 : ar e = .ok ds e) (hm : e.mu = []) (k : p ds = .ok r) : eCall (pureF p) ar e = .ok r e := call_ok (e1 := e) h1 (.inl hm) k
theorem fcall {p : PF} {ar : LM} {ds : List D} {r d : D} {e : En} (h1 : ar e = .ok ds e) (hm : e.mu = []) (k : p ds = .ok r) (hr : frzT r = some d) : frzA (eCall (pureF p) ar) e = .ok d e := by
  have := call_ok (e1 := e) h1 (.inl hm) k
  rw [show frzA _ e = (eCall (pureF p) ar e).bind fun d e1 => lift (frzT d) e1 from rfl, this]
  simp only [Rs.bind, hr, lift]
theorem frzE_ok {f : EM} {e e1 : En} {d d' : D} (h : f e = .ok d e1) (k : frzD d = some d') : frzE f e = .ok d' e1 := by
  simp only [frzE, h, Rs.bind, k, lift]
theorem frzA_ok {f : EM} {e e1 : En} {d d' : D} (h : f e = .ok d e1) (k : frzT d = some d') : frzA f e = .ok d' e1 := by
  simp only [frzA, h, Rs.bind, k, lift]
theorem un_ok {g : D → Option D} {f : EM} {e e1 : En} {d d' : D} (h : f e = .ok d e1) (k : g d = some d') : un g f e = .ok d' e1 := by
  simp only [un, h, Rs.bind, k, lift]
theorem bin_ok {g : D → D → Option D} {f1 f2 : EM} {e e1 e2 : En} {x y d : D} (h1 : f1 e = .ok x e1) (h2 : f2 e1 = .ok y e2) (k : g x y = some d) : bin g f1 f2 e = .ok d e2 := by
  simp only [bin, h1, h2, Rs.bind, k, lift]
theorem aCons_ok {f : EM} {g : LM} {e e1 e2 : En} {d : D} {ds : List D} (h : f e = .ok d e1) (k : g e1 = .ok ds e2) : aCons f g e = .ok (d :: ds) e2 := by
  simp only [aCons, h, k, Rs.bind]
theorem eTest_ok {f : EM} {e e1 : En} {k : Bool} (h : f e = .ok (.bl k) e1) : eTest f e = .ok k e1 := by
  simp only [eTest, h, Rs.bind]
theorem tOr_f {f g : TM} {e e1 : En} {r : Rs Bool} (h : f e = .ok false e1) (k : g e1 = r) : tOrD f g e = r := by
  simp only [tOrD, h, Rs.bind, k]
  rfl
theorem tNot_ok {f : TM} {e e1 : En} {k : Bool} (h : f e = .ok k e1) : tNotD f e = .ok (!k) e1 := by
  simp only [tNotD, h, Rs.bind]
theorem bin_s {g : D → D → Option D} {f1 f2 : EM} {e : En} {x y d : D} (h1 : f1 e = .ok x e) (h2 : f2 e = .ok y e) (k : g x y = some d) : bin g f1 f2 e = .ok d e := bin_ok h1 h2 k
theorem run_f {m n : Nat} {bd : SM} {ds : List D} {mu : Mu} {P : D → Mu → Prop} (hl : ds.length = m) (h : Wp bd ⟨ds.map some ++ List.replicate n none, mu⟩ (fun _ => False) fun d e => P d e.mu) : ∃ d mu', runF m n bd mu ds = .ok d mu' ∧ P d mu' := by
  unfold Wp at h
  unfold runF runB
  rw [if_pos hl]
  split at h
  · exact h.elim
  · rename_i d e1 q
    exact ⟨d, e1.mu, by simp only [q], h⟩
  · exact h.elim
def FrT (n : Nat) (mu : Mu) : Prop := n ≠ 0 ∧ mu[0]? = some (some (D.otbl (lamQ "way_to")))
theorem FrT.set {n : Nat} {mu : Mu} {x : Option D} (h : FrT n mu) : FrT n (mu.set n x) := ⟨h.1, by rw [List.getElem?_set_ne h.1]; exact h.2⟩
def Gen (N n : Nat) (mu : Mu) : Prop := ∃ a b c : Int, mu[n]? = some (some (.olst [.int a, .int b, .int c])) ∧ 0 ≤ a ∧ 0 ≤ b ∧ b < 2147483647 ∧ 0 ≤ c ∧ c ≤ (N : Int) ∧ FrT n mu
theorem Gen.mono {N M n : Nat} {mu : Mu} (h : Gen N n mu) (k : N ≤ M) : Gen M n mu := by
  obtain ⟨a, b, c, h1, h2, h3, h4, h5, h6, h7⟩ := h
  exact ⟨a, b, c, h1, h2, h3, h4, h5, by omega, h7⟩
theorem mul_ok {i j : Int} (hi : 0 ≤ i) (hi2 : i < 2 ^ 200) (hj : 0 ≤ j) (hj2 : j < 2 ^ 200) : dMulA (.int i) (.int j) = some (.int (i * j)) := by
  have h1 : i.natAbs.log2 ≤ 200 := by
    by_cases z : i.natAbs = 0
    · rw [z]; decide
    · have : i.natAbs < 2 ^ 201 := by omega
      have := (Nat.log2_lt z).mpr this
      omega
  have h2 : j.natAbs.log2 ≤ 200 := by
    by_cases z : j.natAbs = 0
    · rw [z]; decide
    · have : j.natAbs < 2 ^ 201 := by omega
      have := (Nat.log2_lt z).mpr this
      omega
  have : i.natAbs.log2 + j.natAbs.log2 < 1000000 := by omega
  simp only [dMulA, orD, dMulI, dInt, gMul, this, if_true, Option.map]
theorem mod_ok (i : Int) {j : Int} (hj : 0 < j) : dMod (.int i) (.int j) = some (.int (i % j)) := by
  simp only [dMod, dInt, gMod, hj, if_true, Option.map]
theorem toI (i : Int) : dToInt (.int i) = some (.int i) := rfl
theorem hash_eq {s i : Int} (hs : 0 ≤ s) (hs2 : s < 2147483647) (hi : 0 ≤ i) (hi2 : i < 2 ^ 40) : ∃ r : Int, fn__law_hash [.int s, .int i] = .ok (.int r) ∧ 0 ≤ r ∧ r < 2147483587 := by
  obtain ⟨m1, g1⟩ : ∃ m1 : Int, m1 = (s * 1103515245 + 7919 * i * i + i + 1) % 2147483647 := ⟨_, rfl⟩
  obtain ⟨m2, g2⟩ : ∃ m2 : Int, m2 = (m1 * m1 + 69621) % 2147483629 := ⟨_, rfl⟩
  have hm1 : 0 ≤ m1 ∧ m1 < 2147483647 := by rw [g1]; exact ⟨Int.emod_nonneg _ (by omega), Int.emod_lt_of_pos _ (by omega)⟩
  have hm2 : 0 ≤ m2 ∧ m2 < 2147483629 := by rw [g2]; exact ⟨Int.emod_nonneg _ (by omega), Int.emod_lt_of_pos _ (by omega)⟩
  refine ⟨(m2 * 48271) % 2147483587, ?_, Int.emod_nonneg _ (by omega), Int.emod_lt_of_pos _ (by omega)⟩
  refine run_eq rfl ?_
  unfold bd__law_hash
  have h7 : 0 ≤ 7919 * i ∧ 7919 * i < 2 ^ 200 := by omega
  have e1 := mul_ok (i := s) (j := 1103515245) hs (by omega) (by omega) (by omega)
  have e2 := mul_ok (i := 7919) (j := i) (by omega) (by omega) hi (by omega)
  have e3 := mul_ok (i := 7919 * i) (j := i) h7.1 h7.2 hi (by omega)
  have e4 := mul_ok (i := m1) (j := m1) hm1.1 (by omega) hm1.1 (by omega)
  have e5 := mul_ok (i := m2) (j := 48271) hm2.1 (by omega) (by omega) (by omega)
  have f1 := mod_ok (s * 1103515245 + 7919 * i * i + i + 1) (j := 2147483647) (by omega)
  rw [← g1] at f1
  have f2 := mod_ok (m1 * m1 + 69621) (j := 2147483629) (by omega)
  rw [← g2] at f2
  have f3 := mod_ok (m2 * 48271) (j := 2147483587) (by omega)
  refine wp_seq (wp_set (d := .int m1) (e1 := ⟨[some (.int s), some (.int i), none], []⟩) ?_ ?_)
  · simp! only [e1, e2, e3, toI, f1]
  refine wp_seq (wp_set (d := .int m2) (e1 := ⟨[some (.int s), some (.int i), some (.int m1)], []⟩) ?_ ?_)
  · simp! only [e4, toI, f2]
  refine wp_ret (e1 := ⟨[some (.int s), some (.int i), some (.int m2)], []⟩) ?_ ⟨rfl, rfl⟩
  simp! only [e5, toI, f3]
theorem ixL_ok {i n : Nat} {k : Int} {sl : List (Option D)} {mu : Mu} {ds : List D} {d : D} (h0 : sl[i]? = some (some (.loc n))) (h1 : mu[n]? = some (some (.olst ds))) (h2 : atI ds k = some d) (h3 : isF d = true) : eIxL i k ⟨sl, mu⟩ = .ok d ⟨sl, mu⟩ := by
  simp only [eIxL, hold?, h0, En.at, h1, Option.getD_some, Option.map_some, h2, Option.bind_some, h3, if_true, lift]
theorem wp_setM {i n j : Nat} {fi fv : EM} {sl : List (Option D)} {mu : Mu} {ds : List D} {d : D} {Q : En → Prop} {R : D → En → Prop} (h0 : sl[i]? = some (some (.loc n))) (h1 : mu[n]? = some (some (.olst ds))) (hv : fv ⟨sl, mu⟩ = .ok d ⟨sl, mu⟩) (hi : fi ⟨sl, mu⟩ = .ok (eN j) ⟨sl, mu⟩) (hj : j < ds.length) (q : Q ⟨sl, mu.set n (some (.olst (ds.set j d)))⟩) : Wp (sSetA i fi fv) ⟨sl, mu⟩ Q R := by
  unfold Wp sSetA
  simp only [hv, ofE, hasO, hold?, h0, En.at, h1, Option.getD_some, Option.map_some, hi, chg, Option.bind, kSetA, ixN_nat hj, Option.map, En.put, nxO]
  exact q
theorem bits12 : Builtin.Int.intBits (1000000000000 : Int) = 40 := by decide +kernel
theorem random01 {a b c : Int} (ha : 0 ≤ a) (hb : 0 ≤ b) (hb2 : b < 2147483647) (hc : 0 ≤ c) (hc2 : c < 1000000) : ∃ (m : Int) (x : Option D), fn__law_random [some (.olst [.int a, .int b, .int c])] [.loc 0, .int 1000000000000] = .ok (.int m) [x] ∧ 0 ≤ m ∧ m < 1000000000000 := by
  let L : Int → Int → Int → List D := fun a b c => [.int a, .int b, .int c]
  let K : Int := 1000000000000
  let mu : Mu := [some (.olst (L a b c))]
  have key : ∃ d mu', fn__law_random mu [.loc 0, .int K] = .ok d mu' ∧ ∃ (m : Int) (x : Option D), d = .int m ∧ mu' = [x] ∧ 0 ≤ m ∧ m < K := by
    refine run_f (P := fun d mu' => ∃ (m : Int) (x : Option D), d = .int m ∧ mu' = [x] ∧ 0 ≤ m ∧ m < K) rfl ?_
    unfold bd__law_random
    have hK : (0 : Int) < K := by decide
    have at0 : ∀ a b c, atI (L a b c) 0 = some (.int a) := fun _ _ _ => rfl
    have at1 : ∀ a b c, atI (L a b c) 1 = some (.int b) := fun _ _ _ => rfl
    have at2 : ∀ a b c, atI (L a b c) 2 = some (.int c) := fun _ _ _ => rfl
    let S : Option D → Option D → Mu → En := fun x2 x3 mu => ⟨[some (.loc 0), some (.int K), x2, x3], mu⟩
    have rd : ∀ {x2 x3 a b c}, eIxL 0 0 (S x2 x3 [some (.olst (L a b c))]) = .ok (.int a) (S x2 x3 [some (.olst (L a b c))]) ∧ eIxL 0 1 (S x2 x3 [some (.olst (L a b c))]) = .ok (.int b) (S x2 x3 [some (.olst (L a b c))]) ∧ eIxL 0 2 (S x2 x3 [some (.olst (L a b c))]) = .ok (.int c) (S x2 x3 [some (.olst (L a b c))]) := by
      intro x2 x3 a b c
      exact ⟨ixL_ok rfl rfl (at0 _ _ _) rfl, ixL_ok rfl rfl (at1 _ _ _) rfl, ixL_ok rfl rfl (at2 _ _ _) rfl⟩
    have r0 := rd (x2 := none) (x3 := none) (a := a) (b := b) (c := c)
    refine wp_seq (wp_if (k := decide (0 < a)) (e1 := S none none mu) (eTest_ok (bin_s (x := .int a) (y := .int 0) r0.1 rfl (by rw [dGt_int]))) (fun hk => ?_) fun hk => wp_next ?_)
    · have hmod := mod_ok a hK
      have hm0 : 0 ≤ a % K ∧ a % K < K := ⟨Int.emod_nonneg _ (by omega), Int.emod_lt_of_pos _ hK⟩
      refine wp_seq (wp_set (d := .int (a % K)) (e1 := S none none mu) (bin_s (x := .int a) (y := .int K) (un_ok r0.1 rfl) rfl hmod) ?_)
      have r1 := rd (x2 := some (.int (a % K))) (x3 := none) (a := a) (b := b) (c := c)
      have hf : dFdvW (.int a) (.int K) = some (.int (a / K)) := by
        have : 0 < K ∧ K.natAbs.log2 < 9000 := by decide +kernel
        simp only [dFdvW, dInt, gFdvW, this, and_self, if_true, Option.map]
      refine wp_seq (wp_setM (i := 0) (n := 0) (j := 0) (d := .int (a / K)) (ds := L a b c) rfl rfl (bin_s (x := .int a) (y := .int K) r1.1 rfl hf) rfl (by simp [L]) ?_)
      exact wp_ret (d := .int (a % K)) (e1 := S (some (.int (a % K))) none [some (.olst (L (a / K) b c))]) rfl ⟨_, _, rfl, rfl, hm0.1, hm0.2⟩
    · refine wp_seq (wp_set (d := .int 0) (e1 := S none none mu) rfl ?_)
      obtain ⟨r, q1, q2, q3⟩ := hash_eq (s := b) (i := c + 1) hb hb2 (by omega) (by omega)
      obtain ⟨r', q1', q2', q3'⟩ := hash_eq (s := b) (i := c + 1 + 1) hb hb2 (by omega) (by omega)
      have step : ∀ (x3 : Option D) (i : Nat) (v c r w : Int), fn__law_hash [.int b, .int (c + 1)] = .ok (.int r) → dMulA (.int v) (.int 2147483587) = some (.int (v * 2147483587)) → w = v * 2147483587 + r → ∀ Q : En → Prop, Q (S (some (.int w)) (some (eN i)) [some (.olst (L a b (c + 1)))]) →
          ∃ e2, gN 3 (eN i) (S (some (.int v)) x3 [some (.olst (L a b c))]) = some e2 ∧ Wp (seqS (sSetA 0 (eC (.int 2)) (frzE (bin dAddA (eIxL 0 2) (eC (.int 1))))) (sAsg (frzE (bin dAddA (frzE (bin dMulA (eVar 2) (eC (.int 2147483587)))) (eCall (pureF fn__law_hash) (aCons (eIxL 0 1) (aCons (eIxL 0 2) aNil))))) (gN 2))) e2 Q (fun d e => ∃ (m : Int) (x : Option D), d = .int m ∧ e.mu = [x] ∧ 0 ≤ m ∧ m < K) := by
        intro x3 i v c r w hh e0 hw Q q
        refine ⟨S (some (.int v)) (some (eN i)) [some (.olst (L a b c))], rfl, ?_⟩
        have r1 := rd (x2 := some (.int v)) (x3 := some (eN i)) (a := a) (b := b) (c := c)
        refine wp_seq (wp_setM (i := 0) (n := 0) (j := 2) (d := .int (c + 1)) (ds := L a b c) rfl rfl (frzE_ok (bin_s (x := .int c) (y := .int 1) r1.2.2 rfl rfl) rfl) rfl (by simp [L]) ?_)
        have r3 := rd (x2 := some (.int v)) (x3 := some (eN i)) (a := a) (b := b) (c := c + 1)
        have hcall := call_ok (p := fn__law_hash) (ar := aCons (eIxL 0 1) (aCons (eIxL 0 2) aNil)) (e := S (some (.int v)) (some (eN i)) [some (.olst (L a b (c + 1)))]) (e1 := S (some (.int v)) (some (eN i)) [some (.olst (L a b (c + 1)))]) (ds := [.int b, .int (c + 1)]) (aCons_ok r3.2.1 (aCons_ok r3.2.2 rfl)) (.inr rfl) hh
        refine wp_set (d := .int w) (e1 := S (some (.int v)) (some (eN i)) [some (.olst (L a b (c + 1)))]) (frzE_ok (d := .int w) (bin_s (x := .int (v * 2147483587)) (y := .int r) (frzE_ok (bin_s (x := .int v) (y := .int 2147483587) rfl rfl e0) rfl) hcall ?_) rfl) q
        rw [dAddA_int, hw]
      let w1 : Int := 0 * 2147483587 + r
      let w2 : Int := w1 * 2147483587 + r'
      have hw1 : w1 = r := by show 0 * 2147483587 + r = r; omega
      refine wp_seq (wp_for (enc := eN) (l := List.range 2) (e1 := S (some (.int 0)) none mu)
        (fun p e => (p = [] ∧ e = S (some (.int 0)) none mu) ∨ (p.length = 1 ∧ ∃ x3, e = S (some (.int w1)) x3 [some (.olst (L a b (c + 1)))]) ∨ (p.length = 2 ∧ ∃ x3, e = S (some (.int w2)) x3 [some (.olst (L a b (c + 1 + 1)))])) ?_ (.inl ⟨rfl, rfl⟩) ?_ ?_)
      · refine itRange_ok (n := 2) ?_ (by unfold LIM; omega)
        refine frzE_ok (d := eN 2) (bin_s (x := .int 1) (y := .int 1) rfl (bin_s (x := .int 40) (y := .int 30) (un_ok (d := .int K) rfl ?_) rfl ?_) rfl) rfl
        · show some (D.int ((Builtin.Int.intBits K : Nat) : Int)) = _
          rw [show Builtin.Int.intBits K = 40 from bits12]
          rfl
        · have : 0 < (30 : Int) ∧ (30 : Int) < 1073741824 := by omega
          simp only [dFdv, dInt, gFdv, this, and_self, if_true, Option.map]
          rfl
      · rintro p i r2 e he hI
        rcases hI with ⟨hp, rfl⟩ | ⟨hp, x3, rfl⟩ | ⟨hp, _⟩
        · subst hp
          exact step none i 0 c r w1 q1 (mul_ok (by omega) (by omega) (by omega) (by omega)) rfl _ (.inr (.inl ⟨rfl, _, rfl⟩))
        · refine step x3 i w1 (c + 1) r' w2 q1' (mul_ok (by omega) (by omega) (by omega) (by omega)) rfl _ (.inr (.inr ⟨by simp [hp], _, rfl⟩))
        · have := congrArg List.length he
          simp at this
          omega
      · rintro e hI
        rcases hI with ⟨h, _⟩ | ⟨h, _⟩ | ⟨_, x3, rfl⟩
        · cases h
        · simp at h
        · have hmod := mod_ok w2 hK
          have hm0 : 0 ≤ w2 % K ∧ w2 % K < K := ⟨Int.emod_nonneg _ (by omega), Int.emod_lt_of_pos _ hK⟩
          exact wp_ret (d := .int (w2 % K)) (e1 := S (some (.int w2)) x3 [some (.olst (L a b (c + 1 + 1)))]) (bin_s (x := .int w2) (y := .int K) (un_ok (d := .int w2) rfl rfl) rfl hmod) ⟨_, _, rfl, rfl, hm0.1, hm0.2⟩
  obtain ⟨d, mu', h1, m, x, rfl, rfl, h2, h3⟩ := key
  exact ⟨m, x, h1, h2, h3⟩
theorem fvcall {F : FV} {ar : LM} {e : En} {sl : List (Option D)} {mu mu' : Mu} {ds : List D} {d : D} (h1 : ar e = .ok ds ⟨sl, mu⟩) (h2 : F mu ds = .ok d mu') : eCall F ar e = .ok d ⟨sl, mu'⟩ := by
  simp only [eCall, h1, Rs.bind, callF, h2]
theorem cell_eq (ns : List Int) (hn : ns.length ≤ 63) (i : Nat) : ∃ s : Int, fn__law_cell [.rol (ns.map .int), eN i] = .ok (.int s) := by
  have key : ∃ d, runP 2 0 bd__law_cell [.rol (ns.map .int), eN i] = .ok d ∧ ∃ s : Int, d = .int s := by
    refine run_ret rfl ?_
    unfold bd__law_cell
    let S : En := ⟨[some (.rol (ns.map .int)), some (eN i)], []⟩
    refine wp_seq (wp_if (k := decide (i < ns.length)) (e1 := S) ?_ (fun hk => ?_) fun hk => wp_next ?_)
    · refine eTest_ok (bin_s (x := eN i) (y := .int (ns.length : Int)) rfl (un_ok (d := .rol (ns.map .int)) rfl (by simp [items?, dLen])) ?_)
      rw [dLt_int]
      congr 2
      simp
    · have hi : i < ns.length := by simpa using hk
      refine wp_ret (d := .int ns[i]) (e1 := S) (bin_s (x := .rol (ns.map .int)) (y := eN i) rfl rfl ?_) ⟨rfl, _, rfl⟩
      have : atI (ns.map D.int) (i : Int) = some (.int ns[i]) := atI_nat (by simp [hi])
      simp [orD, dIxA, dIx, items?, this]
    · exact wp_ret (d := .int 0) (e1 := S) rfl ⟨rfl, _, rfl⟩
  obtain ⟨d, h1, s, rfl⟩ := key
  exact ⟨s, h1⟩
theorem gen_eq (ns : List Int) (hn : ns.length ≤ 63) {i : Nat} (hi : i ≤ 100) : ∃ a b : Int, fn__law_generator [.rol (ns.map .int), eN i] = .ok (.olst [.int a, .int b, .int (1000 * (i : Int))]) ∧ 0 ≤ a ∧ 0 ≤ b ∧ b < 2147483647 := by
  obtain ⟨s, hs⟩ := cell_eq ns hn i
  have p1 : dPow (.int 10) (.int 18) = some (.int (10 ^ 18)) := by
    have : (0 : Int) ≤ 18 ∧ (Builtin.Int.intBits 10 : Int) * 18 ≤ 2 ^ 27 := by decide +kernel
    simp only [dPow, dInt, gPow, this, and_self, if_true, Option.map]
    rfl
  have p2 : dPow (.int 10) (.int 60) = some (.int (10 ^ 60)) := by
    have : (0 : Int) ≤ 60 ∧ (Builtin.Int.intBits 10 : Int) * 60 ≤ 2 ^ 27 := by decide +kernel
    simp only [dPow, dInt, gPow, this, and_self, if_true, Option.map]
    rfl
  have p3 : dPow (.int (10 ^ 60)) (.int 10) = some (.int ((10 ^ 60) ^ 10)) := by
    have : (0 : Int) ≤ 10 ∧ (Builtin.Int.intBits (10 ^ 60) : Int) * 10 ≤ 2 ^ 27 := by decide +kernel
    simp only [dPow, dInt, gPow, this, and_self, if_true, Option.map]
    rfl
  have hpos : (0 : Int) < (10 ^ 60) ^ 10 := by decide +kernel
  have q0 : ∃ m : Int, dMax2 (.int (s - 10 ^ 18)) (.int 0) = some (.int m) := ⟨_, rfl⟩
  obtain ⟨m, hm⟩ := q0
  have f1 := mod_ok m hpos
  have f2 := mod_ok s (j := 2147483647) (by omega)
  have f3 := mul_ok (i := 1000) (j := (i : Int)) (by omega) (by omega) (by omega) (by omega)
  refine ⟨m % (10 ^ 60) ^ 10, s % 2147483647, ?_, Int.emod_nonneg _ (by omega), Int.emod_nonneg _ (by omega), Int.emod_lt_of_pos _ (by omega)⟩
  refine run_eq rfl ?_
  unfold bd__law_generator
  let S : Option D → En := fun x => ⟨[some (.rol (ns.map .int)), some (eN i), x], []⟩
  refine wp_seq (wp_set (d := .int s) (e1 := S none) (fcall (ds := [.rol (ns.map .int), eN i]) rfl rfl hs rfl) ?_)
  refine wp_ret (e1 := S (some (.int s))) ?_ ⟨rfl, rfl⟩
  simp! only [S, p1, p2, p3, hm, toI, f1, f2, f3]
section
variable {e e1 : En} {c : Nat} {x : Option D}
end
def exs (d : D) : List D := (List.range 11).map fun k => .exn k [d]
theorem placed_eq (mu : Mu) (d : D) (h : isF d = true) : fn__law_placed mu [d] = .ok (.olst (exs d)) mu := by cases d <;> first | (cases h; done) | kernel_rfl
theorem named_eq (mu : Mu) (d : D) (h : isF d = true) : fn__law_named mu [d] = .ok (.olst (exs d)) mu := by cases d <;> first | (cases h; done) | kernel_rfl
structure Gd (p : PyData) : Prop where
  sh : p.showable = true
  dp : p.depth ≤ 10
  wt : p.weight ≤ 100
  ls : p.leavesShort 13 = true
  ok : PyData.strOk p.shown = true
theorem join_str {p : PyData} (h : PyData.strOk p.shown = true) : ∀ n : Nat, ∀ t ∈ PyData.shownAll (List.replicate n p), PyData.strOk t = true
  | 0, t, ht => by simp [PyData.shownAll] at ht
  | n + 1, t, ht => by
    simp only [List.replicate_succ, PyData.shownAll, List.mem_cons] at ht
    rcases ht with rfl | ht
    · exact h
    · exact join_str h n t ht
theorem gd11 {p : PyData} (g : Gd p) : (PyData.list (List.replicate 11 p)).showable = true ∧ (PyData.list (List.replicate 11 p)).depth ≤ 20 ∧ (PyData.list (List.replicate 11 p)).shown.length ≤ 1000000 ∧ PyData.strOk (PyData.list (List.replicate 11 p)).shown = true := by
  refine ⟨?_, ?_, ?_, ?_⟩
  · have := g.sh
    simp [PyData.showable, PyData.showableAll, List.replicate, this]
  · have := g.dp
    simp only [List.replicate, PyData.depth, PyData.depthAll]
    omega
  · have h := PyData.shown_le 13 (by decide) (.list (List.replicate 11 p)) (by
      have := g.ls
      simp [PyData.leavesShort, PyData.leavesShortAll, List.replicate, this])
    have hw : (PyData.list (List.replicate 11 p)).weight ≤ 2000 := by
      have := g.wt
      simp only [List.replicate, PyData.weight, PyData.weightAll]
      omega
    omega
  · rw [PyData.shown_list]
    exact strOk_app (strOk_app (strOk_of _) (join_ok (strOk_of _) (join_str g.ok 11))) (strOk_of _)
theorem rs1_sl (sl sl' : List (Option D)) (mu : Mu) (d : D) : rs1 ⟨sl, mu⟩ d = rs1 ⟨sl', mu⟩ d := by cases d <;> rfl
theorem rs11 {e : En} {d : D} {p : PyData} (h : rs1 e d = some p) : rs1L e (List.replicate 11 d) = some (List.replicate 11 p) := by
  simp only [List.replicate, rs1L, h, Option.bind, Option.map]
theorem eRep11 {f : EM} {e : En} {x d : D} {p : PyData} (hf : f e = .ok x e) (hx : litm x = some (List.replicate 11 d)) (h : rs1 e d = some p) (g : Gd p) : eReprM f e = .ok (.str (PyData.list (List.replicate 11 p)).shown) e := by
  have k := gd11 g
  unfold eReprM
  rw [hf]
  show (match (litm x).bind (rs1L e) with
    | some ps => if (PyData.list ps).showable = true ∧ (PyData.list ps).depth ≤ 20 ∧ (PyData.list ps).shown.length ≤ 1000000 ∧ PyData.strOk (PyData.list ps).shown = true then Rs.ok (D.str (PyData.list ps).shown) e else .stuck
    | none => .stuck) = _
  rw [hx, Option.bind_some, rs11 h]
  exact if_pos k
theorem eq_self (x : Str) : dEqA (D.str x) (D.str x) = some (.bl true) := by
  have : deq (D.str x) (D.str x) = true := by simp [deq, pd]
  simp [dEqA, orD, dEq, pln, DEP, this]
theorem right_eq {mu : Mu} {d : D} {p : PyData} (hd : isF d = true) (h : rs1 ⟨[], mu⟩ d = some p) (g : Gd p) : fn__law_right mu [.lst (exs d), d] = .ok (.bl true) mu := by
  have key : ∃ r mu', fn__law_right mu [.lst (exs d), d] = .ok r mu' ∧ r = .bl true ∧ mu' = mu := by
    refine run_f (P := fun r mu' => r = .bl true ∧ mu' = mu) rfl ?_
    unfold bd__law_right
    refine wp_seq (wp_if (k := false) (e1 := ⟨[some (.lst (exs d)), some d, none, none, none], mu⟩) (by kernel_rfl) (fun h => by cases h) fun _ => wp_next ?_)
    refine wp_seq (wp_set (d := .lst (List.replicate 11 d)) (e1 := ⟨[some (.lst (exs d)), some d, none, none, none], mu⟩) (by cases d <;> first | (cases hd; done) | kernel_rfl) ?_)
    let E : En := ⟨[some (.lst (exs d)), some d, some (.lst (List.replicate 11 d)), none, none], mu⟩
    have hE : rs1 E d = some p := (rs1_sl _ _ _ _).trans h
    have r1 : eReprM (eVar 2) E = .ok (.str (PyData.list (List.replicate 11 p)).shown) E := eRep11 (x := .lst (List.replicate 11 d)) (by rfl) rfl hE g
    have r2 : eReprM (bin dMulA (frzE (eLst (aCons (eVar 1) aNil))) (eC (.int 11))) E = .ok (.str (PyData.list (List.replicate 11 p)).shown) E := eRep11 (x := .olst (List.replicate 11 d)) (by cases d <;> first | (cases hd; done) | kernel_rfl) rfl hE g
    exact wp_ret (d := .bl true) (e1 := E) (bin_s r1 r2 (eq_self _)) ⟨rfl, rfl⟩
  obtain ⟨r, mu', h1, rfl, rfl⟩ := key
  exact h1
theorem wp_eq {s : SM} {e e1 : En} {Q : En → Prop} {R : D → En → Prop} (h : s e = .nx e1) (q : Q e1) : Wp s e Q R := by
  unfold Wp
  rw [h]
  exact q
theorem wp_forCons {g : GM} {bd : SM} {d : D} {l : List D} {e : En} {Q : En → Prop} {R : D → En → Prop} (h : ∃ e2, g d e = some e2 ∧ Wp bd e2 (fun e3 => Wp (forGo g bd l) e3 Q R) R) : Wp (forGo g bd (d :: l)) e Q R := by
  obtain ⟨e2, h1, h2⟩ := h
  unfold Wp at h2 ⊢
  simp only [forGo, h1]
  split at h2
  · rename_i q
    simp only [q]
    exact h2
  · rename_i q; simp only [q]; exact h2
  · exact h2.elim
theorem wp_forNil {g : GM} {bd : SM} {e : En} {Q : En → Prop} {R : D → En → Prop} (h : Q e) : Wp (forGo g bd []) e Q R := by
  unfold Wp
  simp only [forGo]
  exact h
theorem wp_forL {it : LM} {g : GM} {bd : SM} {ds : List D} {e e1 : En} {Q : En → Prop} {R : D → En → Prop} (hit : it e = .ok ds e1) (h : Wp (forGo g bd ds) e1 Q R) : Wp (sFor it g bd) e Q R := by
  unfold Wp at h ⊢
  simp only [sFor, hit, ofE]
  exact h
theorem fcallF {F : FV} {ar : LM} {e : En} {sl : List (Option D)} {mu mu' : Mu} {ds : List D} {d d' : D} (h1 : ar e = .ok ds ⟨sl, mu⟩) (h2 : F mu ds = .ok d mu') (h3 : frzT d = some d') : frzA (eCall F ar) e = .ok d' ⟨sl, mu'⟩ := frzA_ok (fvcall h1 h2) h3
theorem rightE {f g : EM} {sl : List (Option D)} {mu : Mu} {d : D} {p : PyData} (hd : isF d = true) (h : rs1 ⟨[], mu⟩ d = some p) (k : Gd p) (hf : f ⟨sl, mu⟩ = .ok (.lst (exs d)) ⟨sl, mu⟩) (hg : g ⟨sl, mu⟩ = .ok d ⟨sl, mu⟩) :
    tNotD (eTest (frzA (eCall fn__law_right (aCons f (aCons g aNil))))) ⟨sl, mu⟩ = .ok false ⟨sl, mu⟩ := tNot_ok (k := true) (eTest_ok (fcallF (aCons_ok hf (aCons_ok hg rfl)) (right_eq hd h k) rfl))
theorem exsF (d : D) : frzT (.olst (exs d)) = some (.lst (exs d)) := by kernel_rfl
theorem eVar_ok {i : Nat} {sl : List (Option D)} {mu : Mu} {d : D} (h : sl[i]? = some (some d)) (k : isF d = true) : eVar i ⟨sl, mu⟩ = .ok d ⟨sl, mu⟩ := by
  cases d <;> first | (cases k; done) | (simp [eVar, En.at, h, isF])
theorem body_ok {d : D} {s mk el y3 y4 y5 : Option D} {mu mu1 mu' : Mu} {p p' : PyData} {Q : En → Prop} {R : D → En → Prop} (hd : isF d = true) (h : rs1 ⟨[], mu⟩ d = some p) (g : Gd p)
    (h1 : (sIf (eTest (eIsiC "list" (eVar 3))) (sAppC (eVar 3) (eC (.str "more"))) sNext) ⟨[s, mk, el, some d, some (.lst (exs d)), some (.lst (exs d))], mu⟩ = .nx ⟨[s, mk, el, some d, some (.lst (exs d)), some (.lst (exs d))], mu1⟩)
    (h2 : (sIf (eTest (eIsiC "dict" (eVar 3))) (sSetKC (eVar 3) (eC (.str "more")) (frzE (eLst (aCons (eC (.int 1)) aNil)))) sNext) ⟨[s, mk, el, some d, some (.lst (exs d)), some (.lst (exs d))], mu1⟩ = .nx ⟨[s, mk, el, some d, some (.lst (exs d)), some (.lst (exs d))], mu'⟩)
    (h' : rs1 ⟨[], mu'⟩ d = some p') (g' : Gd p') (q : Q ⟨[s, mk, el, some d, some (.lst (exs d)), some (.lst (exs d))], mu'⟩) :
    ∃ e2, gN 3 d ⟨[s, mk, el, y3, y4, y5], mu⟩ = some e2 ∧ Wp (seqS (sMix ((4, (frzA (eCall fn__law_placed (aCons (eVar 3) aNil)))) :: ((5, (frzA (eCall fn__law_named (aCons (eVar 3) aNil)))) :: [])))
      (seqS (sIf (tOrD (tNotD (eTest (frzA (eCall fn__law_right (aCons (eVar 4) (aCons (eVar 3) aNil)))))) (tNotD (eTest (frzA (eCall fn__law_right (aCons (eVar 5) (aCons (eVar 3) aNil))))))) (sRet (eC (.bl false))) sNext)
      (seqS (sIf (eTest (eIsiC "list" (eVar 3))) (sAppC (eVar 3) (eC (.str "more"))) sNext)
      (seqS (sIf (eTest (eIsiC "dict" (eVar 3))) (sSetKC (eVar 3) (eC (.str "more")) (frzE (eLst (aCons (eC (.int 1)) aNil)))) sNext)
      (sIf (tOrD (tNotD (eTest (frzA (eCall fn__law_right (aCons (eVar 4) (aCons (eVar 3) aNil)))))) (tNotD (eTest (frzA (eCall fn__law_right (aCons (eVar 5) (aCons (eVar 3) aNil))))))) (sRet (eC (.bl false))) sNext))))) e2 Q R := by
  refine ⟨⟨[s, mk, el, some d, y4, y5], mu⟩, rfl, ?_⟩
  have v3 : eVar 3 ⟨[s, mk, el, some d, y4, y5], mu⟩ = .ok d ⟨[s, mk, el, some d, y4, y5], mu⟩ := eVar_ok rfl hd
  have c1 := fcallF (F := fn__law_placed) (ar := aCons (eVar 3) aNil) (ds := [d]) (aCons_ok v3 rfl) (placed_eq mu d hd) (exsF d)
  have c2 := fcallF (F := fn__law_named) (ar := aCons (eVar 3) aNil) (ds := [d]) (aCons_ok v3 rfl) (named_eq mu d hd) (exsF d)
  refine wp_seq (wp_mix (ds := [.lst (exs d), .lst (exs d)]) (e1 := ⟨[s, mk, el, some d, y4, y5], mu⟩) ?_ (by show 2 ≤ LIM; unfold LIM; omega) rfl ?_)
  · simp only [mxEv, c1, c2, Rs.bind]
  · have t1 : ∀ mu p, rs1 ⟨[], mu⟩ d = some p → Gd p → tOrD (tNotD (eTest (frzA (eCall fn__law_right (aCons (eVar 4) (aCons (eVar 3) aNil)))))) (tNotD (eTest (frzA (eCall fn__law_right (aCons (eVar 5) (aCons (eVar 3) aNil)))))) ⟨[s, mk, el, some d, some (.lst (exs d)), some (.lst (exs d))], mu⟩ = .ok false ⟨[s, mk, el, some d, some (.lst (exs d)), some (.lst (exs d))], mu⟩ := fun mu p h g =>
      tOr_f (rightE hd h g (eVar_ok rfl rfl) (eVar_ok rfl hd)) (rightE hd h g (eVar_ok rfl rfl) (eVar_ok rfl hd))
    refine wp_seq (wp_if (k := false) (t1 mu p h g) (fun h => by cases h) fun _ => wp_next ?_)
    refine wp_seq (wp_eq h1 ?_)
    refine wp_seq (wp_eq h2 ?_)
    exact wp_if (k := false) (t1 mu' p' h' g') (fun h => by cases h) fun _ => wp_next q
theorem wtInt {m : Int} (h : m.natAbs < 10 ^ 12) : (if m = 0 then 0 else m.natAbs.log2 + 1) ≤ 41 := by
  split
  · omega
  · have z : m.natAbs ≠ 0 := by omega
    have := (Nat.log2_lt z).mpr (show m.natAbs < 2 ^ 40 by omega)
    omega
theorem gdInt {m : Int} (h : m.natAbs < 10 ^ 12) : Gd (.int m) := by
  refine ⟨?_, by simp [PyData.depth], by have := wtInt h; simp [PyData.weight]; omega, ?_, ?_⟩
  · have : m.natAbs.log2 < 1920 := by
      by_cases z : m.natAbs = 0
      · rw [z]; decide
      · have := (Nat.log2_lt z).mpr (show m.natAbs < 2 ^ 40 by omega)
        omega
    simpa [PyData.showable] using this
  · simpa [PyData.leavesShort] using PyData.shown_int_le h
  · simp only [PyData.shown]
    exact strOk_of _
theorem gdDict1 {m : Int} (h : m.natAbs < 10 ^ 12) : Gd (.dict [(.str "a", .list [.int m])]) := by
  have g := gdInt h
  refine ⟨?_, by simp [PyData.depth, PyData.depthKv, PyData.depthAll], ?_, ?_, ?_⟩
  · simpa [PyData.showable, PyData.showableKv, PyData.showableAll] using g.sh
  · have := wtInt h
    have h1 : ("a" : Str).cps.size = 1 := by decide +kernel
    have h2 : ("more" : Str).cps.size = 4 := by decide +kernel
    have h3 : Nat.log2 1 = 0 := by decide +kernel
    simp [PyData.weight, PyData.weightKv, PyData.weightAll, h1, h2, h3]
    omega
  · have := g.ls
    simp [PyData.leavesShort, PyData.leavesShortKv, PyData.leavesShortAll] at this ⊢
    exact ⟨by decide +kernel, this⟩
  · rw [PyData.shown_dict]
    refine strOk_app (strOk_app (strOk_of _) (join_ok (strOk_of _) fun t ht => ?_)) (strOk_of _)
    simp only [PyData.shownKv, List.mem_singleton] at ht
    subst ht
    exact strOk_app (strOk_app (by decide +kernel) (strOk_of _)) (shown_ok _ (by simp [PyData.canLay0, PyData.canLayAll0]))
theorem gdDict2 {m : Int} (h : m.natAbs < 10 ^ 12) : Gd (.dict [(.str "a", .list [.int m]), (.str "more", .list [.int 1])]) := by
  have g := gdInt h
  refine ⟨?_, by simp [PyData.depth, PyData.depthKv, PyData.depthAll], ?_, ?_, ?_⟩
  · have := g.sh
    simp [PyData.showable, PyData.showableKv, PyData.showableAll] at this ⊢
    exact ⟨this, by decide +kernel⟩
  · have := wtInt h
    have h1 : ("a" : Str).cps.size = 1 := by decide +kernel
    have h2 : ("more" : Str).cps.size = 4 := by decide +kernel
    have h3 : Nat.log2 1 = 0 := by decide +kernel
    simp [PyData.weight, PyData.weightKv, PyData.weightAll, h1, h2, h3]
    omega
  · have := g.ls
    simp [PyData.leavesShort, PyData.leavesShortKv, PyData.leavesShortAll] at this ⊢
    exact ⟨⟨by decide +kernel, this⟩, by decide +kernel, by decide +kernel⟩
  · rw [PyData.shown_dict]
    refine strOk_app (strOk_app (strOk_of _) (join_ok (strOk_of _) fun t ht => ?_)) (strOk_of _)
    simp only [PyData.shownKv, List.mem_cons, List.not_mem_nil, or_false] at ht
    rcases ht with rfl | rfl
    · exact strOk_app (strOk_app (by decide +kernel) (strOk_of _)) (shown_ok _ (by simp [PyData.canLay0, PyData.canLayAll0]))
    · exact strOk_app (strOk_app (by decide +kernel) (strOk_of _)) (shown_ok _ (by simp [PyData.canLay0, PyData.canLayAll0]))
theorem gdC {p : PyData} (h1 : p.showable = true := by decide +kernel) (h2 : p.depth ≤ 10 := by decide +kernel) (h3 : p.weight ≤ 100 := by decide +kernel) (h4 : p.leavesShort 13 = true := by decide +kernel) (h5 : PyData.strOk p.shown = true := by decide +kernel) : Gd p := ⟨h1, h2, h3, h4, h5⟩
theorem gd1 : Gd (.tuple [.int 1, .int 2]) := gdC
theorem gd2 : Gd (.tuple []) := gdC
theorem gd3 : Gd (.list [.int 1]) := gdC
theorem gd4 : Gd (.list [.int 1, .str "more"]) := gdC
theorem gd5 : Gd (.list []) := gdC
theorem gd6 : Gd (.list [.str "more"]) := gdC
theorem gd7 : Gd (.dict []) := gdC
theorem gd8 : Gd (.dict [(.str "more", .list [.int 1])]) := gdC
theorem gd9 : Gd (.str "a b") := gdC
theorem gd10 : Gd (.str "") := gdC
theorem gd11a : Gd (.bool true) := gdC
theorem gd12 : Gd .none := gdC
theorem gd13 : Gd (.tuple [.str "idle", .list [.int 1]]) := gdC
theorem gd14 : Gd (.str "elder") := gdC
theorem eCell_ok {f : EM} {e : En} {sl : List (Option D)} {mu : Mu} {d : D} (h : f e = .ok d ⟨sl, mu⟩) (k : isF d = false) : eCell f e = .ok (.loc mu.length) ⟨sl, mu ++ [some d]⟩ := by
  unfold eCell
  rw [h]
  simp only [Rs.bind, k]
  rfl
theorem wp_retS {f : EM} {e : En} {d : D} {Q : En → Prop} {R : D → En → Prop} (h : f e = .ok d e) (q : R d e) : Wp (sRet f) e Q R := wp_ret h q
theorem law_true (ns : List Int) (hl : ns.length ≤ 63) : ∃ mu, fn_law [] [.rol (ns.map .int)] = .ok (.bl true) mu := by
  have key : ∃ r mu, fn_law [] [.rol (ns.map .int)] = .ok r mu ∧ r = .bl true := by
    refine run_f (P := fun r _ => r = .bl true) rfl ?_
    unfold bd_law
    obtain ⟨a, b, hg, ha, hb, hb2⟩ := gen_eq ns hl (i := 0) (by omega)
    obtain ⟨m, x, hr, hm0, hm1⟩ := random01 (c := 1000 * ((0 : Nat) : Int)) ha hb hb2 (by omega) (by omega)
    have hp : dPow (.int 10) (.int 12) = some (.int 1000000000000) := by
      have : (0 : Int) ≤ 12 ∧ (Builtin.Int.intBits 10 : Int) * 12 ≤ 2 ^ 27 := by decide +kernel
      simp only [dPow, dInt, gPow, this, and_self, if_true, Option.map]
      rfl
    have hma : m.natAbs < 10 ^ 12 := by omega
    have hmb : (0 - m).natAbs < 10 ^ 12 := by omega
    generalize hs : D.rol (ns.map .int) = scr at *
    have hsc : isF scr = true := by subst hs; rfl
    let E0 : En := ⟨[some scr, none, none, none, none, none], []⟩
    have h1 : frzA (eCall fn__law_random (aCons (eCell (eCall (pureF fn__law_generator) (aCons (eVar 0) (aCons (eC (.int 0)) aNil)))) (aCons (bin dPow (eC (.int 10)) (eC (.int 12))) aNil))) E0 = .ok (.int m) ⟨[some scr, none, none, none, none, none], [x]⟩ := by
      refine fcallF (ds := [.loc 0, .int 1000000000000]) (mu := [some (.olst [.int a, .int b, .int (1000 * ((0 : Nat) : Int))])]) (aCons_ok (eCell_ok (mu := []) (ocall (ds := [scr, eN 0]) (aCons_ok (eVar_ok rfl hsc) rfl) rfl hg) rfl) (aCons_ok (bin_s rfl rfl hp) rfl)) hr rfl
    refine wp_seq (wp_set (d := .int m) (e1 := ⟨[some scr, none, none, none, none, none], [x]⟩) h1 ?_)
    let el : D := .lst [.lst (exs (.int m)), .lst (exs (.str "elder"))]
    have h2 : frzE (eLst (aCons (frzA (eCall fn__law_placed (aCons (eVar 1) aNil))) (aCons (frzA (eCall fn__law_named (aCons (eC (.str "elder")) aNil))) aNil))) ⟨[some scr, some (.int m), none, none, none, none], [x]⟩ = .ok el ⟨[some scr, some (.int m), none, none, none, none], [x]⟩ := by kernel_rfl
    refine wp_seq (wp_set (d := el) (e1 := ⟨[some scr, some (.int m), none, none, none, none], [x]⟩) h2 ?_)
    have gm := gdInt hma
    refine wp_seq (wp_forL (ds := [.int m, .int (0 - m), .tup [.int 1, .int 2], .tup [], .loc 1, .loc 2, .loc 3, .loc 4, .str "a b", .str "", .bl true, .non, .tup [.str "idle", .lst [.int 1]]])
      (e1 := ⟨[some scr, some (.int m), some el, none, none, none], [x, some (.olst [.int 1]), some (.olst []), some (.odic []), some (.odic [(.str "a", .lst [.int m])])]⟩) (by kernel_rfl) ?_)
    refine wp_forCons (body_ok (mu1 := [x, some (.olst [.int 1]), some (.olst []), some (.odic []), some (.odic [(.str "a", .lst [.int m])])]) (mu' := [x, some (.olst [.int 1]), some (.olst []), some (.odic []), some (.odic [(.str "a", .lst [.int m])])]) rfl rfl gm (by kernel_rfl) (by kernel_rfl) rfl gm ?_)
    refine wp_forCons (body_ok (mu1 := [x, some (.olst [.int 1]), some (.olst []), some (.odic []), some (.odic [(.str "a", .lst [.int m])])]) (mu' := [x, some (.olst [.int 1]), some (.olst []), some (.odic []), some (.odic [(.str "a", .lst [.int m])])]) rfl rfl (gdInt hmb) (by kernel_rfl) (by kernel_rfl) rfl (gdInt hmb) ?_)
    refine wp_forCons (body_ok (mu1 := [x, some (.olst [.int 1]), some (.olst []), some (.odic []), some (.odic [(.str "a", .lst [.int m])])]) (mu' := [x, some (.olst [.int 1]), some (.olst []), some (.odic []), some (.odic [(.str "a", .lst [.int m])])]) rfl rfl gd1 (by kernel_rfl) (by kernel_rfl) rfl gd1 ?_)
    refine wp_forCons (body_ok (mu1 := [x, some (.olst [.int 1]), some (.olst []), some (.odic []), some (.odic [(.str "a", .lst [.int m])])]) (mu' := [x, some (.olst [.int 1]), some (.olst []), some (.odic []), some (.odic [(.str "a", .lst [.int m])])]) rfl rfl gd2 (by kernel_rfl) (by kernel_rfl) rfl gd2 ?_)
    refine wp_forCons (body_ok (mu1 := [x, some (.olst [.int 1, .str "more"]), some (.olst []), some (.odic []), some (.odic [(.str "a", .lst [.int m])])]) (mu' := [x, some (.olst [.int 1, .str "more"]), some (.olst []), some (.odic []), some (.odic [(.str "a", .lst [.int m])])]) rfl rfl gd3 (by kernel_rfl) (by kernel_rfl) rfl gd4 ?_)
    refine wp_forCons (body_ok (mu1 := [x, some (.olst [.int 1, .str "more"]), some (.olst [.str "more"]), some (.odic []), some (.odic [(.str "a", .lst [.int m])])]) (mu' := [x, some (.olst [.int 1, .str "more"]), some (.olst [.str "more"]), some (.odic []), some (.odic [(.str "a", .lst [.int m])])]) rfl rfl gd5 (by kernel_rfl) (by kernel_rfl) rfl gd6 ?_)
    refine wp_forCons (body_ok (mu1 := [x, some (.olst [.int 1, .str "more"]), some (.olst [.str "more"]), some (.odic []), some (.odic [(.str "a", .lst [.int m])])]) (mu' := [x, some (.olst [.int 1, .str "more"]), some (.olst [.str "more"]), some (.odic [(.str "more", .lst [.int 1])]), some (.odic [(.str "a", .lst [.int m])])]) rfl rfl gd7 (by kernel_rfl) (by kernel_rfl) (by kernel_rfl) gd8 ?_)
    refine wp_forCons (body_ok (mu1 := [x, some (.olst [.int 1, .str "more"]), some (.olst [.str "more"]), some (.odic [(.str "more", .lst [.int 1])]), some (.odic [(.str "a", .lst [.int m])])]) (mu' := [x, some (.olst [.int 1, .str "more"]), some (.olst [.str "more"]), some (.odic [(.str "more", .lst [.int 1])]), some (.odic [(.str "a", .lst [.int m]), (.str "more", .lst [.int 1])])]) rfl (by kernel_rfl) (gdDict1 hma) (by kernel_rfl) (by kernel_rfl) (by kernel_rfl) (gdDict2 hma) ?_)
    refine wp_forCons (body_ok (mu1 := [x, some (.olst [.int 1, .str "more"]), some (.olst [.str "more"]), some (.odic [(.str "more", .lst [.int 1])]), some (.odic [(.str "a", .lst [.int m]), (.str "more", .lst [.int 1])])]) (mu' := [x, some (.olst [.int 1, .str "more"]), some (.olst [.str "more"]), some (.odic [(.str "more", .lst [.int 1])]), some (.odic [(.str "a", .lst [.int m]), (.str "more", .lst [.int 1])])]) rfl rfl gd9 (by kernel_rfl) (by kernel_rfl) rfl gd9 ?_)
    refine wp_forCons (body_ok (mu1 := [x, some (.olst [.int 1, .str "more"]), some (.olst [.str "more"]), some (.odic [(.str "more", .lst [.int 1])]), some (.odic [(.str "a", .lst [.int m]), (.str "more", .lst [.int 1])])]) (mu' := [x, some (.olst [.int 1, .str "more"]), some (.olst [.str "more"]), some (.odic [(.str "more", .lst [.int 1])]), some (.odic [(.str "a", .lst [.int m]), (.str "more", .lst [.int 1])])]) rfl rfl gd10 (by kernel_rfl) (by kernel_rfl) rfl gd10 ?_)
    refine wp_forCons (body_ok (mu1 := [x, some (.olst [.int 1, .str "more"]), some (.olst [.str "more"]), some (.odic [(.str "more", .lst [.int 1])]), some (.odic [(.str "a", .lst [.int m]), (.str "more", .lst [.int 1])])]) (mu' := [x, some (.olst [.int 1, .str "more"]), some (.olst [.str "more"]), some (.odic [(.str "more", .lst [.int 1])]), some (.odic [(.str "a", .lst [.int m]), (.str "more", .lst [.int 1])])]) rfl rfl gd11a (by kernel_rfl) (by kernel_rfl) rfl gd11a ?_)
    refine wp_forCons (body_ok (mu1 := [x, some (.olst [.int 1, .str "more"]), some (.olst [.str "more"]), some (.odic [(.str "more", .lst [.int 1])]), some (.odic [(.str "a", .lst [.int m]), (.str "more", .lst [.int 1])])]) (mu' := [x, some (.olst [.int 1, .str "more"]), some (.olst [.str "more"]), some (.odic [(.str "more", .lst [.int 1])]), some (.odic [(.str "a", .lst [.int m]), (.str "more", .lst [.int 1])])]) rfl rfl gd12 (by kernel_rfl) (by kernel_rfl) rfl gd12 ?_)
    refine wp_forCons (body_ok (mu1 := [x, some (.olst [.int 1, .str "more"]), some (.olst [.str "more"]), some (.odic [(.str "more", .lst [.int 1])]), some (.odic [(.str "a", .lst [.int m]), (.str "more", .lst [.int 1])])]) (mu' := [x, some (.olst [.int 1, .str "more"]), some (.olst [.str "more"]), some (.odic [(.str "more", .lst [.int 1])]), some (.odic [(.str "a", .lst [.int m]), (.str "more", .lst [.int 1])])]) rfl rfl gd13 (by kernel_rfl) (by kernel_rfl) rfl gd13 ?_)
    refine wp_forNil ?_
    refine wp_seq (wp_if (k := false) (tOr_f (rightE (d := .int m) rfl rfl gm (by kernel_rfl) rfl) (tOr_f (rightE (d := .str "elder") rfl rfl gd14 (by kernel_rfl) rfl) (rightE (d := .non) rfl rfl gd12 (by kernel_rfl) rfl))) (fun h => by cases h) fun _ => wp_next ?_)
    exact wp_retS (d := .bl true) (by kernel_rfl) rfl
  obtain ⟨r, mu, h, rfl⟩ := key
  exact ⟨mu, h⟩
end Vm

set_option maxHeartbeats 0

namespace Hd
open PySem PySem.Spec PyProof.Rows L2
def cls (K : PySem.W.Frag) : Nat → Addr
  | 0 => He.ga K "InvalidList"
  | 1 => He.ga K "InvalidItem"
  | 2 => He.ga K "InvalidBook"
  | 3 => He.ga K "InvalidLot"
  | 4 => He.ga K "InvalidRun"
  | 5 => He.ga K "InvalidGoal"
  | 6 => He.ga K "InvalidNumber"
  | 7 => He.ga K "InvalidText"
  | 8 => He.ga K "InvalidName"
  | 9 => He.ga K "TakenName"
  | 10 => He.ga K "UnknownName"
  | 11 => He.ga K "NothingToUndo"
  | _ => He.ga K "HushError"
def flds : Nat → List Str
  | 0 => ["value"]
  | 1 => ["value"]
  | 2 => ["value"]
  | 3 => ["value"]
  | 4 => ["value"]
  | 5 => ["value"]
  | 6 => ["value"]
  | 7 => ["value"]
  | 8 => ["name"]
  | 9 => ["name"]
  | 10 => ["name"]
  | 11 => []
  | _ => []
theorem xs0 : VmH.XSN x0 := ⟨⟨⟨_, _, _, _, _, _, _, _, _, _, rfl, ⟨_, fun _ => rfl⟩, fun _ => rfl, fun _ => rfl⟩, ⟨_, rfl, rfl⟩, NdefX.nscope_by (by decide +kernel), rfl, rfl, rfl, fun _ _ _ _ _ _ _ _ _ _ us its h1 h2 => match us, its, h1, h2 with | [_, _], ⟨[_]⟩, _, _ => ⟨_, rfl, rfl⟩⟩, fun _ _ _ _ _ _ _ _ _ _ _ _ => ⟨_, rfl, rfl⟩, fun _ _ _ _ _ _ _ _ _ _ _ => ⟨_, rfl, rfl⟩⟩
theorem xs1 : VmH.XSN x1 := ⟨⟨⟨_, _, _, _, _, _, _, _, _, _, rfl, ⟨_, fun _ => rfl⟩, fun _ => rfl, fun _ => rfl⟩, ⟨_, rfl, rfl⟩, NdefX.nscope_by (by decide +kernel), rfl, rfl, rfl, fun _ _ _ _ _ _ _ _ _ _ us its h1 h2 => match us, its, h1, h2 with | [_, _], ⟨[_]⟩, _, _ => ⟨_, rfl, rfl⟩⟩, fun _ _ _ _ _ _ _ _ _ _ _ _ => ⟨_, rfl, rfl⟩, fun _ _ _ _ _ _ _ _ _ _ _ => ⟨_, rfl, rfl⟩⟩
theorem xs2 : VmH.XSN x2 := ⟨⟨⟨_, _, _, _, _, _, _, _, _, _, rfl, ⟨_, fun _ => rfl⟩, fun _ => rfl, fun _ => rfl⟩, ⟨_, rfl, rfl⟩, NdefX.nscope_by (by decide +kernel), rfl, rfl, rfl, fun _ _ _ _ _ _ _ _ _ _ us its h1 h2 => match us, its, h1, h2 with | [_, _], ⟨[_]⟩, _, _ => ⟨_, rfl, rfl⟩⟩, fun _ _ _ _ _ _ _ _ _ _ _ _ => ⟨_, rfl, rfl⟩, fun _ _ _ _ _ _ _ _ _ _ _ => ⟨_, rfl, rfl⟩⟩
theorem xs3 : VmH.XSN x3 := ⟨⟨⟨_, _, _, _, _, _, _, _, _, _, rfl, ⟨_, fun _ => rfl⟩, fun _ => rfl, fun _ => rfl⟩, ⟨_, rfl, rfl⟩, NdefX.nscope_by (by decide +kernel), rfl, rfl, rfl, fun _ _ _ _ _ _ _ _ _ _ us its h1 h2 => match us, its, h1, h2 with | [_, _], ⟨[_]⟩, _, _ => ⟨_, rfl, rfl⟩⟩, fun _ _ _ _ _ _ _ _ _ _ _ _ => ⟨_, rfl, rfl⟩, fun _ _ _ _ _ _ _ _ _ _ _ => ⟨_, rfl, rfl⟩⟩
theorem xs4 : VmH.XSN x4 := ⟨⟨⟨_, _, _, _, _, _, _, _, _, _, rfl, ⟨_, fun _ => rfl⟩, fun _ => rfl, fun _ => rfl⟩, ⟨_, rfl, rfl⟩, NdefX.nscope_by (by decide +kernel), rfl, rfl, rfl, fun _ _ _ _ _ _ _ _ _ _ us its h1 h2 => match us, its, h1, h2 with | [_, _], ⟨[_]⟩, _, _ => ⟨_, rfl, rfl⟩⟩, fun _ _ _ _ _ _ _ _ _ _ _ _ => ⟨_, rfl, rfl⟩, fun _ _ _ _ _ _ _ _ _ _ _ => ⟨_, rfl, rfl⟩⟩
theorem xs5 : VmH.XSN x5 := ⟨⟨⟨_, _, _, _, _, _, _, _, _, _, rfl, ⟨_, fun _ => rfl⟩, fun _ => rfl, fun _ => rfl⟩, ⟨_, rfl, rfl⟩, NdefX.nscope_by (by decide +kernel), rfl, rfl, rfl, fun _ _ _ _ _ _ _ _ _ _ us its h1 h2 => match us, its, h1, h2 with | [_, _], ⟨[_]⟩, _, _ => ⟨_, rfl, rfl⟩⟩, fun _ _ _ _ _ _ _ _ _ _ _ _ => ⟨_, rfl, rfl⟩, fun _ _ _ _ _ _ _ _ _ _ _ => ⟨_, rfl, rfl⟩⟩
theorem xs6 : VmH.XSN x6 := ⟨⟨⟨_, _, _, _, _, _, _, _, _, _, rfl, ⟨_, fun _ => rfl⟩, fun _ => rfl, fun _ => rfl⟩, ⟨_, rfl, rfl⟩, NdefX.nscope_by (by decide +kernel), rfl, rfl, rfl, fun _ _ _ _ _ _ _ _ _ _ us its h1 h2 => match us, its, h1, h2 with | [_, _], ⟨[_]⟩, _, _ => ⟨_, rfl, rfl⟩⟩, fun _ _ _ _ _ _ _ _ _ _ _ _ => ⟨_, rfl, rfl⟩, fun _ _ _ _ _ _ _ _ _ _ _ => ⟨_, rfl, rfl⟩⟩
theorem xs7 : VmH.XSN x7 := ⟨⟨⟨_, _, _, _, _, _, _, _, _, _, rfl, ⟨_, fun _ => rfl⟩, fun _ => rfl, fun _ => rfl⟩, ⟨_, rfl, rfl⟩, NdefX.nscope_by (by decide +kernel), rfl, rfl, rfl, fun _ _ _ _ _ _ _ _ _ _ us its h1 h2 => match us, its, h1, h2 with | [_, _], ⟨[_]⟩, _, _ => ⟨_, rfl, rfl⟩⟩, fun _ _ _ _ _ _ _ _ _ _ _ _ => ⟨_, rfl, rfl⟩, fun _ _ _ _ _ _ _ _ _ _ _ => ⟨_, rfl, rfl⟩⟩
theorem xs8 : VmH.XSN x8 := ⟨⟨⟨_, _, _, _, _, _, _, _, _, _, rfl, ⟨_, fun _ => rfl⟩, fun _ => rfl, fun _ => rfl⟩, ⟨_, rfl, rfl⟩, NdefX.nscope_by (by decide +kernel), rfl, rfl, rfl, fun _ _ _ _ _ _ _ _ _ _ us its h1 h2 => match us, its, h1, h2 with | [_, _], ⟨[_]⟩, _, _ => ⟨_, rfl, rfl⟩⟩, fun _ _ _ _ _ _ _ _ _ _ _ _ => ⟨_, rfl, rfl⟩, fun _ _ _ _ _ _ _ _ _ _ _ => ⟨_, rfl, rfl⟩⟩
theorem xs9 : VmH.XSN x9 := ⟨⟨⟨_, _, _, _, _, _, _, _, _, _, rfl, ⟨_, fun _ => rfl⟩, fun _ => rfl, fun _ => rfl⟩, ⟨_, rfl, rfl⟩, NdefX.nscope_by (by decide +kernel), rfl, rfl, rfl, fun _ _ _ _ _ _ _ _ _ _ us its h1 h2 => match us, its, h1, h2 with | [_, _], ⟨[_]⟩, _, _ => ⟨_, rfl, rfl⟩⟩, fun _ _ _ _ _ _ _ _ _ _ _ _ => ⟨_, rfl, rfl⟩, fun _ _ _ _ _ _ _ _ _ _ _ => ⟨_, rfl, rfl⟩⟩
theorem xs10 : VmH.XSN x10 := ⟨⟨⟨_, _, _, _, _, _, _, _, _, _, rfl, ⟨_, fun _ => rfl⟩, fun _ => rfl, fun _ => rfl⟩, ⟨_, rfl, rfl⟩, NdefX.nscope_by (by decide +kernel), rfl, rfl, rfl, fun _ _ _ _ _ _ _ _ _ _ us its h1 h2 => match us, its, h1, h2 with | [_, _], ⟨[_]⟩, _, _ => ⟨_, rfl, rfl⟩⟩, fun _ _ _ _ _ _ _ _ _ _ _ _ => ⟨_, rfl, rfl⟩, fun _ _ _ _ _ _ _ _ _ _ _ => ⟨_, rfl, rfl⟩⟩
theorem gf {P : Program} {w : World} {K : PySem.W.Frag} {h base : Heap} {mg : Str → Option Value} (X : K.In h) (G : h.Ns mainGlobals mg) (hP : ((P.main.file : Str) == ("/claim/cut.py" : Str)) = true) (top : (P.main.scope.names.lookup ("super" : Str)).isSome = false) (c : VmH.SaysX "/claim/cut.py" fa fn cs xs ns K) (cg : VmH.gB xs ps qs K = true) : Vm.Gf P w K mg base (cls K) flds where
  f_ValueError := He.free_ok X G (c.1.1.fact 10 (f := .free "ValueError") rfl)
  f_dict := He.free_ok X G (c.1.1.fact 11 (f := .free "dict") rfl)
  f_int := He.free_ok X G (c.1.1.fact 12 (f := .free "int") rfl)
  f_isinstance := He.free_ok X G (c.1.1.fact 13 (f := .free "isinstance") rfl)
  f_len := He.free_ok X G (c.1.1.fact 14 (f := .free "len") rfl)
  f_list := He.free_ok X G (c.1.1.fact 15 (f := .free "list") rfl)
  f_max := He.free_ok X G (c.1.1.fact 16 (f := .free "max") rfl)
  f_range := He.free_ok X G (c.1.1.fact 17 (f := .free "range") rfl)
  f_repr := He.free_ok X G (c.1.1.fact 18 (f := .free "repr") rfl)
  x0_HushError := VmH.cf_exn (VmH.gB_ps cg) (x := "HushError") (by simp [ps])
  g_HushError := He.glo_ok X G (c.1.1.fact 31 (f := .glo "HushError") rfl)
  x0_NothingToUndo := VmH.cf_exn (VmH.gB_ps cg) (x := "NothingToUndo") (by simp [ps])
  g_NothingToUndo := He.glo_ok X G (c.1.1.fact 30 (f := .glo "NothingToUndo") rfl)
  g_InvalidList := He.glo_ok X G (c.1.1.fact 19 (f := .glo "InvalidList") rfl)
  xl_InvalidList := rfl
  xk_InvalidList := VmH.exMN_of (c.at_ 0 (d := x0)).2 (c.at_ 0 (d := x0)).1 (VmH.gB_df cg 0 (d := x0)) xs0 hP top (He.free_ok X G (c.1.1.fact 32 (f := .free "super") rfl))
  xi_InvalidList := fun _ => ⟨(VmH.xfacts (c.at_ 0 (d := x0)).1).nc, by
    intro e h
    simp only [List.mem_cons, List.not_mem_nil, or_false] at h
    rcases h with rfl | rfl | rfl | rfl | rfl | rfl | rfl | rfl | rfl | rfl | rfl | rfl
    · exact ⟨(VmH.xfacts (c.at_ 0 (d := x0)).1).ec, ((VmH.xfacts (c.at_ 0 (d := x0)).1).ki x0 (List.mem_of_getElem? (i := 0) rfl)).trans (by decide +kernel)⟩
    · exact ⟨(VmH.xfacts (c.at_ 1 (d := x1)).1).ec, ((VmH.xfacts (c.at_ 0 (d := x0)).1).ki x1 (List.mem_of_getElem? (i := 1) rfl)).trans (by decide +kernel)⟩
    · exact ⟨(VmH.xfacts (c.at_ 2 (d := x2)).1).ec, ((VmH.xfacts (c.at_ 0 (d := x0)).1).ki x2 (List.mem_of_getElem? (i := 2) rfl)).trans (by decide +kernel)⟩
    · exact ⟨(VmH.xfacts (c.at_ 3 (d := x3)).1).ec, ((VmH.xfacts (c.at_ 0 (d := x0)).1).ki x3 (List.mem_of_getElem? (i := 3) rfl)).trans (by decide +kernel)⟩
    · exact ⟨(VmH.xfacts (c.at_ 4 (d := x4)).1).ec, ((VmH.xfacts (c.at_ 0 (d := x0)).1).ki x4 (List.mem_of_getElem? (i := 4) rfl)).trans (by decide +kernel)⟩
    · exact ⟨(VmH.xfacts (c.at_ 5 (d := x5)).1).ec, ((VmH.xfacts (c.at_ 0 (d := x0)).1).ki x5 (List.mem_of_getElem? (i := 5) rfl)).trans (by decide +kernel)⟩
    · exact ⟨(VmH.xfacts (c.at_ 6 (d := x6)).1).ec, ((VmH.xfacts (c.at_ 0 (d := x0)).1).ki x6 (List.mem_of_getElem? (i := 6) rfl)).trans (by decide +kernel)⟩
    · exact ⟨(VmH.xfacts (c.at_ 7 (d := x7)).1).ec, ((VmH.xfacts (c.at_ 0 (d := x0)).1).ki x7 (List.mem_of_getElem? (i := 7) rfl)).trans (by decide +kernel)⟩
    · exact ⟨(VmH.xfacts (c.at_ 8 (d := x8)).1).ec, ((VmH.xfacts (c.at_ 0 (d := x0)).1).ki x8 (List.mem_of_getElem? (i := 8) rfl)).trans (by decide +kernel)⟩
    · exact ⟨(VmH.xfacts (c.at_ 9 (d := x9)).1).ec, ((VmH.xfacts (c.at_ 0 (d := x0)).1).ki x9 (List.mem_of_getElem? (i := 9) rfl)).trans (by decide +kernel)⟩
    · exact ⟨(VmH.xfacts (c.at_ 10 (d := x10)).1).ec, ((VmH.xfacts (c.at_ 0 (d := x0)).1).ki x10 (List.mem_of_getElem? (i := 10) rfl)).trans (by decide +kernel)⟩
    · exact ⟨(VmH.cf_exz (VmH.gB_ps cg) (x := "NothingToUndo") (by simp [ps])).ec, (VmH.cf_kto (VmH.gB_ps cg) (d := "NothingToUndo") (c := "InvalidList") (r := false) (by simp [ps])).trans (by decide +kernel)⟩⟩
  g_InvalidItem := He.glo_ok X G (c.1.1.fact 20 (f := .glo "InvalidItem") rfl)
  xl_InvalidItem := rfl
  xk_InvalidItem := VmH.exMN_of (c.at_ 1 (d := x1)).2 (c.at_ 1 (d := x1)).1 (VmH.gB_df cg 1 (d := x1)) xs1 hP top (He.free_ok X G (c.1.1.fact 32 (f := .free "super") rfl))
  xi_InvalidItem := fun _ => ⟨(VmH.xfacts (c.at_ 1 (d := x1)).1).nc, by
    intro e h
    simp only [List.mem_cons, List.not_mem_nil, or_false] at h
    rcases h with rfl | rfl | rfl | rfl | rfl | rfl | rfl | rfl | rfl | rfl | rfl | rfl
    · exact ⟨(VmH.xfacts (c.at_ 0 (d := x0)).1).ec, ((VmH.xfacts (c.at_ 1 (d := x1)).1).ki x0 (List.mem_of_getElem? (i := 0) rfl)).trans (by decide +kernel)⟩
    · exact ⟨(VmH.xfacts (c.at_ 1 (d := x1)).1).ec, ((VmH.xfacts (c.at_ 1 (d := x1)).1).ki x1 (List.mem_of_getElem? (i := 1) rfl)).trans (by decide +kernel)⟩
    · exact ⟨(VmH.xfacts (c.at_ 2 (d := x2)).1).ec, ((VmH.xfacts (c.at_ 1 (d := x1)).1).ki x2 (List.mem_of_getElem? (i := 2) rfl)).trans (by decide +kernel)⟩
    · exact ⟨(VmH.xfacts (c.at_ 3 (d := x3)).1).ec, ((VmH.xfacts (c.at_ 1 (d := x1)).1).ki x3 (List.mem_of_getElem? (i := 3) rfl)).trans (by decide +kernel)⟩
    · exact ⟨(VmH.xfacts (c.at_ 4 (d := x4)).1).ec, ((VmH.xfacts (c.at_ 1 (d := x1)).1).ki x4 (List.mem_of_getElem? (i := 4) rfl)).trans (by decide +kernel)⟩
    · exact ⟨(VmH.xfacts (c.at_ 5 (d := x5)).1).ec, ((VmH.xfacts (c.at_ 1 (d := x1)).1).ki x5 (List.mem_of_getElem? (i := 5) rfl)).trans (by decide +kernel)⟩
    · exact ⟨(VmH.xfacts (c.at_ 6 (d := x6)).1).ec, ((VmH.xfacts (c.at_ 1 (d := x1)).1).ki x6 (List.mem_of_getElem? (i := 6) rfl)).trans (by decide +kernel)⟩
    · exact ⟨(VmH.xfacts (c.at_ 7 (d := x7)).1).ec, ((VmH.xfacts (c.at_ 1 (d := x1)).1).ki x7 (List.mem_of_getElem? (i := 7) rfl)).trans (by decide +kernel)⟩
    · exact ⟨(VmH.xfacts (c.at_ 8 (d := x8)).1).ec, ((VmH.xfacts (c.at_ 1 (d := x1)).1).ki x8 (List.mem_of_getElem? (i := 8) rfl)).trans (by decide +kernel)⟩
    · exact ⟨(VmH.xfacts (c.at_ 9 (d := x9)).1).ec, ((VmH.xfacts (c.at_ 1 (d := x1)).1).ki x9 (List.mem_of_getElem? (i := 9) rfl)).trans (by decide +kernel)⟩
    · exact ⟨(VmH.xfacts (c.at_ 10 (d := x10)).1).ec, ((VmH.xfacts (c.at_ 1 (d := x1)).1).ki x10 (List.mem_of_getElem? (i := 10) rfl)).trans (by decide +kernel)⟩
    · exact ⟨(VmH.cf_exz (VmH.gB_ps cg) (x := "NothingToUndo") (by simp [ps])).ec, (VmH.cf_kto (VmH.gB_ps cg) (d := "NothingToUndo") (c := "InvalidItem") (r := false) (by simp [ps])).trans (by decide +kernel)⟩⟩
  g_InvalidBook := He.glo_ok X G (c.1.1.fact 21 (f := .glo "InvalidBook") rfl)
  xl_InvalidBook := rfl
  xk_InvalidBook := VmH.exMN_of (c.at_ 2 (d := x2)).2 (c.at_ 2 (d := x2)).1 (VmH.gB_df cg 2 (d := x2)) xs2 hP top (He.free_ok X G (c.1.1.fact 32 (f := .free "super") rfl))
  xi_InvalidBook := fun _ => ⟨(VmH.xfacts (c.at_ 2 (d := x2)).1).nc, by
    intro e h
    simp only [List.mem_cons, List.not_mem_nil, or_false] at h
    rcases h with rfl | rfl | rfl | rfl | rfl | rfl | rfl | rfl | rfl | rfl | rfl | rfl
    · exact ⟨(VmH.xfacts (c.at_ 0 (d := x0)).1).ec, ((VmH.xfacts (c.at_ 2 (d := x2)).1).ki x0 (List.mem_of_getElem? (i := 0) rfl)).trans (by decide +kernel)⟩
    · exact ⟨(VmH.xfacts (c.at_ 1 (d := x1)).1).ec, ((VmH.xfacts (c.at_ 2 (d := x2)).1).ki x1 (List.mem_of_getElem? (i := 1) rfl)).trans (by decide +kernel)⟩
    · exact ⟨(VmH.xfacts (c.at_ 2 (d := x2)).1).ec, ((VmH.xfacts (c.at_ 2 (d := x2)).1).ki x2 (List.mem_of_getElem? (i := 2) rfl)).trans (by decide +kernel)⟩
    · exact ⟨(VmH.xfacts (c.at_ 3 (d := x3)).1).ec, ((VmH.xfacts (c.at_ 2 (d := x2)).1).ki x3 (List.mem_of_getElem? (i := 3) rfl)).trans (by decide +kernel)⟩
    · exact ⟨(VmH.xfacts (c.at_ 4 (d := x4)).1).ec, ((VmH.xfacts (c.at_ 2 (d := x2)).1).ki x4 (List.mem_of_getElem? (i := 4) rfl)).trans (by decide +kernel)⟩
    · exact ⟨(VmH.xfacts (c.at_ 5 (d := x5)).1).ec, ((VmH.xfacts (c.at_ 2 (d := x2)).1).ki x5 (List.mem_of_getElem? (i := 5) rfl)).trans (by decide +kernel)⟩
    · exact ⟨(VmH.xfacts (c.at_ 6 (d := x6)).1).ec, ((VmH.xfacts (c.at_ 2 (d := x2)).1).ki x6 (List.mem_of_getElem? (i := 6) rfl)).trans (by decide +kernel)⟩
    · exact ⟨(VmH.xfacts (c.at_ 7 (d := x7)).1).ec, ((VmH.xfacts (c.at_ 2 (d := x2)).1).ki x7 (List.mem_of_getElem? (i := 7) rfl)).trans (by decide +kernel)⟩
    · exact ⟨(VmH.xfacts (c.at_ 8 (d := x8)).1).ec, ((VmH.xfacts (c.at_ 2 (d := x2)).1).ki x8 (List.mem_of_getElem? (i := 8) rfl)).trans (by decide +kernel)⟩
    · exact ⟨(VmH.xfacts (c.at_ 9 (d := x9)).1).ec, ((VmH.xfacts (c.at_ 2 (d := x2)).1).ki x9 (List.mem_of_getElem? (i := 9) rfl)).trans (by decide +kernel)⟩
    · exact ⟨(VmH.xfacts (c.at_ 10 (d := x10)).1).ec, ((VmH.xfacts (c.at_ 2 (d := x2)).1).ki x10 (List.mem_of_getElem? (i := 10) rfl)).trans (by decide +kernel)⟩
    · exact ⟨(VmH.cf_exz (VmH.gB_ps cg) (x := "NothingToUndo") (by simp [ps])).ec, (VmH.cf_kto (VmH.gB_ps cg) (d := "NothingToUndo") (c := "InvalidBook") (r := false) (by simp [ps])).trans (by decide +kernel)⟩⟩
  g_InvalidLot := He.glo_ok X G (c.1.1.fact 22 (f := .glo "InvalidLot") rfl)
  xl_InvalidLot := rfl
  xk_InvalidLot := VmH.exMN_of (c.at_ 3 (d := x3)).2 (c.at_ 3 (d := x3)).1 (VmH.gB_df cg 3 (d := x3)) xs3 hP top (He.free_ok X G (c.1.1.fact 32 (f := .free "super") rfl))
  xi_InvalidLot := fun _ => ⟨(VmH.xfacts (c.at_ 3 (d := x3)).1).nc, by
    intro e h
    simp only [List.mem_cons, List.not_mem_nil, or_false] at h
    rcases h with rfl | rfl | rfl | rfl | rfl | rfl | rfl | rfl | rfl | rfl | rfl | rfl
    · exact ⟨(VmH.xfacts (c.at_ 0 (d := x0)).1).ec, ((VmH.xfacts (c.at_ 3 (d := x3)).1).ki x0 (List.mem_of_getElem? (i := 0) rfl)).trans (by decide +kernel)⟩
    · exact ⟨(VmH.xfacts (c.at_ 1 (d := x1)).1).ec, ((VmH.xfacts (c.at_ 3 (d := x3)).1).ki x1 (List.mem_of_getElem? (i := 1) rfl)).trans (by decide +kernel)⟩
    · exact ⟨(VmH.xfacts (c.at_ 2 (d := x2)).1).ec, ((VmH.xfacts (c.at_ 3 (d := x3)).1).ki x2 (List.mem_of_getElem? (i := 2) rfl)).trans (by decide +kernel)⟩
    · exact ⟨(VmH.xfacts (c.at_ 3 (d := x3)).1).ec, ((VmH.xfacts (c.at_ 3 (d := x3)).1).ki x3 (List.mem_of_getElem? (i := 3) rfl)).trans (by decide +kernel)⟩
    · exact ⟨(VmH.xfacts (c.at_ 4 (d := x4)).1).ec, ((VmH.xfacts (c.at_ 3 (d := x3)).1).ki x4 (List.mem_of_getElem? (i := 4) rfl)).trans (by decide +kernel)⟩
    · exact ⟨(VmH.xfacts (c.at_ 5 (d := x5)).1).ec, ((VmH.xfacts (c.at_ 3 (d := x3)).1).ki x5 (List.mem_of_getElem? (i := 5) rfl)).trans (by decide +kernel)⟩
    · exact ⟨(VmH.xfacts (c.at_ 6 (d := x6)).1).ec, ((VmH.xfacts (c.at_ 3 (d := x3)).1).ki x6 (List.mem_of_getElem? (i := 6) rfl)).trans (by decide +kernel)⟩
    · exact ⟨(VmH.xfacts (c.at_ 7 (d := x7)).1).ec, ((VmH.xfacts (c.at_ 3 (d := x3)).1).ki x7 (List.mem_of_getElem? (i := 7) rfl)).trans (by decide +kernel)⟩
    · exact ⟨(VmH.xfacts (c.at_ 8 (d := x8)).1).ec, ((VmH.xfacts (c.at_ 3 (d := x3)).1).ki x8 (List.mem_of_getElem? (i := 8) rfl)).trans (by decide +kernel)⟩
    · exact ⟨(VmH.xfacts (c.at_ 9 (d := x9)).1).ec, ((VmH.xfacts (c.at_ 3 (d := x3)).1).ki x9 (List.mem_of_getElem? (i := 9) rfl)).trans (by decide +kernel)⟩
    · exact ⟨(VmH.xfacts (c.at_ 10 (d := x10)).1).ec, ((VmH.xfacts (c.at_ 3 (d := x3)).1).ki x10 (List.mem_of_getElem? (i := 10) rfl)).trans (by decide +kernel)⟩
    · exact ⟨(VmH.cf_exz (VmH.gB_ps cg) (x := "NothingToUndo") (by simp [ps])).ec, (VmH.cf_kto (VmH.gB_ps cg) (d := "NothingToUndo") (c := "InvalidLot") (r := false) (by simp [ps])).trans (by decide +kernel)⟩⟩
  g_InvalidRun := He.glo_ok X G (c.1.1.fact 23 (f := .glo "InvalidRun") rfl)
  xl_InvalidRun := rfl
  xk_InvalidRun := VmH.exMN_of (c.at_ 4 (d := x4)).2 (c.at_ 4 (d := x4)).1 (VmH.gB_df cg 4 (d := x4)) xs4 hP top (He.free_ok X G (c.1.1.fact 32 (f := .free "super") rfl))
  xi_InvalidRun := fun _ => ⟨(VmH.xfacts (c.at_ 4 (d := x4)).1).nc, by
    intro e h
    simp only [List.mem_cons, List.not_mem_nil, or_false] at h
    rcases h with rfl | rfl | rfl | rfl | rfl | rfl | rfl | rfl | rfl | rfl | rfl | rfl
    · exact ⟨(VmH.xfacts (c.at_ 0 (d := x0)).1).ec, ((VmH.xfacts (c.at_ 4 (d := x4)).1).ki x0 (List.mem_of_getElem? (i := 0) rfl)).trans (by decide +kernel)⟩
    · exact ⟨(VmH.xfacts (c.at_ 1 (d := x1)).1).ec, ((VmH.xfacts (c.at_ 4 (d := x4)).1).ki x1 (List.mem_of_getElem? (i := 1) rfl)).trans (by decide +kernel)⟩
    · exact ⟨(VmH.xfacts (c.at_ 2 (d := x2)).1).ec, ((VmH.xfacts (c.at_ 4 (d := x4)).1).ki x2 (List.mem_of_getElem? (i := 2) rfl)).trans (by decide +kernel)⟩
    · exact ⟨(VmH.xfacts (c.at_ 3 (d := x3)).1).ec, ((VmH.xfacts (c.at_ 4 (d := x4)).1).ki x3 (List.mem_of_getElem? (i := 3) rfl)).trans (by decide +kernel)⟩
    · exact ⟨(VmH.xfacts (c.at_ 4 (d := x4)).1).ec, ((VmH.xfacts (c.at_ 4 (d := x4)).1).ki x4 (List.mem_of_getElem? (i := 4) rfl)).trans (by decide +kernel)⟩
    · exact ⟨(VmH.xfacts (c.at_ 5 (d := x5)).1).ec, ((VmH.xfacts (c.at_ 4 (d := x4)).1).ki x5 (List.mem_of_getElem? (i := 5) rfl)).trans (by decide +kernel)⟩
    · exact ⟨(VmH.xfacts (c.at_ 6 (d := x6)).1).ec, ((VmH.xfacts (c.at_ 4 (d := x4)).1).ki x6 (List.mem_of_getElem? (i := 6) rfl)).trans (by decide +kernel)⟩
    · exact ⟨(VmH.xfacts (c.at_ 7 (d := x7)).1).ec, ((VmH.xfacts (c.at_ 4 (d := x4)).1).ki x7 (List.mem_of_getElem? (i := 7) rfl)).trans (by decide +kernel)⟩
    · exact ⟨(VmH.xfacts (c.at_ 8 (d := x8)).1).ec, ((VmH.xfacts (c.at_ 4 (d := x4)).1).ki x8 (List.mem_of_getElem? (i := 8) rfl)).trans (by decide +kernel)⟩
    · exact ⟨(VmH.xfacts (c.at_ 9 (d := x9)).1).ec, ((VmH.xfacts (c.at_ 4 (d := x4)).1).ki x9 (List.mem_of_getElem? (i := 9) rfl)).trans (by decide +kernel)⟩
    · exact ⟨(VmH.xfacts (c.at_ 10 (d := x10)).1).ec, ((VmH.xfacts (c.at_ 4 (d := x4)).1).ki x10 (List.mem_of_getElem? (i := 10) rfl)).trans (by decide +kernel)⟩
    · exact ⟨(VmH.cf_exz (VmH.gB_ps cg) (x := "NothingToUndo") (by simp [ps])).ec, (VmH.cf_kto (VmH.gB_ps cg) (d := "NothingToUndo") (c := "InvalidRun") (r := false) (by simp [ps])).trans (by decide +kernel)⟩⟩
  g_InvalidGoal := He.glo_ok X G (c.1.1.fact 24 (f := .glo "InvalidGoal") rfl)
  xl_InvalidGoal := rfl
  xk_InvalidGoal := VmH.exMN_of (c.at_ 5 (d := x5)).2 (c.at_ 5 (d := x5)).1 (VmH.gB_df cg 5 (d := x5)) xs5 hP top (He.free_ok X G (c.1.1.fact 32 (f := .free "super") rfl))
  xi_InvalidGoal := fun _ => ⟨(VmH.xfacts (c.at_ 5 (d := x5)).1).nc, by
    intro e h
    simp only [List.mem_cons, List.not_mem_nil, or_false] at h
    rcases h with rfl | rfl | rfl | rfl | rfl | rfl | rfl | rfl | rfl | rfl | rfl | rfl
    · exact ⟨(VmH.xfacts (c.at_ 0 (d := x0)).1).ec, ((VmH.xfacts (c.at_ 5 (d := x5)).1).ki x0 (List.mem_of_getElem? (i := 0) rfl)).trans (by decide +kernel)⟩
    · exact ⟨(VmH.xfacts (c.at_ 1 (d := x1)).1).ec, ((VmH.xfacts (c.at_ 5 (d := x5)).1).ki x1 (List.mem_of_getElem? (i := 1) rfl)).trans (by decide +kernel)⟩
    · exact ⟨(VmH.xfacts (c.at_ 2 (d := x2)).1).ec, ((VmH.xfacts (c.at_ 5 (d := x5)).1).ki x2 (List.mem_of_getElem? (i := 2) rfl)).trans (by decide +kernel)⟩
    · exact ⟨(VmH.xfacts (c.at_ 3 (d := x3)).1).ec, ((VmH.xfacts (c.at_ 5 (d := x5)).1).ki x3 (List.mem_of_getElem? (i := 3) rfl)).trans (by decide +kernel)⟩
    · exact ⟨(VmH.xfacts (c.at_ 4 (d := x4)).1).ec, ((VmH.xfacts (c.at_ 5 (d := x5)).1).ki x4 (List.mem_of_getElem? (i := 4) rfl)).trans (by decide +kernel)⟩
    · exact ⟨(VmH.xfacts (c.at_ 5 (d := x5)).1).ec, ((VmH.xfacts (c.at_ 5 (d := x5)).1).ki x5 (List.mem_of_getElem? (i := 5) rfl)).trans (by decide +kernel)⟩
    · exact ⟨(VmH.xfacts (c.at_ 6 (d := x6)).1).ec, ((VmH.xfacts (c.at_ 5 (d := x5)).1).ki x6 (List.mem_of_getElem? (i := 6) rfl)).trans (by decide +kernel)⟩
    · exact ⟨(VmH.xfacts (c.at_ 7 (d := x7)).1).ec, ((VmH.xfacts (c.at_ 5 (d := x5)).1).ki x7 (List.mem_of_getElem? (i := 7) rfl)).trans (by decide +kernel)⟩
    · exact ⟨(VmH.xfacts (c.at_ 8 (d := x8)).1).ec, ((VmH.xfacts (c.at_ 5 (d := x5)).1).ki x8 (List.mem_of_getElem? (i := 8) rfl)).trans (by decide +kernel)⟩
    · exact ⟨(VmH.xfacts (c.at_ 9 (d := x9)).1).ec, ((VmH.xfacts (c.at_ 5 (d := x5)).1).ki x9 (List.mem_of_getElem? (i := 9) rfl)).trans (by decide +kernel)⟩
    · exact ⟨(VmH.xfacts (c.at_ 10 (d := x10)).1).ec, ((VmH.xfacts (c.at_ 5 (d := x5)).1).ki x10 (List.mem_of_getElem? (i := 10) rfl)).trans (by decide +kernel)⟩
    · exact ⟨(VmH.cf_exz (VmH.gB_ps cg) (x := "NothingToUndo") (by simp [ps])).ec, (VmH.cf_kto (VmH.gB_ps cg) (d := "NothingToUndo") (c := "InvalidGoal") (r := false) (by simp [ps])).trans (by decide +kernel)⟩⟩
  g_InvalidNumber := He.glo_ok X G (c.1.1.fact 25 (f := .glo "InvalidNumber") rfl)
  xl_InvalidNumber := rfl
  xk_InvalidNumber := VmH.exMN_of (c.at_ 6 (d := x6)).2 (c.at_ 6 (d := x6)).1 (VmH.gB_df cg 6 (d := x6)) xs6 hP top (He.free_ok X G (c.1.1.fact 32 (f := .free "super") rfl))
  xi_InvalidNumber := fun _ => ⟨(VmH.xfacts (c.at_ 6 (d := x6)).1).nc, by
    intro e h
    simp only [List.mem_cons, List.not_mem_nil, or_false] at h
    rcases h with rfl | rfl | rfl | rfl | rfl | rfl | rfl | rfl | rfl | rfl | rfl | rfl
    · exact ⟨(VmH.xfacts (c.at_ 0 (d := x0)).1).ec, ((VmH.xfacts (c.at_ 6 (d := x6)).1).ki x0 (List.mem_of_getElem? (i := 0) rfl)).trans (by decide +kernel)⟩
    · exact ⟨(VmH.xfacts (c.at_ 1 (d := x1)).1).ec, ((VmH.xfacts (c.at_ 6 (d := x6)).1).ki x1 (List.mem_of_getElem? (i := 1) rfl)).trans (by decide +kernel)⟩
    · exact ⟨(VmH.xfacts (c.at_ 2 (d := x2)).1).ec, ((VmH.xfacts (c.at_ 6 (d := x6)).1).ki x2 (List.mem_of_getElem? (i := 2) rfl)).trans (by decide +kernel)⟩
    · exact ⟨(VmH.xfacts (c.at_ 3 (d := x3)).1).ec, ((VmH.xfacts (c.at_ 6 (d := x6)).1).ki x3 (List.mem_of_getElem? (i := 3) rfl)).trans (by decide +kernel)⟩
    · exact ⟨(VmH.xfacts (c.at_ 4 (d := x4)).1).ec, ((VmH.xfacts (c.at_ 6 (d := x6)).1).ki x4 (List.mem_of_getElem? (i := 4) rfl)).trans (by decide +kernel)⟩
    · exact ⟨(VmH.xfacts (c.at_ 5 (d := x5)).1).ec, ((VmH.xfacts (c.at_ 6 (d := x6)).1).ki x5 (List.mem_of_getElem? (i := 5) rfl)).trans (by decide +kernel)⟩
    · exact ⟨(VmH.xfacts (c.at_ 6 (d := x6)).1).ec, ((VmH.xfacts (c.at_ 6 (d := x6)).1).ki x6 (List.mem_of_getElem? (i := 6) rfl)).trans (by decide +kernel)⟩
    · exact ⟨(VmH.xfacts (c.at_ 7 (d := x7)).1).ec, ((VmH.xfacts (c.at_ 6 (d := x6)).1).ki x7 (List.mem_of_getElem? (i := 7) rfl)).trans (by decide +kernel)⟩
    · exact ⟨(VmH.xfacts (c.at_ 8 (d := x8)).1).ec, ((VmH.xfacts (c.at_ 6 (d := x6)).1).ki x8 (List.mem_of_getElem? (i := 8) rfl)).trans (by decide +kernel)⟩
    · exact ⟨(VmH.xfacts (c.at_ 9 (d := x9)).1).ec, ((VmH.xfacts (c.at_ 6 (d := x6)).1).ki x9 (List.mem_of_getElem? (i := 9) rfl)).trans (by decide +kernel)⟩
    · exact ⟨(VmH.xfacts (c.at_ 10 (d := x10)).1).ec, ((VmH.xfacts (c.at_ 6 (d := x6)).1).ki x10 (List.mem_of_getElem? (i := 10) rfl)).trans (by decide +kernel)⟩
    · exact ⟨(VmH.cf_exz (VmH.gB_ps cg) (x := "NothingToUndo") (by simp [ps])).ec, (VmH.cf_kto (VmH.gB_ps cg) (d := "NothingToUndo") (c := "InvalidNumber") (r := false) (by simp [ps])).trans (by decide +kernel)⟩⟩
  g_InvalidText := He.glo_ok X G (c.1.1.fact 26 (f := .glo "InvalidText") rfl)
  xl_InvalidText := rfl
  xk_InvalidText := VmH.exMN_of (c.at_ 7 (d := x7)).2 (c.at_ 7 (d := x7)).1 (VmH.gB_df cg 7 (d := x7)) xs7 hP top (He.free_ok X G (c.1.1.fact 32 (f := .free "super") rfl))
  xi_InvalidText := fun _ => ⟨(VmH.xfacts (c.at_ 7 (d := x7)).1).nc, by
    intro e h
    simp only [List.mem_cons, List.not_mem_nil, or_false] at h
    rcases h with rfl | rfl | rfl | rfl | rfl | rfl | rfl | rfl | rfl | rfl | rfl | rfl
    · exact ⟨(VmH.xfacts (c.at_ 0 (d := x0)).1).ec, ((VmH.xfacts (c.at_ 7 (d := x7)).1).ki x0 (List.mem_of_getElem? (i := 0) rfl)).trans (by decide +kernel)⟩
    · exact ⟨(VmH.xfacts (c.at_ 1 (d := x1)).1).ec, ((VmH.xfacts (c.at_ 7 (d := x7)).1).ki x1 (List.mem_of_getElem? (i := 1) rfl)).trans (by decide +kernel)⟩
    · exact ⟨(VmH.xfacts (c.at_ 2 (d := x2)).1).ec, ((VmH.xfacts (c.at_ 7 (d := x7)).1).ki x2 (List.mem_of_getElem? (i := 2) rfl)).trans (by decide +kernel)⟩
    · exact ⟨(VmH.xfacts (c.at_ 3 (d := x3)).1).ec, ((VmH.xfacts (c.at_ 7 (d := x7)).1).ki x3 (List.mem_of_getElem? (i := 3) rfl)).trans (by decide +kernel)⟩
    · exact ⟨(VmH.xfacts (c.at_ 4 (d := x4)).1).ec, ((VmH.xfacts (c.at_ 7 (d := x7)).1).ki x4 (List.mem_of_getElem? (i := 4) rfl)).trans (by decide +kernel)⟩
    · exact ⟨(VmH.xfacts (c.at_ 5 (d := x5)).1).ec, ((VmH.xfacts (c.at_ 7 (d := x7)).1).ki x5 (List.mem_of_getElem? (i := 5) rfl)).trans (by decide +kernel)⟩
    · exact ⟨(VmH.xfacts (c.at_ 6 (d := x6)).1).ec, ((VmH.xfacts (c.at_ 7 (d := x7)).1).ki x6 (List.mem_of_getElem? (i := 6) rfl)).trans (by decide +kernel)⟩
    · exact ⟨(VmH.xfacts (c.at_ 7 (d := x7)).1).ec, ((VmH.xfacts (c.at_ 7 (d := x7)).1).ki x7 (List.mem_of_getElem? (i := 7) rfl)).trans (by decide +kernel)⟩
    · exact ⟨(VmH.xfacts (c.at_ 8 (d := x8)).1).ec, ((VmH.xfacts (c.at_ 7 (d := x7)).1).ki x8 (List.mem_of_getElem? (i := 8) rfl)).trans (by decide +kernel)⟩
    · exact ⟨(VmH.xfacts (c.at_ 9 (d := x9)).1).ec, ((VmH.xfacts (c.at_ 7 (d := x7)).1).ki x9 (List.mem_of_getElem? (i := 9) rfl)).trans (by decide +kernel)⟩
    · exact ⟨(VmH.xfacts (c.at_ 10 (d := x10)).1).ec, ((VmH.xfacts (c.at_ 7 (d := x7)).1).ki x10 (List.mem_of_getElem? (i := 10) rfl)).trans (by decide +kernel)⟩
    · exact ⟨(VmH.cf_exz (VmH.gB_ps cg) (x := "NothingToUndo") (by simp [ps])).ec, (VmH.cf_kto (VmH.gB_ps cg) (d := "NothingToUndo") (c := "InvalidText") (r := false) (by simp [ps])).trans (by decide +kernel)⟩⟩
  g_InvalidName := He.glo_ok X G (c.1.1.fact 27 (f := .glo "InvalidName") rfl)
  xl_InvalidName := rfl
  xk_InvalidName := VmH.exMN_of (c.at_ 8 (d := x8)).2 (c.at_ 8 (d := x8)).1 (VmH.gB_df cg 8 (d := x8)) xs8 hP top (He.free_ok X G (c.1.1.fact 32 (f := .free "super") rfl))
  xi_InvalidName := fun _ => ⟨(VmH.xfacts (c.at_ 8 (d := x8)).1).nc, by
    intro e h
    simp only [List.mem_cons, List.not_mem_nil, or_false] at h
    rcases h with rfl | rfl | rfl | rfl | rfl | rfl | rfl | rfl | rfl | rfl | rfl | rfl
    · exact ⟨(VmH.xfacts (c.at_ 0 (d := x0)).1).ec, ((VmH.xfacts (c.at_ 8 (d := x8)).1).ki x0 (List.mem_of_getElem? (i := 0) rfl)).trans (by decide +kernel)⟩
    · exact ⟨(VmH.xfacts (c.at_ 1 (d := x1)).1).ec, ((VmH.xfacts (c.at_ 8 (d := x8)).1).ki x1 (List.mem_of_getElem? (i := 1) rfl)).trans (by decide +kernel)⟩
    · exact ⟨(VmH.xfacts (c.at_ 2 (d := x2)).1).ec, ((VmH.xfacts (c.at_ 8 (d := x8)).1).ki x2 (List.mem_of_getElem? (i := 2) rfl)).trans (by decide +kernel)⟩
    · exact ⟨(VmH.xfacts (c.at_ 3 (d := x3)).1).ec, ((VmH.xfacts (c.at_ 8 (d := x8)).1).ki x3 (List.mem_of_getElem? (i := 3) rfl)).trans (by decide +kernel)⟩
    · exact ⟨(VmH.xfacts (c.at_ 4 (d := x4)).1).ec, ((VmH.xfacts (c.at_ 8 (d := x8)).1).ki x4 (List.mem_of_getElem? (i := 4) rfl)).trans (by decide +kernel)⟩
    · exact ⟨(VmH.xfacts (c.at_ 5 (d := x5)).1).ec, ((VmH.xfacts (c.at_ 8 (d := x8)).1).ki x5 (List.mem_of_getElem? (i := 5) rfl)).trans (by decide +kernel)⟩
    · exact ⟨(VmH.xfacts (c.at_ 6 (d := x6)).1).ec, ((VmH.xfacts (c.at_ 8 (d := x8)).1).ki x6 (List.mem_of_getElem? (i := 6) rfl)).trans (by decide +kernel)⟩
    · exact ⟨(VmH.xfacts (c.at_ 7 (d := x7)).1).ec, ((VmH.xfacts (c.at_ 8 (d := x8)).1).ki x7 (List.mem_of_getElem? (i := 7) rfl)).trans (by decide +kernel)⟩
    · exact ⟨(VmH.xfacts (c.at_ 8 (d := x8)).1).ec, ((VmH.xfacts (c.at_ 8 (d := x8)).1).ki x8 (List.mem_of_getElem? (i := 8) rfl)).trans (by decide +kernel)⟩
    · exact ⟨(VmH.xfacts (c.at_ 9 (d := x9)).1).ec, ((VmH.xfacts (c.at_ 8 (d := x8)).1).ki x9 (List.mem_of_getElem? (i := 9) rfl)).trans (by decide +kernel)⟩
    · exact ⟨(VmH.xfacts (c.at_ 10 (d := x10)).1).ec, ((VmH.xfacts (c.at_ 8 (d := x8)).1).ki x10 (List.mem_of_getElem? (i := 10) rfl)).trans (by decide +kernel)⟩
    · exact ⟨(VmH.cf_exz (VmH.gB_ps cg) (x := "NothingToUndo") (by simp [ps])).ec, (VmH.cf_kto (VmH.gB_ps cg) (d := "NothingToUndo") (c := "InvalidName") (r := false) (by simp [ps])).trans (by decide +kernel)⟩⟩
  g_TakenName := He.glo_ok X G (c.1.1.fact 28 (f := .glo "TakenName") rfl)
  xl_TakenName := rfl
  xk_TakenName := VmH.exMN_of (c.at_ 9 (d := x9)).2 (c.at_ 9 (d := x9)).1 (VmH.gB_df cg 9 (d := x9)) xs9 hP top (He.free_ok X G (c.1.1.fact 32 (f := .free "super") rfl))
  xi_TakenName := fun _ => ⟨(VmH.xfacts (c.at_ 9 (d := x9)).1).nc, by
    intro e h
    simp only [List.mem_cons, List.not_mem_nil, or_false] at h
    rcases h with rfl | rfl | rfl | rfl | rfl | rfl | rfl | rfl | rfl | rfl | rfl | rfl
    · exact ⟨(VmH.xfacts (c.at_ 0 (d := x0)).1).ec, ((VmH.xfacts (c.at_ 9 (d := x9)).1).ki x0 (List.mem_of_getElem? (i := 0) rfl)).trans (by decide +kernel)⟩
    · exact ⟨(VmH.xfacts (c.at_ 1 (d := x1)).1).ec, ((VmH.xfacts (c.at_ 9 (d := x9)).1).ki x1 (List.mem_of_getElem? (i := 1) rfl)).trans (by decide +kernel)⟩
    · exact ⟨(VmH.xfacts (c.at_ 2 (d := x2)).1).ec, ((VmH.xfacts (c.at_ 9 (d := x9)).1).ki x2 (List.mem_of_getElem? (i := 2) rfl)).trans (by decide +kernel)⟩
    · exact ⟨(VmH.xfacts (c.at_ 3 (d := x3)).1).ec, ((VmH.xfacts (c.at_ 9 (d := x9)).1).ki x3 (List.mem_of_getElem? (i := 3) rfl)).trans (by decide +kernel)⟩
    · exact ⟨(VmH.xfacts (c.at_ 4 (d := x4)).1).ec, ((VmH.xfacts (c.at_ 9 (d := x9)).1).ki x4 (List.mem_of_getElem? (i := 4) rfl)).trans (by decide +kernel)⟩
    · exact ⟨(VmH.xfacts (c.at_ 5 (d := x5)).1).ec, ((VmH.xfacts (c.at_ 9 (d := x9)).1).ki x5 (List.mem_of_getElem? (i := 5) rfl)).trans (by decide +kernel)⟩
    · exact ⟨(VmH.xfacts (c.at_ 6 (d := x6)).1).ec, ((VmH.xfacts (c.at_ 9 (d := x9)).1).ki x6 (List.mem_of_getElem? (i := 6) rfl)).trans (by decide +kernel)⟩
    · exact ⟨(VmH.xfacts (c.at_ 7 (d := x7)).1).ec, ((VmH.xfacts (c.at_ 9 (d := x9)).1).ki x7 (List.mem_of_getElem? (i := 7) rfl)).trans (by decide +kernel)⟩
    · exact ⟨(VmH.xfacts (c.at_ 8 (d := x8)).1).ec, ((VmH.xfacts (c.at_ 9 (d := x9)).1).ki x8 (List.mem_of_getElem? (i := 8) rfl)).trans (by decide +kernel)⟩
    · exact ⟨(VmH.xfacts (c.at_ 9 (d := x9)).1).ec, ((VmH.xfacts (c.at_ 9 (d := x9)).1).ki x9 (List.mem_of_getElem? (i := 9) rfl)).trans (by decide +kernel)⟩
    · exact ⟨(VmH.xfacts (c.at_ 10 (d := x10)).1).ec, ((VmH.xfacts (c.at_ 9 (d := x9)).1).ki x10 (List.mem_of_getElem? (i := 10) rfl)).trans (by decide +kernel)⟩
    · exact ⟨(VmH.cf_exz (VmH.gB_ps cg) (x := "NothingToUndo") (by simp [ps])).ec, (VmH.cf_kto (VmH.gB_ps cg) (d := "NothingToUndo") (c := "TakenName") (r := false) (by simp [ps])).trans (by decide +kernel)⟩⟩
  g_UnknownName := He.glo_ok X G (c.1.1.fact 29 (f := .glo "UnknownName") rfl)
  xl_UnknownName := rfl
  xk_UnknownName := VmH.exMN_of (c.at_ 10 (d := x10)).2 (c.at_ 10 (d := x10)).1 (VmH.gB_df cg 10 (d := x10)) xs10 hP top (He.free_ok X G (c.1.1.fact 32 (f := .free "super") rfl))
  xi_UnknownName := fun _ => ⟨(VmH.xfacts (c.at_ 10 (d := x10)).1).nc, by
    intro e h
    simp only [List.mem_cons, List.not_mem_nil, or_false] at h
    rcases h with rfl | rfl | rfl | rfl | rfl | rfl | rfl | rfl | rfl | rfl | rfl | rfl
    · exact ⟨(VmH.xfacts (c.at_ 0 (d := x0)).1).ec, ((VmH.xfacts (c.at_ 10 (d := x10)).1).ki x0 (List.mem_of_getElem? (i := 0) rfl)).trans (by decide +kernel)⟩
    · exact ⟨(VmH.xfacts (c.at_ 1 (d := x1)).1).ec, ((VmH.xfacts (c.at_ 10 (d := x10)).1).ki x1 (List.mem_of_getElem? (i := 1) rfl)).trans (by decide +kernel)⟩
    · exact ⟨(VmH.xfacts (c.at_ 2 (d := x2)).1).ec, ((VmH.xfacts (c.at_ 10 (d := x10)).1).ki x2 (List.mem_of_getElem? (i := 2) rfl)).trans (by decide +kernel)⟩
    · exact ⟨(VmH.xfacts (c.at_ 3 (d := x3)).1).ec, ((VmH.xfacts (c.at_ 10 (d := x10)).1).ki x3 (List.mem_of_getElem? (i := 3) rfl)).trans (by decide +kernel)⟩
    · exact ⟨(VmH.xfacts (c.at_ 4 (d := x4)).1).ec, ((VmH.xfacts (c.at_ 10 (d := x10)).1).ki x4 (List.mem_of_getElem? (i := 4) rfl)).trans (by decide +kernel)⟩
    · exact ⟨(VmH.xfacts (c.at_ 5 (d := x5)).1).ec, ((VmH.xfacts (c.at_ 10 (d := x10)).1).ki x5 (List.mem_of_getElem? (i := 5) rfl)).trans (by decide +kernel)⟩
    · exact ⟨(VmH.xfacts (c.at_ 6 (d := x6)).1).ec, ((VmH.xfacts (c.at_ 10 (d := x10)).1).ki x6 (List.mem_of_getElem? (i := 6) rfl)).trans (by decide +kernel)⟩
    · exact ⟨(VmH.xfacts (c.at_ 7 (d := x7)).1).ec, ((VmH.xfacts (c.at_ 10 (d := x10)).1).ki x7 (List.mem_of_getElem? (i := 7) rfl)).trans (by decide +kernel)⟩
    · exact ⟨(VmH.xfacts (c.at_ 8 (d := x8)).1).ec, ((VmH.xfacts (c.at_ 10 (d := x10)).1).ki x8 (List.mem_of_getElem? (i := 8) rfl)).trans (by decide +kernel)⟩
    · exact ⟨(VmH.xfacts (c.at_ 9 (d := x9)).1).ec, ((VmH.xfacts (c.at_ 10 (d := x10)).1).ki x9 (List.mem_of_getElem? (i := 9) rfl)).trans (by decide +kernel)⟩
    · exact ⟨(VmH.xfacts (c.at_ 10 (d := x10)).1).ec, ((VmH.xfacts (c.at_ 10 (d := x10)).1).ki x10 (List.mem_of_getElem? (i := 10) rfl)).trans (by decide +kernel)⟩
    · exact ⟨(VmH.cf_exz (VmH.gB_ps cg) (x := "NothingToUndo") (by simp [ps])).ec, (VmH.cf_kto (VmH.gB_ps cg) (d := "NothingToUndo") (c := "UnknownName") (r := false) (by simp [ps])).trans (by decide +kernel)⟩⟩
  xi_NothingToUndo := fun _ => ⟨(VmH.cf_exz (VmH.gB_ps cg) (x := "NothingToUndo") (by simp [ps])).nc, by
    intro e h
    simp only [List.mem_cons, List.not_mem_nil, or_false] at h
    rcases h with rfl | rfl | rfl | rfl | rfl | rfl | rfl | rfl | rfl | rfl | rfl | rfl
    · exact ⟨(VmH.xfacts (c.at_ 0 (d := x0)).1).ec, (VmH.cf_kto (VmH.gB_ps cg) (d := "InvalidList") (c := "NothingToUndo") (r := false) (by simp [ps])).trans (by decide +kernel)⟩
    · exact ⟨(VmH.xfacts (c.at_ 1 (d := x1)).1).ec, (VmH.cf_kto (VmH.gB_ps cg) (d := "InvalidItem") (c := "NothingToUndo") (r := false) (by simp [ps])).trans (by decide +kernel)⟩
    · exact ⟨(VmH.xfacts (c.at_ 2 (d := x2)).1).ec, (VmH.cf_kto (VmH.gB_ps cg) (d := "InvalidBook") (c := "NothingToUndo") (r := false) (by simp [ps])).trans (by decide +kernel)⟩
    · exact ⟨(VmH.xfacts (c.at_ 3 (d := x3)).1).ec, (VmH.cf_kto (VmH.gB_ps cg) (d := "InvalidLot") (c := "NothingToUndo") (r := false) (by simp [ps])).trans (by decide +kernel)⟩
    · exact ⟨(VmH.xfacts (c.at_ 4 (d := x4)).1).ec, (VmH.cf_kto (VmH.gB_ps cg) (d := "InvalidRun") (c := "NothingToUndo") (r := false) (by simp [ps])).trans (by decide +kernel)⟩
    · exact ⟨(VmH.xfacts (c.at_ 5 (d := x5)).1).ec, (VmH.cf_kto (VmH.gB_ps cg) (d := "InvalidGoal") (c := "NothingToUndo") (r := false) (by simp [ps])).trans (by decide +kernel)⟩
    · exact ⟨(VmH.xfacts (c.at_ 6 (d := x6)).1).ec, (VmH.cf_kto (VmH.gB_ps cg) (d := "InvalidNumber") (c := "NothingToUndo") (r := false) (by simp [ps])).trans (by decide +kernel)⟩
    · exact ⟨(VmH.xfacts (c.at_ 7 (d := x7)).1).ec, (VmH.cf_kto (VmH.gB_ps cg) (d := "InvalidText") (c := "NothingToUndo") (r := false) (by simp [ps])).trans (by decide +kernel)⟩
    · exact ⟨(VmH.xfacts (c.at_ 8 (d := x8)).1).ec, (VmH.cf_kto (VmH.gB_ps cg) (d := "InvalidName") (c := "NothingToUndo") (r := false) (by simp [ps])).trans (by decide +kernel)⟩
    · exact ⟨(VmH.xfacts (c.at_ 9 (d := x9)).1).ec, (VmH.cf_kto (VmH.gB_ps cg) (d := "TakenName") (c := "NothingToUndo") (r := false) (by simp [ps])).trans (by decide +kernel)⟩
    · exact ⟨(VmH.xfacts (c.at_ 10 (d := x10)).1).ec, (VmH.cf_kto (VmH.gB_ps cg) (d := "UnknownName") (c := "NothingToUndo") (r := false) (by simp [ps])).trans (by decide +kernel)⟩
    · exact ⟨(VmH.cf_exz (VmH.gB_ps cg) (x := "NothingToUndo") (by simp [ps])).ec, (VmH.cf_kto (VmH.gB_ps cg) (d := "NothingToUndo") (c := "NothingToUndo") (r := true) (by simp [ps])).trans (by decide +kernel)⟩⟩
  sys := VmH.gB_sys cg
  xa_HushError := fun _ => by
    intro e h
    simp only [List.mem_cons, List.not_mem_nil, or_false] at h
    rcases h with rfl | rfl | rfl | rfl | rfl | rfl | rfl | rfl | rfl | rfl | rfl | rfl
    · exact ⟨(VmH.xfacts (c.at_ 0 (d := x0)).1).ec, VmH.cf_kto (VmH.gB_ps cg) (d := "InvalidList") (c := "HushError") (r := true) (by simp [ps])⟩
    · exact ⟨(VmH.xfacts (c.at_ 1 (d := x1)).1).ec, VmH.cf_kto (VmH.gB_ps cg) (d := "InvalidItem") (c := "HushError") (r := true) (by simp [ps])⟩
    · exact ⟨(VmH.xfacts (c.at_ 2 (d := x2)).1).ec, VmH.cf_kto (VmH.gB_ps cg) (d := "InvalidBook") (c := "HushError") (r := true) (by simp [ps])⟩
    · exact ⟨(VmH.xfacts (c.at_ 3 (d := x3)).1).ec, VmH.cf_kto (VmH.gB_ps cg) (d := "InvalidLot") (c := "HushError") (r := true) (by simp [ps])⟩
    · exact ⟨(VmH.xfacts (c.at_ 4 (d := x4)).1).ec, VmH.cf_kto (VmH.gB_ps cg) (d := "InvalidRun") (c := "HushError") (r := true) (by simp [ps])⟩
    · exact ⟨(VmH.xfacts (c.at_ 5 (d := x5)).1).ec, VmH.cf_kto (VmH.gB_ps cg) (d := "InvalidGoal") (c := "HushError") (r := true) (by simp [ps])⟩
    · exact ⟨(VmH.xfacts (c.at_ 6 (d := x6)).1).ec, VmH.cf_kto (VmH.gB_ps cg) (d := "InvalidNumber") (c := "HushError") (r := true) (by simp [ps])⟩
    · exact ⟨(VmH.xfacts (c.at_ 7 (d := x7)).1).ec, VmH.cf_kto (VmH.gB_ps cg) (d := "InvalidText") (c := "HushError") (r := true) (by simp [ps])⟩
    · exact ⟨(VmH.xfacts (c.at_ 8 (d := x8)).1).ec, VmH.cf_kto (VmH.gB_ps cg) (d := "InvalidName") (c := "HushError") (r := true) (by simp [ps])⟩
    · exact ⟨(VmH.xfacts (c.at_ 9 (d := x9)).1).ec, VmH.cf_kto (VmH.gB_ps cg) (d := "TakenName") (c := "HushError") (r := true) (by simp [ps])⟩
    · exact ⟨(VmH.xfacts (c.at_ 10 (d := x10)).1).ec, VmH.cf_kto (VmH.gB_ps cg) (d := "UnknownName") (c := "HushError") (r := true) (by simp [ps])⟩
    · exact ⟨(VmH.cf_exz (VmH.gB_ps cg) (x := "NothingToUndo") (by simp [ps])).ec, VmH.cf_kto (VmH.gB_ps cg) (d := "NothingToUndo") (c := "HushError") (r := true) (by simp [ps])⟩
  xv := fun _ => by
    intro e h
    simp only [List.mem_cons, List.not_mem_nil, or_false] at h
    rcases h with rfl | rfl | rfl | rfl | rfl | rfl | rfl | rfl | rfl | rfl | rfl | rfl
    · exact ⟨(VmH.xfacts (c.at_ 0 (d := x0)).1).ec, VmH.gB_kt cg (c := "InvalidList") (by simp [qs])⟩
    · exact ⟨(VmH.xfacts (c.at_ 1 (d := x1)).1).ec, VmH.gB_kt cg (c := "InvalidItem") (by simp [qs])⟩
    · exact ⟨(VmH.xfacts (c.at_ 2 (d := x2)).1).ec, VmH.gB_kt cg (c := "InvalidBook") (by simp [qs])⟩
    · exact ⟨(VmH.xfacts (c.at_ 3 (d := x3)).1).ec, VmH.gB_kt cg (c := "InvalidLot") (by simp [qs])⟩
    · exact ⟨(VmH.xfacts (c.at_ 4 (d := x4)).1).ec, VmH.gB_kt cg (c := "InvalidRun") (by simp [qs])⟩
    · exact ⟨(VmH.xfacts (c.at_ 5 (d := x5)).1).ec, VmH.gB_kt cg (c := "InvalidGoal") (by simp [qs])⟩
    · exact ⟨(VmH.xfacts (c.at_ 6 (d := x6)).1).ec, VmH.gB_kt cg (c := "InvalidNumber") (by simp [qs])⟩
    · exact ⟨(VmH.xfacts (c.at_ 7 (d := x7)).1).ec, VmH.gB_kt cg (c := "InvalidText") (by simp [qs])⟩
    · exact ⟨(VmH.xfacts (c.at_ 8 (d := x8)).1).ec, VmH.gB_kt cg (c := "InvalidName") (by simp [qs])⟩
    · exact ⟨(VmH.xfacts (c.at_ 9 (d := x9)).1).ec, VmH.gB_kt cg (c := "TakenName") (by simp [qs])⟩
    · exact ⟨(VmH.xfacts (c.at_ 10 (d := x10)).1).ec, VmH.gB_kt cg (c := "UnknownName") (by simp [qs])⟩
    · exact ⟨(VmH.cf_exz (VmH.gB_ps cg) (x := "NothingToUndo") (by simp [ps])).ec, VmH.gB_kt cg (c := "NothingToUndo") (by simp [qs])⟩
  xvh := fun _ => by
    intro e h
    rw [List.mem_singleton.mp h]
    exact ⟨(VmH.cf_exz (VmH.gB_ps cg) (x := "HushError") (by simp [ps])).ec, VmH.gB_kt cg (c := "HushError") (by simp [qs])⟩
  xz_NothingToUndo := rfl
  xz_HushError := rfl
  xf_name := fun _ => by
    intro e h
    simp only [List.mem_cons, List.not_mem_nil, or_false] at h
    rcases h with rfl | rfl | rfl
    · exact ⟨(VmH.xfacts (c.at_ 8 (d := x8)).1).xf, (VmH.xfacts (c.at_ 8 (d := x8)).1).na, rfl⟩
    · exact ⟨(VmH.xfacts (c.at_ 9 (d := x9)).1).xf, (VmH.xfacts (c.at_ 9 (d := x9)).1).na, rfl⟩
    · exact ⟨(VmH.xfacts (c.at_ 10 (d := x10)).1).xf, (VmH.xfacts (c.at_ 10 (d := x10)).1).na, rfl⟩
  xf_value := fun _ => by
    intro e h
    simp only [List.mem_cons, List.not_mem_nil, or_false] at h
    rcases h with rfl | rfl | rfl | rfl | rfl | rfl | rfl | rfl
    · exact ⟨(VmH.xfacts (c.at_ 0 (d := x0)).1).xf, (VmH.xfacts (c.at_ 0 (d := x0)).1).na, rfl⟩
    · exact ⟨(VmH.xfacts (c.at_ 1 (d := x1)).1).xf, (VmH.xfacts (c.at_ 1 (d := x1)).1).na, rfl⟩
    · exact ⟨(VmH.xfacts (c.at_ 2 (d := x2)).1).xf, (VmH.xfacts (c.at_ 2 (d := x2)).1).na, rfl⟩
    · exact ⟨(VmH.xfacts (c.at_ 3 (d := x3)).1).xf, (VmH.xfacts (c.at_ 3 (d := x3)).1).na, rfl⟩
    · exact ⟨(VmH.xfacts (c.at_ 4 (d := x4)).1).xf, (VmH.xfacts (c.at_ 4 (d := x4)).1).na, rfl⟩
    · exact ⟨(VmH.xfacts (c.at_ 5 (d := x5)).1).xf, (VmH.xfacts (c.at_ 5 (d := x5)).1).na, rfl⟩
    · exact ⟨(VmH.xfacts (c.at_ 6 (d := x6)).1).xf, (VmH.xfacts (c.at_ 6 (d := x6)).1).na, rfl⟩
    · exact ⟨(VmH.xfacts (c.at_ 7 (d := x7)).1).xf, (VmH.xfacts (c.at_ 7 (d := x7)).1).na, rfl⟩
  d__law_cell := let ⟨fd, F⟩ := (c.1.1.def_ 0 (d := d0) rfl); ⟨_, fd, He.glo_ok X G (c.1.1.fact 0 (f := .glo "_law_cell") rfl), F⟩
  d__law_generator := let ⟨fd, F⟩ := (c.1.1.def_ 1 (d := d1) rfl); ⟨_, fd, He.glo_ok X G (c.1.1.fact 1 (f := .glo "_law_generator") rfl), F⟩
  d__law_hash := let ⟨fd, F⟩ := (c.1.1.def_ 2 (d := d2) rfl); ⟨_, fd, He.glo_ok X G (c.1.1.fact 2 (f := .glo "_law_hash") rfl), F⟩
  d__law_kinds := let ⟨fd, F⟩ := (c.1.1.def_ 3 (d := d3) rfl); ⟨_, fd, He.glo_ok X G (c.1.1.fact 3 (f := .glo "_law_kinds") rfl), F⟩
  d__law_named := let ⟨fd, F⟩ := (c.1.1.def_ 4 (d := d4) rfl); ⟨_, fd, He.glo_ok X G (c.1.1.fact 4 (f := .glo "_law_named") rfl), F⟩
  d__law_placed := let ⟨fd, F⟩ := (c.1.1.def_ 5 (d := d5) rfl); ⟨_, fd, He.glo_ok X G (c.1.1.fact 5 (f := .glo "_law_placed") rfl), F⟩
  d__law_random := let ⟨fd, F⟩ := (c.1.1.def_ 6 (d := d6) rfl); ⟨_, fd, He.glo_ok X G (c.1.1.fact 6 (f := .glo "_law_random") rfl), F⟩
  d__law_right := let ⟨fd, F⟩ := (c.1.1.def_ 7 (d := d7) rfl); ⟨_, fd, He.glo_ok X G (c.1.1.fact 7 (f := .glo "_law_right") rfl), F⟩
  d__law_unset := let ⟨fd, F⟩ := (c.1.1.def_ 8 (d := d8) rfl); ⟨_, fd, He.glo_ok X G (c.1.1.fact 8 (f := .glo "_law_unset") rfl), F⟩
  d_law := let ⟨fd, F⟩ := (c.1.1.def_ 9 (d := d9) rfl); ⟨_, fd, He.glo_ok X G (c.1.1.fact 9 (f := .glo "law") rfl), F⟩
end Hd

namespace Hd
open PySem PySem.Spec PyProof.Rows L2
theorem law_sp {w : Vm.Wd} {f : Vm.FV} {H : Hp} {a : Addr} {ns : List Int} (hl : ns.length ≤ 63) (hS : SqL w.K H a (ns.map V.int)) (h : ∃ mu, f [] [.rol (ns.map Vm.D.int)] = .ok (.bl true) mu) : Vm.spF w f [.ref a] H (fun v _ => v = .bl true) fun _ _ _ => False := by
  obtain ⟨mu, h⟩ := h
  refine ⟨⟨⟨H, fun _ => none⟩, H, fun _ => []⟩, [], [.rol (ns.map Vm.D.int)], rfl, ⟨fun _ _ h => h, rfl, fun n => ⟨fun _ => Nat.zero_le _, fun _ => rfl⟩, fun x d h => ?_, fun _ _ => rfl, (fun x y c h => nomatch h), fun _ => List.nodup_nil, (fun x c h => nomatch h)⟩, ?_, ?_⟩
  · cases x with
    | s i =>
      have h' : (([] : List (Option Vm.D))[i]?).getD none = some d := h
      simp at h'
    | m n =>
      have h' : (([] : List (Option Vm.D))[n]?).getD none = some d := h
      simp at h'
  · refine Vm.fzl_cons.mpr ⟨.ref a, [], rfl, Vm.fz_rol.mpr ⟨a, ns.map V.int, rfl, hS, ?_, ?_⟩, Vm.fzl_nil.mpr rfl⟩
    · rw [List.length_map]
      exact Nat.le_trans hl (by decide)
    · clear hS h
      induction ns with
      | nil => exact Vm.fzl_nil.mpr rfl
      | cons n r ih => exact Vm.fzl_cons.mpr ⟨_, _, rfl, Vm.fz_int.mpr rfl, ih (Nat.le_of_succ_le (by simpa using hl))⟩
  · rw [h]
    exact fun v b' _ _ t => Vm.fz_bl.mp (t.fz rfl)
theorem facts {P : Program} {w : World} {K : PySem.W.Frag} {h : Heap} {mg : Str → Option Value} {f : Addr} (X : K.In h) (G : h.Ns mainGlobals mg) (hfa : mg ("law" : Str) = some (.ref f)) (hP : ((P.main.file : Str) == ("/claim/cut.py" : Str)) = true) (top : (P.main.scope.names.lookup ("super" : Str)).isSome = false) (c : VmH.SaysX "/claim/cut.py" fa fn cs xs ns K) (cp : VmH.gB xs ps qs K = true) :
    ∃ fd : FuncData, (∀ (s : Shared) (v : Value), BindsTo s fd ⟨[v], []⟩ [("_law_script", v)]) ∧ ∀ base : Heap, K.In base → base.Ns mainGlobals mg → VmX.FnG P w K mg base CX0 4 f fd ["_law_script"] (Vm.spF ⟨P, w, K, cls K, flds, none, none⟩ Vm.fn_law) := by
  obtain ⟨fd, F⟩ := c.1.1.def_ 9 (d := d9) rfl
  have e := hfa.symm.trans (He.glo_ok X G (c.1.1.fact 9 (f := .glo "law") rfl))
  cases e
  have b := FunD.bindsA (ps := ["_law_script"]) F fun _ _ _ _ _ _ us hl => match us, hl with | [_], _ => rfl
  exact ⟨fd, fun s v => b s [v] rfl, fun base _ _ => Vm.okF_law (gf (P := P) (w := w) (base := base) X G hP top c cp) none F⟩
end Hd
open PySem PySem.W PySem.Calls PyProof.Rows
theorem PySem.Challenge.cw_hushedasks_k01_errors_holds : PySem.Challenge.rw_hushedasks_k01_errors.Holds := by
  w_on; o_law
  refine HandSHeadRun.head_any (r := OpenLaw.row PySem.Challenge.rw_hushedasks_k01_errors) (q := view (OpenLaw.row PySem.Challenge.rw_hushedasks_k01_errors).prog [24]) (H := Hd.hk) (ob := Hd.ob) (M := 20000) (loose := Hd.loose) (d := HandSHeadRun.topDef (OpenLaw.row PySem.Challenge.rw_hushedasks_k01_errors).prog 24) (kwd := []) Hd.ob_eq
    (by kernel_rfl) (fun s => by kernel_rfl) Hd.run (by kernel_rfl) (by kernel_rfl) (by kernel_rfl) (by rfl) (by first | assumption | decide +kernel) (by decide +kernel) ⟨rfl, rfl, rfl, rfl, rfl, by decide +kernel⟩ ?hw ?hc
  case hw => w_witness2
  case hc =>
    refine VmX.walk_ofG (l := PySem.Challenge.rw_hushedasks_k01_errors) (n := 63) (k := 4) (x := "_law_script") rfl (by decide) (by kernel_rfl) ⟨rfl, by decide, by decide⟩ ?F
    intro w mg fa h Y G hmg0
    obtain ⟨K, KX, c, cp⟩ := Y
    have hmg : mg ("law" : PySem.Str) = some (.ref fa) := by
      have e : (HandSHeadRun.topDef (OpenLaw.row PySem.Challenge.rw_hushedasks_k01_errors).prog 24).name = ("law" : PySem.Str) := by kernel_rfl
      rw [← e]
      exact hmg0
    obtain ⟨fd, hb, hF⟩ := Hd.facts (P := (PySem.Challenge.rw_hushedasks_k01_errors).prog) (w := w) KX G hmg (by decide +kernel) (by decide +kernel) c cp
    exact ⟨K, fd, Vm.spF ⟨(PySem.Challenge.rw_hushedasks_k01_errors).prog, w, K, Hd.cls K, Hd.flds, none, none⟩ Vm.fn_law, KX, hb, fun H a ns hl _ hS => Hd.law_sp hl hS (Vm.law_true ns hl), hF⟩
