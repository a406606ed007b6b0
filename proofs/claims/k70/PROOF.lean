import PyProof.Rows.All
import Wide.All
import OpenK.AllK
import Wide.FinOn
import KE.KStateDown
import HandS.Head0
import HandS.Head1
import HandS.Head2
import HandS.HeadEnd
import HandS.HeadHook1
import HandS.HeadHook2
import HandS.ForMost
import HandS.Defaults
import HandS.Walk
import HandS.TupAny
import HandS.TupMul
import HandS.Deep
import KE.KDictKeyed
import HandS.Lambda
import HandS.TryOnly
import HandS.Style
import HandS.Wide
import HandS.WideBits
import HandS.Star
import HandS.Strs
import HandS.Conv
import HandS.IsInst
import KE.GoesEnumKw
import KE.GoesZip
import HandS.SortKw
import HandS.TupSets
import HandS.SetKeys
import KE.KRevSl
import KE.SortData
import HandS.Codes
import HandS.ExcInit
import HandS.Nested
import KE.KExcSuper
import HandS.ExcOwn
import HandS.ExcField
import HandS.ExcIs
import KE.KExcIs
import PyProof.ReprRoads
import PyProof.ReprLen
import PyProof.InstNe
import KE.KDictDisplayH
import HandS.Set
import HandS.SetFor
import HandS.ExcValue
import HandS.DictComp
import KE.KIndexOf
import HandS.Text
import HandS.StrMore
import HandS.TryMany
import PySem.Challenge.RW_hushedasks_k70_texts_of_books
set_option Elab.async false
set_option linter.all false
set_option maxRecDepth 100000
set_option maxHeartbeats 1000000
namespace VmH
open PySem PySem.Spec PyProof.Rows L2 He
def insB (K : PySem.W.Frag) (x : Str) : Bool :=
  eqO (PySem.W.findIn K (.ref (ga K x)) "__class__") (some (some (.builtin "object.__class__"))) && (eqO (PySem.W.specialIn K (.builtin "object.__class__") "__get__") (some (some (.builtin "getset_descriptor.__get__"))) &&
    (decide (PySem.W.takesIn K (.builtin "object.__class__") = some true) && (decide (PySem.W.mroIn K (ga K x) (.type "object") = some true) &&
      ["NoneType", "bool", "int", "str", "tuple", "list", "dict"].all fun t => decide (PySem.W.kitOne K (.type t) (.ref (ga K x)) = some false))))
def obsI (n : Nat) (fa : List Fa) (fn : List DefD) (cs : List Str) (g : Addr → Option Obj) : AlD × Bool := (obsD fa fn (frG g (asD g n)), cs.all (insB (frG g (asD g n))))
def SaysI (fa : List Fa) (fn : List DefD) (cs : List Str) (K : PySem.W.Frag) : Prop := SaysD fa fn K ∧ cs.all (insB K) = true
def hookI (n : Nat) (fa : List Fa) (fn : List DefD) (cs : List Str) : PySem.W.Hook where
  α := AlD × Bool
  obs := fun s => obsI n fa fn cs s.heap.get?
  val := fun _ => (valD fn, true)
  says := fun _ h => ∃ K : PySem.W.Frag, K.In h ∧ SaysI fa fn cs K
  of := fun _ _ e => ⟨_, frG_in, congrArg (fun z : AlD × Bool => z.1) e, congrArg (fun z : AlD × Bool => z.2) e⟩
  keeps := fun _ _ _ ⟨K, hK, c⟩ k => ⟨K, PySem.W.Frag.In.keeps hK k, c⟩
end VmH

set_option maxHeartbeats 1000000
namespace VmH
open PySem PySem.Spec PyProof.Rows L2 He
structure XD where
  x : Str
  fld : Str
  st : Stmt
abbrev FnV2 : Type := Option (Str × Str × Arguments × FuncBody × Scope × Addr × List Str × Addr)
def fnX (K : PySem.W.Frag) (d : XD) : FnV2 := match K.lookup (ma K (ga K d.x) "__init__") with
  | some ⟨_, _, .func fd, _⟩ => some (fd.name, fd.qualname, fd.params, fd.body, fd.scope, fd.globals, fd.closure.map (·.1), fd.builtins)
  | _ => none
def XD.val (d : XD) : FnV2 := some ("__init__", d.x ++ ".__init__", defArgs d.st, .stmts (defBody d.st), defScope d.st, mainGlobals, ["__class__"], builtinsNs)
def oexB (K : PySem.W.Frag) (C : Addr) : Bool := match K.lookup C with
  | some ⟨.type t, _, .cls ⟨_, _, .ref C' :: bm, _, _, true, _, _, _, _, false⟩, ⟨[_, _, _, _, some (.builtin n), _]⟩⟩ => t == "type" && (C' == C && (n == "ValueError.__new__" && PySem.HandSPX.refsVE bm))
  | _ => false
def cloB (file : Str) (K : PySem.W.Frag) (d : XD) : Bool := match K.lookup (ma K (ga K d.x) "__init__") with
  | some ⟨_, _, .func fd, _⟩ => (match fd.closure, fd.code with
    | [(_, cc)], .ref c => (match K.lookup cc, K.lookup c with
      | some ⟨_, _, .cell (some (.ref C')), _⟩, some ⟨_, _, .fields vs, _⟩ => (match (vs[2]? : Option Value) with
        | some (Value.str f _) => C' == ga K d.x && (decide (f = file) && PySem.W.codeIn K fd.code (d.x ++ ".__init__"))
        | _ => false)
      | _, _ => false)
    | _, _ => false)
  | _ => false
def dflB (K : PySem.W.Frag) (d : XD) : Bool := match K.lookup (ma K (ga K d.x) "__init__") with
  | some ⟨_, _, .func fd, _⟩ => (match fd.defaults with
    | .ref T => (match K.lookup T with
      | some ⟨_, _, .seq its _, _⟩ => its.size == 1
      | _ => false)
    | _ => false)
  | _ => false
def subB (K : PySem.W.Frag) (C : Addr) : Bool := (PySem.W.clsIn K C).isSome && (decide (PySem.W.mroIn K C (.ref C) = some true) && (eqO (PySem.W.ks_superIn K C C "__init__") (some (some (.builtin "ValueError.__init__"))) && (eqO (PySem.W.nsIn K cStatics "thirdparty.any") (some none) && decide (PySem.W.subIn K (.ref C) (.type "ValueError") = some true))))
def isB (K : PySem.W.Frag) (C : Addr) : Bool := eqO (PySem.W.findIn K (.ref C) "__class__") (some (some (.builtin "object.__class__"))) && (eqO (PySem.W.specialIn K (.builtin "object.__class__") "__get__") (some (some (.builtin "getset_descriptor.__get__"))) && (decide (PySem.W.takesIn K (.builtin "object.__class__") = some true) && decide (PySem.W.mroIn K C (.type "object") = some true)))
def notB (K : PySem.W.Frag) (C : Addr) : Bool := ["NoneType", "bool", "int", "str", "tuple", "list", "dict"].all fun t => decide (PySem.W.kitOne K (.type t) (.ref C) = some false)
def excB (file : Str) (K : PySem.W.Frag) (xs : List XD) (d : XD) : Bool :=
  xfB K (ga K d.x) && (isB K (ga K d.x) && (notB K (ga K d.x) && (oexB K (ga K d.x) && (cloB file K d && (subB K (ga K d.x) && (eqO (PySem.W.findIn K (.ref (ga K d.x)) "__init__") (some (some (.ref (ma K (ga K d.x) "__init__")))) &&
    (decide (PySem.W.typeIn K (.ref (ma K (ga K d.x) "__init__")) = some (.type "function")) && (eqO (PySem.W.findIn K (.ref (ga K d.x)) d.fld) (some none) && (eqO (PySem.W.findIn K (.ref (ga K d.x)) "__setattr__") (some (some (.builtin "object.__setattr__"))) &&
      (decide (PySem.W.subIn K (.ref (ga K d.x)) (.type "BaseException") = some true) && (decide (PySem.W.typeIn K (.ref (ga K d.x)) = some (.type "type")) && (PySem.W.keepIn K (.ref (ga K d.x)) &&
        (decide (PySem.W.exmOne K (.ref (ga K d.x)) (.ref (ga K "HushError")) = some true) && (dflB K d && ((xs.all fun d' => decide (PySem.W.kitOne K (.ref (ga K d'.x)) (.ref (ga K d.x)) = some (decide (d'.x = d.x)))) && xs.all fun d' => decide (PySem.W.exmOne K (.ref (ga K d.x)) (.ref (ga K d'.x)) = some (decide (d'.x = d.x))))))))))))))))))
def neB0 (K : PySem.W.Frag) (x : Str) : Bool := match K.lookup (ga K x) with
  | some ⟨.type t, _, .cls ⟨_, _, [.ref C', .type o], N, _, _, _, _, _, _, false⟩, ⟨[_, _, _, _, some (.builtin _), _]⟩⟩ => t == "type" && (o == "object" && (C' == ga K x && (match K.lookup N with
    | some ⟨_, _, .dict es _, _⟩ => (es.all fun e => match e.key with
      | .str _ _ => true
      | _ => false) && (eqO (some (nsFind es "__eq__")) (some (some (.ref (ma K (ga K x) "__eq__")))) && ((nsFind es "__ne__").isNone && PySem.W.isFn K (.ref (ma K (ga K x) "__eq__"))))
    | _ => false)))
  | _ => false
def rolsOf (x : Str) : Option (List Str) := if x == ("HEADS" : Str) then some ["houses", "stands", "deed", "hear", "lost"] else none
def rolB (K : PySem.W.Frag) (x : Str) (ss : List Str) : Bool := match K.lookup (ga K x) with
  | some ⟨.type t, none, .seq its _, _⟩ => t == "list" && (decide (its.size ≤ 1000) && decide ((its.toList.map fun v => match v with
    | .str a _ => some a
    | _ => none) = ss.map some))
  | _ => false
def neB (K : PySem.W.Frag) (x : Str) : Bool := match rolsOf x with
  | some ss => rolB K x ss
  | none => neB0 K x
def asX (g : Addr → Option Obj) (n : Nat) : List Addr := cStatics :: asD g n
abbrev AlX : Type := (AlD × Bool) × Bool × List FnV2
def obsX (n : Nat) (file : Str) (fa : List Fa) (fn : List DefD) (cs : List Str) (xs : List XD) (ns : List Str) (g : Addr → Option Obj) : AlX := ((obsD fa fn (frG g (asX g n)), cs.all (insB (frG g (asX g n)))), xs.all (excB file (frG g (asX g n)) xs) && ns.all (neB (frG g (asX g n))), xs.map (fnX (frG g (asX g n))))
def SaysX (file : Str) (fa : List Fa) (fn : List DefD) (cs : List Str) (xs : List XD) (ns : List Str) (K : PySem.W.Frag) : Prop := SaysI fa fn cs K ∧ (xs.all (excB file K xs) && ns.all (neB K)) = true ∧ xs.map (fnX K) = xs.map XD.val
def hookX (n : Nat) (file : Str) (fa : List Fa) (fn : List DefD) (cs : List Str) (xs : List XD) (ns : List Str) : PySem.W.Hook where
  α := AlX
  obs := fun s => obsX n file fa fn cs xs ns s.heap.get?
  val := fun _ => ((valD fn, true), true, xs.map XD.val)
  says := fun _ h => ∃ K : PySem.W.Frag, K.In h ∧ SaysX file fa fn cs xs ns K
  of := fun _ _ e => ⟨_, frG_in, ⟨congrArg (fun z : AlX => z.1.1) e, congrArg (fun z : AlX => z.1.2) e⟩, congrArg (fun z : AlX => z.2.1) e, congrArg (fun z : AlX => z.2.2) e⟩
  keeps := fun _ _ _ ⟨K, hK, c⟩ k => ⟨K, PySem.W.Frag.In.keeps hK k, c⟩
theorem obsX_eq {n : Nat} {file : Str} {fa : List Fa} {fn : List DefD} {cs : List Str} {xs : List XD} {ns : List Str} {g : Addr → Option Obj} {s : Shared} (h : ∀ a, g a = s.heap.get? a) : obsX n file fa fn cs xs ns g = (hookX n file fa fn cs xs ns).obs s := by
  have e : g = s.heap.get? := funext h
  rw [e] <;> rfl
theorem SaysX.at_ {file : Str} {fa : List Fa} {fn : List DefD} {cs : List Str} {xs : List XD} {ns : List Str} {K : PySem.W.Frag} (c : SaysX file fa fn cs xs ns K) (i : Nat) {d : XD} (h : xs[i]? = some d := by rfl) : excB file K xs d = true ∧ fnX K d = d.val := by
  refine ⟨List.all_eq_true.mp (Bool.and_eq_true_iff.mp c.2.1).1 d (List.mem_of_getElem? h), ?_⟩
  have e : (xs.map (fnX K))[i]? = (xs.map XD.val)[i]? := by rw [c.2.2]
  rw [List.getElem?_map, List.getElem?_map, h] at e
  exact Option.some.inj e
end VmH

set_option maxHeartbeats 0
namespace Hd
open PySem PySem.Spec PyProof.Rows L2
def top (i : Nat) : Stmt := PySem.Challenge.pw_hushedasks_k70_texts_of_books.main.body.getD i (.Pass ⟨0, 0, 0, 0⟩)
abbrev s0 : Stmt := inClass (top 19) 8  -- Book.__eq__
abbrev s1 : Stmt := inClass (top 19) 0  -- Book.__init__
abbrev s2 : Stmt := inClass (top 19) 7  -- Book.all_lists
abbrev s3 : Stmt := inClass (top 19) 3  -- Book.deeds
abbrev s4 : Stmt := inClass (top 19) 4  -- Book.hearings
abbrev s5 : Stmt := inClass (top 19) 1  -- Book.houses
abbrev s6 : Stmt := inClass (top 19) 5  -- Book.lost
abbrev s7 : Stmt := inClass (top 19) 2  -- Book.stands
abbrev s8 : Stmt := top 35  -- _law_book
abbrev s9 : Stmt := top 30  -- _law_cell
abbrev s10 : Stmt := top 31  -- _law_entry_drawn
abbrev s11 : Stmt := top 33  -- _law_generator
abbrev s12 : Stmt := top 29  -- _law_hash
abbrev s13 : Stmt := top 36  -- _law_lines
abbrev s14 : Stmt := top 34  -- _law_parts
abbrev s15 : Stmt := top 32  -- _law_random
abbrev s16 : Stmt := top 37  -- _law_spaced
abbrev s17 : Stmt := top 26  -- book_in
abbrev s18 : Stmt := top 20  -- check_book
abbrev s19 : Stmt := top 17  -- check_names
abbrev s20 : Stmt := top 16  -- check_size
abbrev s21 : Stmt := top 18  -- is_entry
abbrev s22 : Stmt := top 14  -- is_name
abbrev s23 : Stmt := top 15  -- is_one_of
abbrev s24 : Stmt := top 38  -- law
abbrev s25 : Stmt := top 27  -- read_book
abbrev s26 : Stmt := top 25  -- rows_in
abbrev s27 : Stmt := top 24  -- text_of
set_option maxHeartbeats 0
def d0 : He.DefD := ⟨("Book", some "__eq__"), "__eq__", "Book.__eq__", defArgs s0, defBody s0, defScope s0, [], []⟩
def d1 : He.DefD := ⟨("Book", some "__init__"), "__init__", "Book.__init__", defArgs s1, defBody s1, defScope s1, [], []⟩
def d2 : He.DefD := ⟨("Book", some "all_lists"), "all_lists", "Book.all_lists", defArgs s2, defBody s2, defScope s2, [], []⟩
def d3 : He.DefD := ⟨("Book", some "deeds"), "deeds", "Book.deeds", defArgs s3, defBody s3, defScope s3, [], []⟩
def d4 : He.DefD := ⟨("Book", some "hearings"), "hearings", "Book.hearings", defArgs s4, defBody s4, defScope s4, [], []⟩
def d5 : He.DefD := ⟨("Book", some "houses"), "houses", "Book.houses", defArgs s5, defBody s5, defScope s5, [], []⟩
def d6 : He.DefD := ⟨("Book", some "lost"), "lost", "Book.lost", defArgs s6, defBody s6, defScope s6, [], []⟩
def d7 : He.DefD := ⟨("Book", some "stands"), "stands", "Book.stands", defArgs s7, defBody s7, defScope s7, [], []⟩
def d8 : He.DefD := ⟨("_law_book", none), "_law_book", "_law_book", defArgs s8, defBody s8, defScope s8, [], []⟩
def d9 : He.DefD := ⟨("_law_cell", none), "_law_cell", "_law_cell", defArgs s9, defBody s9, defScope s9, [], []⟩
def d10 : He.DefD := ⟨("_law_entry_drawn", none), "_law_entry_drawn", "_law_entry_drawn", defArgs s10, defBody s10, defScope s10, [], []⟩
def d11 : He.DefD := ⟨("_law_generator", none), "_law_generator", "_law_generator", defArgs s11, defBody s11, defScope s11, [], []⟩
def d12 : He.DefD := ⟨("_law_hash", none), "_law_hash", "_law_hash", defArgs s12, defBody s12, defScope s12, [], []⟩
def d13 : He.DefD := ⟨("_law_lines", none), "_law_lines", "_law_lines", defArgs s13, defBody s13, defScope s13, [], []⟩
def d14 : He.DefD := ⟨("_law_parts", none), "_law_parts", "_law_parts", defArgs s14, defBody s14, defScope s14, [], []⟩
def d15 : He.DefD := ⟨("_law_random", none), "_law_random", "_law_random", defArgs s15, defBody s15, defScope s15, [], []⟩
def d16 : He.DefD := ⟨("_law_spaced", none), "_law_spaced", "_law_spaced", defArgs s16, defBody s16, defScope s16, [], []⟩
def d17 : He.DefD := ⟨("book_in", none), "book_in", "book_in", defArgs s17, defBody s17, defScope s17, [], []⟩
def d18 : He.DefD := ⟨("check_book", none), "check_book", "check_book", defArgs s18, defBody s18, defScope s18, [], []⟩
def d19 : He.DefD := ⟨("check_names", none), "check_names", "check_names", defArgs s19, defBody s19, defScope s19, [], []⟩
def d20 : He.DefD := ⟨("check_size", none), "check_size", "check_size", defArgs s20, defBody s20, defScope s20, [], []⟩
def d21 : He.DefD := ⟨("is_entry", none), "is_entry", "is_entry", defArgs s21, defBody s21, defScope s21, [], []⟩
def d22 : He.DefD := ⟨("is_name", none), "is_name", "is_name", defArgs s22, defBody s22, defScope s22, [], []⟩
def d23 : He.DefD := ⟨("is_one_of", none), "is_one_of", "is_one_of", defArgs s23, defBody s23, defScope s23, [], []⟩
def d24 : He.DefD := ⟨("law", none), "law", "law", defArgs s24, defBody s24, defScope s24, [], []⟩
def d25 : He.DefD := ⟨("read_book", none), "read_book", "read_book", defArgs s25, defBody s25, defScope s25, [], []⟩
def d26 : He.DefD := ⟨("rows_in", none), "rows_in", "rows_in", defArgs s26, defBody s26, defScope s26, [], []⟩
def d27 : He.DefD := ⟨("text_of", none), "text_of", "text_of", defArgs s27, defBody s27, defScope s27, [], []⟩
def fn : List He.DefD := [d0, d1, d2, d3, d4, d5, d6, d7, d8, d9, d10, d11, d12, d13, d14, d15, d16, d17, d18, d19, d20, d21, d22, d23, d24, d25, d26, d27]
def fa0 : List He.Fa := [.glo "_law_book", .glo "_law_cell", .glo "_law_entry_drawn", .glo "_law_generator", .glo "_law_hash", .glo "_law_lines", .glo "_law_parts", .glo "_law_random", .glo "_law_spaced", .glo "book_in", .glo "check_book", .glo "check_names", .glo "check_size", .glo "is_entry", .glo "is_name", .glo "is_one_of", .glo "law", .glo "read_book", .glo "rows_in", .glo "text_of", .glo "Book", .cls "Book", .mkr "Book", .meth "Book" "all_lists", .meth "Book" "deeds", .meth "Book" "hearings", .meth "Book" "houses", .meth "Book" "lost", .meth "Book" "stands", .noat "Book" "homes"]
def fa1 : List He.Fa := [.noat "Book" "places", .noat "Book" "acts", .noat "Book" "ears", .noat "Book" "losses", .noat "Book" "known", .glo "HEADS", .str "LETTERS" "abcdefghijklmnopqrstuvwxyz", .int "MOST_DEEDS" 10, .int "MOST_HEARINGS" 12, .int "MOST_HOUSES" 3, .int "MOST_LETTERS" 8, .int "MOST_LOST" 4, .int "MOST_STANDS" 4, .str "NONE" "_", .free "enumerate", .free "int", .free "isinstance", .free "len", .free "list", .free "max", .free "range", .free "repr", .free "str", .free "tuple", .glo "InvalidBook", .glo "HushError", .free "super"]
def fa : List He.Fa := fa0 ++ fa1
def lo0 : List Str := ["HushError", "InvalidList", "InvalidItem", "InvalidBook", "InvalidText", "LETTERS", "MOST_LETTERS", "MOST_HOUSES", "MOST_STANDS", "MOST_DEEDS", "MOST_HEARINGS", "MOST_LOST", "is_name", "is_one_of", "check_size", "check_names", "is_entry", "Book", "check_book", "HEADS", "NONE", "text_of", "rows_in", "book_in", "read_book", "_law_hash", "_law_cell", "_law_entry_drawn", "_law_random", "_law_generator"]
def lo1 : List Str := ["_law_parts", "_law_book", "_law_lines", "_law_spaced"]
def loose : List Str := lo0 ++ lo1
def x0 : VmH.XD := ⟨"InvalidBook", "value", inClass (top 4) 0⟩
def xs : List VmH.XD := [x0]
def ns : List Str := ["Book", "HEADS"]
abbrev R : PySem.W.OpenRow := PySem.W.OpenLaw.row PySem.Challenge.rw_hushedasks_k70_texts_of_books
def cs : List Str := ["Book"]
abbrev hk : PySem.W.Hook := VmH.hookX 5 "/claim/cut.py" fa fn cs xs ns
def ob (s : PySem.W.SharedT) : VmH.AlX := VmH.obsX 5 "/claim/cut.py" fa fn cs xs ns (HandSHeadRun.getT s)
theorem ob_eq (s : PySem.W.SharedT) : ob s = hk.obs s.abs := VmH.obsX_eq (HandSHeadRun.getT_eq s)
theorem run (w : World) : HandSHeadRun.RunEq R (PySem.W.view R.prog [38]) hk ob 20000 loose w := by
  intro os
  kernel_rfl
end Hd

set_option maxHeartbeats 1000000
namespace Vm
open PySem L2

inductive D where
  | non | bl (b : Bool) | int (i : Int) | str (x : Str)
  | tup (xs : List D) | tux (xs : List D) | lst (xs : List D) | rol (xs : List D)
  | dic (kvs : List (D × D)) | dix (kvs : List (D × D)) | ins (c : Nat) (fs : List D)
  | olst (xs : List D) | odic (kvs : List (D × D)) | odix (kvs : List (D × D)) | oins (c : Nat) (t : Bool) (fs : List D)
  | loc (n : Nat)
  | exn (c : Nat) (ds : List D)
  | fn (ds : List D) | otbl (q : Str) | otup (xs : List D)

abbrev Mu := List (Option D)
structure En where
  sl : List (Option D)
  mu : Mu
inductive Ix where
  | s (i : Nat) | m (n : Nat)
  deriving DecidableEq
def En.at (e : En) : Ix → Option D
  | .s i => e.sl[i]?.getD none
  | .m n => e.mu[n]?.getD none
def En.put (e : En) : Ix → Option D → En
  | .s i, d => ⟨e.sl.set i d, e.mu⟩
  | .m n, d => ⟨e.sl, e.mu.set n d⟩
inductive Rs (α : Type) where
  | ok (a : α) (e : En)
  | exc (c : Nat) (x : Option D) (e : En)
  | stuck
def Rs.bind {α β : Type} (r : Rs α) (k : α → En → Rs β) : Rs β := match r with
  | .ok a e => k a e
  | .exc c x e => .exc c x e
  | .stuck => .stuck
abbrev EM := En → Rs D
abbrev TM := En → Rs Bool
abbrev LM := En → Rs (List D)
def lift {α : Type} (o : Option α) (e : En) : Rs α := match o with
  | some a => .ok a e
  | none => .stuck

structure Wd where
  P : Program
  W : World
  K : PySem.W.Frag
  cls : Nat → Addr
  flds : Nat → List Str
  self : Option Addr
  lam : Option (Addr × Addr × Str × List V)
structure Gs where
  F : Hp
  ρ : Nat → Option Addr
structure Gs.le (G G' : Gs) : Prop where
  f : ∀ a u, G.F a = some u → G'.F a = some u
  r : ∀ n a, G.ρ n = some a → G'.ρ n = some a
theorem Gs.le.refl (G : Gs) : G.le G := ⟨fun _ _ h => h, fun _ _ h => h⟩
theorem Gs.le.trans {G G' G'' : Gs} (a : G.le G') (b : G'.le G'') : G.le G'' := ⟨fun x u h => b.f x u (a.f x u h), fun n x h => b.r n x (a.r n x h)⟩

def dkey : D → Option Key
  | .int i => some (.inl i)
  | .str x => if PyData.strOk x then some (.inr x) else none
  | _ => none
mutual
def dnest : D → Option NestedKey
  | .non => some .none
  | .bl b => some (.num (if b then 1 else 0))
  | .int i => some (.num i)
  | .str x => some (.text x)
  | .tup xs => (dnestL xs).map .tup
  | .tux xs => (dnestL xs).map .tup
  | _ => none
def dnestL : List D → Option (List NestedKey)
  | [] => some []
  | x :: xs => (dnest x).bind fun k => (dnestL xs).map (k :: ·)
end
def nst (w : Wd) (d : Addr) (es : List (NestedKey × Addr × V)) : HO := .ext fun h => (d == sysModules) = false ∧ ∃ (xs : List (NestedKey × Addr × Value)) (o : Obj) (ea : Array DictEntry) (ep : Nat),
  Paired (fun (p : NestedKey × Addr × V) (q : NestedKey × Addr × Value) => p.1 = q.1 ∧ p.2.1 = q.2.1 ∧ RelV p.2.2 q.2.2) es xs ∧ h.get? d = some o ∧ o.ExactDict ∧ o.data = .dict ea ep ∧ ea.toList = xs.map (entryOfKey (nestedKind w.P w.W)) ∧ (xs.map (·.1)).Nodup

def exH (C d a : Addr) : HO := .ext fun h => ∃ (oe : Obj) (vs : Array Value), h.get? a = some oe ∧ oe.cls = .ref C ∧ oe.dict = some d ∧ oe.data = .fields vs
mutual
def Fz (w : Wd) (G : Gs) : D → V → Prop
  | .non, v => v = .non
  | .bl b, v => v = .bl b
  | .int i, v => v = .int i
  | .str x, v => v = .str x ∧ PyData.strOk x = true
  | .tup ds, v => ∃ a vs, v = .ref a ∧ G.F a = some (.tup vs) ∧ ds.length ≤ sizeLine ∧ FzL w G ds vs
  | .tux ds, v => ∃ a o vs, v = .ref a ∧ G.F a = some (.frz o (.tup vs)) ∧ o.dict = none ∧ ds.length ≤ sizeLine ∧ FzL w G ds vs
  | .lst ds, v => ∃ a vs, v = .ref a ∧ G.F a = some (.lst vs) ∧ ds.length ≤ sizeLine ∧ FzL w G ds vs
  | .rol ds, v => ∃ a vs, v = .ref a ∧ SqL w.K G.F a vs ∧ ds.length ≤ sizeLine ∧ FzL w G ds vs
  | .dic kvs, v => ∃ a o ks, v = .ref a ∧ G.F a = some (.frz o (.dK ks)) ∧ kvs.length ≤ sizeLine ∧ FzK w G kvs ks
  | .dix kvs, v => ∃ a o es, v = .ref a ∧ G.F a = some (.frz o (nst w a es)) ∧ kvs.length ≤ sizeLine ∧ FzN w G kvs es
  | .ins c ds, v => ∃ a dx vs, v = .ref a ∧ G.F a = some (.ins (w.cls c) dx ((w.flds c).zip vs)) ∧ ds.length = (w.flds c).length ∧ FzL w G ds vs
  | .olst _, _ => False
  | .odic _, _ => False
  | .odix _, _ => False
  | .oins _ _ _, _ => False
  | .loc n, v => ∃ a, v = .ref a ∧ G.ρ n = some a
  | .exn c ds, v => ∃ a d vs, v = .ref a ∧ G.F a = some (exH (w.cls c) d a) ∧ G.F d = some (.xd ((w.flds c).zip vs)) ∧ ds.length = (w.flds c).length ∧ FzL w G ds vs
  | .fn ds, v => ∃ a c q vs, w.lam = some (a, c, q, vs) ∧ v = .ref a ∧ G.F c = some (LamX.CodeO c q) ∧ FzL w G ds vs
  | .otbl _, _ => False
  | .otup _, _ => False
def FzL (w : Wd) (G : Gs) : List D → List V → Prop
  | [], vs => vs = []
  | d :: ds, vs => ∃ v r, vs = v :: r ∧ Fz w G d v ∧ FzL w G ds r
def FzK (w : Wd) (G : Gs) : List (D × D) → List (Key × V) → Prop
  | [], ks => ks = []
  | (k, d) :: r, ks => ∃ key v t, ks = (key, v) :: t ∧ dkey k = some key ∧ Fz w G d v ∧ FzK w G r t
def FzN (w : Wd) (G : Gs) : List (D × D) → List (NestedKey × Addr × V) → Prop
  | [], es => es = []
  | (k, d) :: r, es => ∃ nk a v t, es = (nk, a, v) :: t ∧ dnest k = some nk ∧ nk.depth ≤ 8 ∧ Fz w G k (.ref a) ∧ Fz w G d v ∧ FzN w G r t
end
section
variable {w : Wd} {G G' : Gs}
theorem fz_non {v : V} : Fz w G .non v ↔ v = .non := by simp [Fz]
theorem fz_bl {x : Bool} {v : V} : Fz w G (.bl x) v ↔ v = .bl x := by simp [Fz]
theorem fz_int {x : Int} {v : V} : Fz w G (.int x) v ↔ v = .int x := by simp [Fz]
theorem fz_str {x : Str} {v : V} : Fz w G (.str x) v ↔ v = .str x ∧ PyData.strOk x = true := by simp [Fz]
theorem fz_tup {ds : List D} {v : V} : Fz w G (.tup ds) v ↔ ∃ a vs, v = .ref a ∧ G.F a = some (.tup vs) ∧ ds.length ≤ sizeLine ∧ FzL w G ds vs := by simp [Fz]
theorem fz_tux {ds : List D} {v : V} : Fz w G (.tux ds) v ↔ ∃ a o vs, v = .ref a ∧ G.F a = some (.frz o (.tup vs)) ∧ o.dict = none ∧ ds.length ≤ sizeLine ∧ FzL w G ds vs := by simp [Fz]
theorem fz_lst {ds : List D} {v : V} : Fz w G (.lst ds) v ↔ ∃ a vs, v = .ref a ∧ G.F a = some (.lst vs) ∧ ds.length ≤ sizeLine ∧ FzL w G ds vs := by simp [Fz]
theorem fz_rol {ds : List D} {v : V} : Fz w G (.rol ds) v ↔ ∃ a vs, v = .ref a ∧ SqL w.K G.F a vs ∧ ds.length ≤ sizeLine ∧ FzL w G ds vs := by simp [Fz]
theorem fz_dic {kvs : List (D × D)} {v : V} : Fz w G (.dic kvs) v ↔ ∃ a o ks, v = .ref a ∧ G.F a = some (.frz o (.dK ks)) ∧ kvs.length ≤ sizeLine ∧ FzK w G kvs ks := by simp [Fz]
theorem fz_dix {kvs : List (D × D)} {v : V} : Fz w G (.dix kvs) v ↔ ∃ a o es, v = .ref a ∧ G.F a = some (.frz o (nst w a es)) ∧ kvs.length ≤ sizeLine ∧ FzN w G kvs es := by simp [Fz]
theorem fz_ins {c : Nat} {ds : List D} {v : V} : Fz w G (.ins c ds) v ↔ ∃ a dx vs, v = .ref a ∧ G.F a = some (.ins (w.cls c) dx ((w.flds c).zip vs)) ∧ ds.length = (w.flds c).length ∧ FzL w G ds vs := by simp [Fz]
theorem fz_loc {n : Nat} {v : V} : Fz w G (.loc n) v ↔ ∃ a, v = .ref a ∧ G.ρ n = some a := by simp [Fz]
theorem fz_fn {ds : List D} {v : V} : Fz w G (.fn ds) v ↔ ∃ a c q vs, w.lam = some (a, c, q, vs) ∧ v = .ref a ∧ G.F c = some (LamX.CodeO c q) ∧ FzL w G ds vs := by simp only [Fz]
theorem fz_exn {c : Nat} {ds : List D} {v : V} : Fz w G (.exn c ds) v ↔ ∃ a d vs, v = .ref a ∧ G.F a = some (exH (w.cls c) d a) ∧ G.F d = some (.xd ((w.flds c).zip vs)) ∧ ds.length = (w.flds c).length ∧ FzL w G ds vs := by simp [Fz]
theorem fzl_nil {vs : List V} : FzL w G [] vs ↔ vs = [] := by simp [FzL]
theorem fzl_cons {d : D} {ds : List D} {vs : List V} : FzL w G (d :: ds) vs ↔ ∃ v r, vs = v :: r ∧ Fz w G d v ∧ FzL w G ds r := by simp [FzL]
theorem fzk_nil {vs : List (Key × V)} : FzK w G [] vs ↔ vs = [] := by simp [FzK]
theorem fzk_cons {k d : D} {r : List (D × D)} {ks : List (Key × V)} : FzK w G ((k, d) :: r) ks ↔ ∃ key v t, ks = (key, v) :: t ∧ dkey k = some key ∧ Fz w G d v ∧ FzK w G r t := by simp [FzK]
theorem fzn_nil {vs : List (NestedKey × Addr × V)} : FzN w G [] vs ↔ vs = [] := by simp [FzN]
theorem fzn_cons {k d : D} {r : List (D × D)} {es : List (NestedKey × Addr × V)} : FzN w G ((k, d) :: r) es ↔ ∃ nk a v t, es = (nk, a, v) :: t ∧ dnest k = some nk ∧ nk.depth ≤ 8 ∧ Fz w G k (.ref a) ∧ Fz w G d v ∧ FzN w G r t := by simp [FzN]
theorem FzL.length : ∀ {ds : List D} {vs : List V}, FzL w G ds vs → vs.length = ds.length
  | [], vs, h => by
    rw [fzl_nil.mp h]
    rfl
  | d :: ds, vs, h => by
    obtain ⟨v, r, rfl, _, h2⟩ := fzl_cons.mp h
    simp [FzL.length h2]
theorem FzL.get : ∀ {ds : List D} {vs : List V} {i : Nat} {d : D}, FzL w G ds vs → ds[i]? = some d → ∃ v, vs[i]? = some v ∧ Fz w G d v
  | [], vs, i, d, h, e => by simp at e
  | d :: ds, vs, 0, d', h, e => by
    obtain ⟨v, r, rfl, h1, _⟩ := fzl_cons.mp h
    simp at e
    subst e
    exact ⟨v, rfl, h1⟩
  | d :: ds, vs, i + 1, d', h, e => by
    obtain ⟨v, r, rfl, _, h2⟩ := fzl_cons.mp h
    obtain ⟨v', e', z⟩ := FzL.get (i := i) h2 (by simpa using e)
    exact ⟨v', by simpa using e', z⟩
theorem FzL.append : ∀ {ds ds' : List D} {vs vs' : List V}, FzL w G ds vs → FzL w G ds' vs' → FzL w G (ds ++ ds') (vs ++ vs')
  | [], ds', vs, vs', h, h' => by
    rw [fzl_nil.mp h]
    exact h'
  | d :: ds, ds', vs, vs', h, h' => by
    obtain ⟨v, r, rfl, h1, h2⟩ := fzl_cons.mp h
    exact fzl_cons.mpr ⟨v, r ++ vs', rfl, h1, FzL.append h2 h'⟩
theorem FzL.one {d : D} {v : V} (h : Fz w G d v) : FzL w G [d] [v] := fzl_cons.mpr ⟨v, [], rfl, h, fzl_nil.mpr rfl⟩
theorem FzL.take : ∀ {ds : List D} {vs : List V} (n : Nat), FzL w G ds vs → FzL w G (ds.take n) (vs.take n)
  | [], vs, n, h => by
    rw [fzl_nil.mp h]
    simp [FzL]
  | d :: ds, vs, 0, h => by simp [FzL]
  | d :: ds, vs, n + 1, h => by
    obtain ⟨v, r, rfl, h1, h2⟩ := fzl_cons.mp h
    exact fzl_cons.mpr ⟨v, r.take n, rfl, h1, h2.take n⟩
theorem FzL.drop : ∀ {ds : List D} {vs : List V} (n : Nat), FzL w G ds vs → FzL w G (ds.drop n) (vs.drop n)
  | [], vs, n, h => by
    rw [fzl_nil.mp h]
    simp [FzL]
  | d :: ds, vs, 0, h => h
  | d :: ds, vs, n + 1, h => by
    obtain ⟨v, r, rfl, h1, h2⟩ := fzl_cons.mp h
    exact h2.drop n
theorem FzL.set : ∀ {ds : List D} {vs : List V} (n : Nat) {d : D} {v : V}, FzL w G ds vs → Fz w G d v → FzL w G (ds.set n d) (vs.set n v)
  | [], vs, n, d, v, h, z => by
    rw [fzl_nil.mp h]
    simp [FzL]
  | d' :: ds, vs, 0, d, v, h, z => by
    obtain ⟨v', r, rfl, h1, h2⟩ := fzl_cons.mp h
    exact fzl_cons.mpr ⟨v, r, rfl, z, h2⟩
  | d' :: ds, vs, n + 1, d, v, h, z => by
    obtain ⟨v', r, rfl, h1, h2⟩ := fzl_cons.mp h
    exact fzl_cons.mpr ⟨v', r.set n v, rfl, h1, FzL.set n h2 z⟩
theorem FzL.of : ∀ {ds : List D} {vs : List V}, vs.length = ds.length → (∀ (i : Nat) (d : D) (v : V), ds[i]? = some d → vs[i]? = some v → Fz w G d v) → FzL w G ds vs
  | [], [], _, _ => fzl_nil.mpr rfl
  | [], _ :: _, h, _ => by simp at h
  | _ :: _, [], h, _ => by simp at h
  | d :: ds, v :: vs, h, k => fzl_cons.mpr ⟨v, vs, rfl, k 0 d v rfl rfl, FzL.of (by simpa using h) fun i d' v' h1 h2 => k (i + 1) d' v' (by simpa using h1) (by simpa using h2)⟩
theorem FzK.length : ∀ {ds : List (D × D)} {vs : List (Key × V)}, FzK w G ds vs → vs.length = ds.length
  | [], vs, h => by
    rw [fzk_nil.mp h]
    rfl
  | (k, d) :: ds, vs, h => by
    obtain ⟨key, v, r, rfl, _, _, h2⟩ := fzk_cons.mp h
    simp [FzK.length h2]
theorem FzN.length : ∀ {ds : List (D × D)} {vs : List (NestedKey × Addr × V)}, FzN w G ds vs → vs.length = ds.length
  | [], vs, h => by
    rw [fzn_nil.mp h]
    rfl
  | (k, d) :: ds, vs, h => by
    obtain ⟨_, _, _, r, rfl, _, _, _, _, h2⟩ := fzn_cons.mp h
    simp [FzN.length h2]
theorem SqL.mono {K : PySem.W.Frag} {F F' : Hp} {a : Addr} {xs : List V} (k : ∀ a u, F a = some u → F' a = some u) (h : SqL K F a xs) : SqL K F' a xs := by
  rcases h with (h | ⟨o, h⟩) | h
  · exact .inl (.inl (k _ _ h))
  · exact .inl (.inr ⟨o, k _ _ h⟩)
  · exact .inr h
mutual
theorem Fz.mono (k : G.le G') : ∀ {d : D} {v : V}, Fz w G d v → Fz w G' d v
  | .non, v, h => by simpa [Fz] using h
  | .bl b, v, h => by simpa [Fz] using h
  | .int i, v, h => by simpa [Fz] using h
  | .str x, v, h => by simpa [Fz] using h
  | .tup ds, v, h => by
    unfold Fz at h ⊢
    obtain ⟨a, vs, rfl, h1, h2, h3⟩ := h
    exact ⟨a, vs, rfl, k.f _ _ h1, h2, FzL.mono k h3⟩
  | .tux ds, v, h => by
    unfold Fz at h ⊢
    obtain ⟨a, o, vs, rfl, h1, hd, h2, h3⟩ := h
    exact ⟨a, o, vs, rfl, k.f _ _ h1, hd, h2, FzL.mono k h3⟩
  | .lst ds, v, h => by
    unfold Fz at h ⊢
    obtain ⟨a, vs, rfl, h1, h2, h3⟩ := h
    exact ⟨a, vs, rfl, k.f _ _ h1, h2, FzL.mono k h3⟩
  | .rol ds, v, h => by
    unfold Fz at h ⊢
    obtain ⟨a, vs, rfl, h1, h2, h3⟩ := h
    exact ⟨a, vs, rfl, SqL.mono k.f h1, h2, FzL.mono k h3⟩
  | .dic ds, v, h => by
    unfold Fz at h ⊢
    obtain ⟨a, o, vs, rfl, h1, h2, h3⟩ := h
    exact ⟨a, o, vs, rfl, k.f _ _ h1, h2, FzK.mono k h3⟩
  | .dix ds, v, h => by
    unfold Fz at h ⊢
    obtain ⟨a, o, vs, rfl, h1, h2, h3⟩ := h
    exact ⟨a, o, vs, rfl, k.f _ _ h1, h2, FzN.mono k h3⟩
  | .ins c ds, v, h => by
    unfold Fz at h ⊢
    obtain ⟨a, dx, vs, rfl, h1, h2, h3⟩ := h
    exact ⟨a, dx, vs, rfl, k.f _ _ h1, h2, FzL.mono k h3⟩
  | .olst _, v, h => by simp [Fz] at h
  | .odic _, v, h => by simp [Fz] at h
  | .odix _, v, h => by simp [Fz] at h
  | .oins _ _ _, v, h => by simp [Fz] at h
  | .loc n, v, h => by
    unfold Fz at h ⊢
    obtain ⟨a, rfl, h1⟩ := h
    exact ⟨a, rfl, k.r _ _ h1⟩
  | .exn c ds, v, h => by
    unfold Fz at h ⊢
    obtain ⟨a, d, vs, rfl, h1, h2, h3, h4⟩ := h
    exact ⟨a, d, vs, rfl, k.f _ _ h1, k.f _ _ h2, h3, FzL.mono k h4⟩
  | .fn ds, v, h => by
    unfold Fz at h ⊢
    obtain ⟨a, c, q, vs, h1, h2, h3, h4⟩ := h
    exact ⟨a, c, q, vs, h1, h2, k.f _ _ h3, FzL.mono k h4⟩
  | .otbl _, v, h => by simp [Fz] at h
  | .otup _, v, h => by simp [Fz] at h
theorem FzL.mono (k : G.le G') : ∀ {ds : List D} {vs : List V}, FzL w G ds vs → FzL w G' ds vs
  | [], vs, h => fzl_nil.mpr (fzl_nil.mp h)
  | d :: ds, vs, h => by
    obtain ⟨v, r, rfl, h1, h2⟩ := fzl_cons.mp h
    exact fzl_cons.mpr ⟨v, r, rfl, Fz.mono k h1, FzL.mono k h2⟩
theorem FzK.mono (k : G.le G') : ∀ {ds : List (D × D)} {vs : List (Key × V)}, FzK w G ds vs → FzK w G' ds vs
  | [], vs, h => fzk_nil.mpr (fzk_nil.mp h)
  | (_, d) :: ds, vs, h => by
    obtain ⟨key, v, r, rfl, h0, h1, h2⟩ := fzk_cons.mp h
    exact fzk_cons.mpr ⟨key, v, r, rfl, h0, Fz.mono k h1, FzK.mono k h2⟩
theorem FzN.mono (k : G.le G') : ∀ {ds : List (D × D)} {vs : List (NestedKey × Addr × V)}, FzN w G ds vs → FzN w G' ds vs
  | [], vs, h => fzn_nil.mpr (fzn_nil.mp h)
  | (kd, d) :: ds, vs, h => by
    obtain ⟨key, a, v, r, rfl, h0, hd, h1, h3, h2⟩ := fzn_cons.mp h
    exact fzn_cons.mpr ⟨key, a, v, r, rfl, h0, hd, Fz.mono k h1, Fz.mono k h3, FzN.mono k h2⟩
end
end

mutual
def Own (w : Wd) (G : Gs) (H : Hp) : D → V → List Addr → Prop
  | .olst ds, v, l => ∃ a vs l', v = .ref a ∧ H a = some (.lst vs) ∧ ds.length ≤ sizeLine ∧ OwnL w G H ds vs l' ∧ l = a :: l'
  | .odic kvs, v, l => ∃ a ks l', v = .ref a ∧ H a = some (.dK ks) ∧ kvs.length ≤ sizeLine ∧ OwnK w G H kvs ks l' ∧ l = a :: l'
  | .odix kvs, v, l => ∃ a es l', v = .ref a ∧ H a = some (nst w a es) ∧ kvs.length ≤ sizeLine ∧ OwnN w G H kvs es l' ∧ l = a :: l'
  | .oins c t ds, v, l => ∃ a dx vs l', v = .ref a ∧ (t = true → w.self = some a) ∧ H a = some (.ins (w.cls c) dx (((w.flds c).take ds.length).zip vs)) ∧ ds.length ≤ (w.flds c).length ∧ OwnL w G H ds vs l' ∧ l = a :: l'
  | .non, v, l => v = .non ∧ l = []
  | .bl b, v, l => v = .bl b ∧ l = []
  | .int i, v, l => v = .int i ∧ l = []
  | .str x, v, l => (v = .str x ∧ PyData.strOk x = true) ∧ l = []
  | .tup ds, v, l => Fz w G (.tup ds) v ∧ l = []
  | .tux ds, v, l => Fz w G (.tux ds) v ∧ l = []
  | .lst ds, v, l => Fz w G (.lst ds) v ∧ l = []
  | .rol ds, v, l => Fz w G (.rol ds) v ∧ l = []
  | .dic kvs, v, l => Fz w G (.dic kvs) v ∧ l = []
  | .dix kvs, v, l => Fz w G (.dix kvs) v ∧ l = []
  | .ins c ds, v, l => Fz w G (.ins c ds) v ∧ l = []
  | .loc n, v, l => Fz w G (.loc n) v ∧ l = []
  | .exn c ds, v, l => Fz w G (.exn c ds) v ∧ l = []
  | .fn ds, v, l => Fz w G (.fn ds) v ∧ l = []
  | .otbl q, v, l => ∃ P ps, v = .ref P ∧ H P = some (.tbl ps) ∧ TriplesOk ps.toList ∧ ((∀ (pos : Pos) (cv : Value), codeAmong pos ps.toList = some cv → ∃ c, cv = .ref c ∧ G.F c = some (LamX.CodeO c q)) ∧ P = w.cls 999) ∧ l = [P]
  | .otup ds, v, l => ∃ a vs l', v = .ref a ∧ H a = some (.tup vs) ∧ ds.length ≤ sizeLine ∧ OwnL w G H ds vs l' ∧ l = a :: l'
def OwnL (w : Wd) (G : Gs) (H : Hp) : List D → List V → List Addr → Prop
  | [], vs, l => vs = [] ∧ l = []
  | d :: ds, vs, l => ∃ v r l1 l2, vs = v :: r ∧ Own w G H d v l1 ∧ OwnL w G H ds r l2 ∧ l = l1 ++ l2
def OwnK (w : Wd) (G : Gs) (H : Hp) : List (D × D) → List (Key × V) → List Addr → Prop
  | [], ks, l => ks = [] ∧ l = []
  | (k, d) :: r, ks, l => ∃ key v t l1 l2, ks = (key, v) :: t ∧ dkey k = some key ∧ Own w G H d v l1 ∧ OwnK w G H r t l2 ∧ l = l1 ++ l2
def OwnN (w : Wd) (G : Gs) (H : Hp) : List (D × D) → List (NestedKey × Addr × V) → List Addr → Prop
  | [], es, l => es = [] ∧ l = []
  | (k, d) :: r, es, l => ∃ nk a v t l1 l2, es = (nk, a, v) :: t ∧ dnest k = some nk ∧ nk.depth ≤ 8 ∧ Fz w G k (.ref a) ∧ Own w G H d v l1 ∧ OwnN w G H r t l2 ∧ l = l1 ++ l2
end
def isF : D → Bool
  | .olst _ => false
  | .odic _ => false
  | .odix _ => false
  | .oins _ _ _ => false
  | .otbl _ => false
  | .otup _ => false
  | _ => true
section
variable {w : Wd} {G G' : Gs} {H H' : Hp}
theorem own_otbl {q : Str} {v : V} {l : List Addr} : Own w G H (.otbl q) v l ↔ ∃ P ps, v = .ref P ∧ H P = some (.tbl ps) ∧ TriplesOk ps.toList ∧ ((∀ (pos : Pos) (cv : Value), codeAmong pos ps.toList = some cv → ∃ c, cv = .ref c ∧ G.F c = some (LamX.CodeO c q)) ∧ P = w.cls 999) ∧ l = [P] := by simp [Own]
theorem own_olst {ds : List D} {v : V} {l : List Addr} : Own w G H (.olst ds) v l ↔ ∃ a vs l', v = .ref a ∧ H a = some (.lst vs) ∧ ds.length ≤ sizeLine ∧ OwnL w G H ds vs l' ∧ l = a :: l' := by simp [Own]
theorem own_otup {ds : List D} {v : V} {l : List Addr} : Own w G H (.otup ds) v l ↔ ∃ a vs l', v = .ref a ∧ H a = some (.tup vs) ∧ ds.length ≤ sizeLine ∧ OwnL w G H ds vs l' ∧ l = a :: l' := by simp [Own]
theorem own_odic {ds : List (D × D)} {v : V} {l : List Addr} : Own w G H (.odic ds) v l ↔ ∃ a ks l', v = .ref a ∧ H a = some (.dK ks) ∧ ds.length ≤ sizeLine ∧ OwnK w G H ds ks l' ∧ l = a :: l' := by simp [Own]
theorem own_odix {ds : List (D × D)} {v : V} {l : List Addr} : Own w G H (.odix ds) v l ↔ ∃ a es l', v = .ref a ∧ H a = some (nst w a es) ∧ ds.length ≤ sizeLine ∧ OwnN w G H ds es l' ∧ l = a :: l' := by simp [Own]
theorem own_oins {c : Nat} {t : Bool} {ds : List D} {v : V} {l : List Addr} : Own w G H (.oins c t ds) v l ↔ ∃ a dx vs l', v = .ref a ∧ (t = true → w.self = some a) ∧ H a = some (.ins (w.cls c) dx (((w.flds c).take ds.length).zip vs)) ∧ ds.length ≤ (w.flds c).length ∧ OwnL w G H ds vs l' ∧ l = a :: l' := by simp [Own]
theorem own_fz {d : D} {v : V} {l : List Addr} (h : isF d = true) : Own w G H d v l ↔ Fz w G d v ∧ l = [] := by
  cases d <;> first | (simp [isF] at h; done) | simp [Own, Fz]
theorem Fz.isF {d : D} {v : V} (h : Fz w G d v) : isF d = true := by
  cases d <;> first | rfl | (simp [Fz] at h)
theorem Fz.own {d : D} {v : V} (h : Fz w G d v) : Own w G H d v [] := (own_fz h.isF).mpr ⟨h, rfl⟩
theorem ownl_nil {vs : List V} {l : List Addr} : OwnL w G H [] vs l ↔ vs = [] ∧ l = [] := by simp [OwnL]
theorem ownl_cons {d : D} {ds : List D} {vs : List V} {l : List Addr} : OwnL w G H (d :: ds) vs l ↔ ∃ v r l1 l2, vs = v :: r ∧ Own w G H d v l1 ∧ OwnL w G H ds r l2 ∧ l = l1 ++ l2 := by simp [OwnL]
theorem ownk_nil {vs : List (Key × V)} {l : List Addr} : OwnK w G H [] vs l ↔ vs = [] ∧ l = [] := by simp [OwnK]
theorem ownk_cons {k d : D} {r : List (D × D)} {ks : List (Key × V)} {l : List Addr} : OwnK w G H ((k, d) :: r) ks l ↔ ∃ key v t l1 l2, ks = (key, v) :: t ∧ dkey k = some key ∧ Own w G H d v l1 ∧ OwnK w G H r t l2 ∧ l = l1 ++ l2 := by simp [OwnK]
theorem ownn_nil {vs : List (NestedKey × Addr × V)} {l : List Addr} : OwnN w G H [] vs l ↔ vs = [] ∧ l = [] := by simp [OwnN]
theorem ownn_cons {k d : D} {r : List (D × D)} {es : List (NestedKey × Addr × V)} {l : List Addr} : OwnN w G H ((k, d) :: r) es l ↔ ∃ nk a v t l1 l2, es = (nk, a, v) :: t ∧ dnest k = some nk ∧ nk.depth ≤ 8 ∧ Fz w G k (.ref a) ∧ Own w G H d v l1 ∧ OwnN w G H r t l2 ∧ l = l1 ++ l2 := by simp [OwnN]
theorem OwnL.length : ∀ {ds : List D} {vs : List V} {l : List Addr}, OwnL w G H ds vs l → vs.length = ds.length
  | [], vs, l, h => by
    rw [(ownl_nil.mp h).1]
    rfl
  | d :: ds, vs, l, h => by
    obtain ⟨v, r, l1, l2, rfl, _, h2, _⟩ := ownl_cons.mp h
    simp [OwnL.length h2]
theorem OwnK.length : ∀ {ds : List (D × D)} {vs : List (Key × V)} {l : List Addr}, OwnK w G H ds vs l → vs.length = ds.length
  | [], vs, l, h => by
    rw [(ownk_nil.mp h).1]
    rfl
  | (k, d) :: ds, vs, l, h => by
    obtain ⟨key, v, r, l1, l2, rfl, _, _, h2, _⟩ := ownk_cons.mp h
    simp [OwnK.length h2]
theorem OwnN.length : ∀ {ds : List (D × D)} {vs : List (NestedKey × Addr × V)} {l : List Addr}, OwnN w G H ds vs l → vs.length = ds.length
  | [], vs, l, h => by
    rw [(ownn_nil.mp h).1]
    rfl
  | (k, d) :: ds, vs, l, h => by
    obtain ⟨_, _, v, r, l1, l2, rfl, _, _, _, _, h2, _⟩ := ownn_cons.mp h
    simp [OwnN.length h2]
theorem FzL.own : ∀ {ds : List D} {vs : List V}, FzL w G ds vs → OwnL w G H ds vs []
  | [], vs, h => ownl_nil.mpr ⟨fzl_nil.mp h, rfl⟩
  | d :: ds, vs, h => by
    obtain ⟨v, r, rfl, h1, h2⟩ := fzl_cons.mp h
    exact ownl_cons.mpr ⟨v, r, [], [], rfl, h1.own, h2.own, rfl⟩
theorem FzK.own : ∀ {ds : List (D × D)} {vs : List (Key × V)}, FzK w G ds vs → OwnK w G H ds vs []
  | [], vs, h => ownk_nil.mpr ⟨fzk_nil.mp h, rfl⟩
  | (k, d) :: ds, vs, h => by
    obtain ⟨key, v, r, rfl, h0, h1, h2⟩ := fzk_cons.mp h
    exact ownk_cons.mpr ⟨key, v, r, [], [], rfl, h0, h1.own, h2.own, rfl⟩
theorem FzN.own : ∀ {ds : List (D × D)} {vs : List (NestedKey × Addr × V)}, FzN w G ds vs → OwnN w G H ds vs []
  | [], vs, h => ownn_nil.mpr ⟨fzn_nil.mp h, rfl⟩
  | (k, d) :: ds, vs, h => by
    obtain ⟨key, a, v, r, rfl, h0, hd, h1, h3, h2⟩ := fzn_cons.mp h
    exact ownn_cons.mpr ⟨key, a, v, r, [], [], rfl, h0, hd, h1, h3.own, h2.own, rfl⟩
theorem OwnL.fz : ∀ {ds : List D} {vs : List V} {l : List Addr}, OwnL w G H ds vs l → ds.all isF = true → FzL w G ds vs ∧ l = []
  | [], vs, l, h, _ => ⟨fzl_nil.mpr (ownl_nil.mp h).1, (ownl_nil.mp h).2⟩
  | d :: ds, vs, l, h, f => by
    obtain ⟨v, r, l1, l2, rfl, h1, h2, rfl⟩ := ownl_cons.mp h
    rw [List.all_cons, Bool.and_eq_true] at f
    obtain ⟨h3, rfl⟩ := (own_fz f.1).mp h1
    obtain ⟨h4, rfl⟩ := h2.fz f.2
    exact ⟨fzl_cons.mpr ⟨v, r, rfl, h3, h4⟩, rfl⟩
theorem OwnK.fz : ∀ {ds : List (D × D)} {vs : List (Key × V)} {l : List Addr}, OwnK w G H ds vs l → (ds.all fun p => isF p.2) = true → FzK w G ds vs ∧ l = []
  | [], vs, l, h, _ => ⟨fzk_nil.mpr (ownk_nil.mp h).1, (ownk_nil.mp h).2⟩
  | (k, d) :: ds, vs, l, h, f => by
    obtain ⟨key, v, r, l1, l2, rfl, h0, h1, h2, rfl⟩ := ownk_cons.mp h
    rw [List.all_cons, Bool.and_eq_true] at f
    obtain ⟨h3, rfl⟩ := (own_fz f.1).mp h1
    obtain ⟨h4, rfl⟩ := h2.fz f.2
    exact ⟨fzk_cons.mpr ⟨key, v, r, rfl, h0, h3, h4⟩, rfl⟩
theorem OwnN.fz : ∀ {ds : List (D × D)} {vs : List (NestedKey × Addr × V)} {l : List Addr}, OwnN w G H ds vs l → (ds.all fun p => isF p.2) = true → FzN w G ds vs ∧ l = []
  | [], vs, l, h, _ => ⟨fzn_nil.mpr (ownn_nil.mp h).1, (ownn_nil.mp h).2⟩
  | (k, d) :: ds, vs, l, h, f => by
    obtain ⟨key, a, v, r, l1, l2, rfl, h0, hd, hk, h1, h2, rfl⟩ := ownn_cons.mp h
    rw [List.all_cons, Bool.and_eq_true] at f
    obtain ⟨h3, rfl⟩ := (own_fz f.1).mp h1
    obtain ⟨h4, rfl⟩ := h2.fz f.2
    exact ⟨fzn_cons.mpr ⟨key, a, v, r, rfl, h0, hd, hk, h3, h4⟩, rfl⟩
mutual
theorem Own.keep (k : G.le G') : ∀ {d : D} {v : V} {l : List Addr}, (∀ a ∈ l, ∀ u, H a = some u → H' a = some u) → Own w G H d v l → Own w G' H' d v l
  | .olst ds, v, l, s, h => by
    obtain ⟨a, vs, l', rfl, h1, h2, h3, rfl⟩ := own_olst.mp h
    exact own_olst.mpr ⟨a, vs, l', rfl, s a (List.mem_cons_self ..) _ h1, h2, OwnL.keep k (fun b hb => s b (List.mem_cons_of_mem _ hb)) h3, rfl⟩
  | .odic ds, v, l, s, h => by
    obtain ⟨a, vs, l', rfl, h1, h2, h3, rfl⟩ := own_odic.mp h
    exact own_odic.mpr ⟨a, vs, l', rfl, s a (List.mem_cons_self ..) _ h1, h2, OwnK.keep k (fun b hb => s b (List.mem_cons_of_mem _ hb)) h3, rfl⟩
  | .odix ds, v, l, s, h => by
    obtain ⟨a, vs, l', rfl, h1, h2, h3, rfl⟩ := own_odix.mp h
    exact own_odix.mpr ⟨a, vs, l', rfl, s a (List.mem_cons_self ..) _ h1, h2, OwnN.keep k (fun b hb => s b (List.mem_cons_of_mem _ hb)) h3, rfl⟩
  | .oins c t ds, v, l, s, h => by
    obtain ⟨a, dx, vs, l', rfl, h0, h1, h2, h3, rfl⟩ := own_oins.mp h
    exact own_oins.mpr ⟨a, dx, vs, l', rfl, h0, s a (List.mem_cons_self ..) _ h1, h2, OwnL.keep k (fun b hb => s b (List.mem_cons_of_mem _ hb)) h3, rfl⟩
  | .non, v, l, s, h => by simpa [Own] using h
  | .bl _, v, l, s, h => by simpa [Own] using h
  | .int _, v, l, s, h => by simpa [Own] using h
  | .str _, v, l, s, h => by simpa [Own] using h
  | .tup ds, v, l, s, h => by
    obtain ⟨h1, h2⟩ := (own_fz rfl).mp h
    exact (own_fz rfl).mpr ⟨h1.mono k, h2⟩
  | .tux ds, v, l, s, h => by
    obtain ⟨h1, h2⟩ := (own_fz rfl).mp h
    exact (own_fz rfl).mpr ⟨h1.mono k, h2⟩
  | .lst ds, v, l, s, h => by
    obtain ⟨h1, h2⟩ := (own_fz rfl).mp h
    exact (own_fz rfl).mpr ⟨h1.mono k, h2⟩
  | .rol ds, v, l, s, h => by
    obtain ⟨h1, h2⟩ := (own_fz rfl).mp h
    exact (own_fz rfl).mpr ⟨h1.mono k, h2⟩
  | .dic ds, v, l, s, h => by
    obtain ⟨h1, h2⟩ := (own_fz rfl).mp h
    exact (own_fz rfl).mpr ⟨h1.mono k, h2⟩
  | .dix ds, v, l, s, h => by
    obtain ⟨h1, h2⟩ := (own_fz rfl).mp h
    exact (own_fz rfl).mpr ⟨h1.mono k, h2⟩
  | .ins c ds, v, l, s, h => by
    obtain ⟨h1, h2⟩ := (own_fz rfl).mp h
    exact (own_fz rfl).mpr ⟨h1.mono k, h2⟩
  | .loc n, v, l, s, h => by
    obtain ⟨h1, h2⟩ := (own_fz rfl).mp h
    exact (own_fz rfl).mpr ⟨h1.mono k, h2⟩
  | .exn _ _, v, l, s, h => by
    obtain ⟨h1, h2⟩ := (own_fz rfl).mp h
    exact (own_fz rfl).mpr ⟨h1.mono k, h2⟩
  | .fn _, v, l, s, h => by
    obtain ⟨h1, h2⟩ := (own_fz rfl).mp h
    exact (own_fz rfl).mpr ⟨h1.mono k, h2⟩
  | .otup ds, v, l, s, h => by
    obtain ⟨a, vs, l', rfl, h1, h2, h3, rfl⟩ := own_otup.mp h
    exact own_otup.mpr ⟨a, vs, l', rfl, s a (List.mem_cons_self ..) _ h1, h2, OwnL.keep k (fun b hb => s b (List.mem_cons_of_mem _ hb)) h3, rfl⟩
  | .otbl q, v, l, s, h => by
    obtain ⟨P, ps, rfl, h1, h2, h3, rfl⟩ := own_otbl.mp h
    exact own_otbl.mpr ⟨P, ps, rfl, s P (by simp) _ h1, h2, ⟨fun pos cv e => let ⟨c, e1, e2⟩ := h3.1 pos cv e; ⟨c, e1, k.f _ _ e2⟩, h3.2⟩, rfl⟩
theorem OwnL.keep (k : G.le G') : ∀ {ds : List D} {vs : List V} {l : List Addr}, (∀ a ∈ l, ∀ u, H a = some u → H' a = some u) → OwnL w G H ds vs l → OwnL w G' H' ds vs l
  | [], vs, l, s, h => ownl_nil.mpr (ownl_nil.mp h)
  | d :: ds, vs, l, s, h => by
    obtain ⟨v, r, l1, l2, rfl, h1, h2, rfl⟩ := ownl_cons.mp h
    exact ownl_cons.mpr ⟨v, r, l1, l2, rfl, Own.keep k (fun b hb => s b (List.mem_append_left _ hb)) h1, OwnL.keep k (fun b hb => s b (List.mem_append_right _ hb)) h2, rfl⟩
theorem OwnK.keep (k : G.le G') : ∀ {ds : List (D × D)} {vs : List (Key × V)} {l : List Addr}, (∀ a ∈ l, ∀ u, H a = some u → H' a = some u) → OwnK w G H ds vs l → OwnK w G' H' ds vs l
  | [], vs, l, s, h => ownk_nil.mpr (ownk_nil.mp h)
  | (_, d) :: ds, vs, l, s, h => by
    obtain ⟨key, v, r, l1, l2, rfl, h0, h1, h2, rfl⟩ := ownk_cons.mp h
    exact ownk_cons.mpr ⟨key, v, r, l1, l2, rfl, h0, Own.keep k (fun b hb => s b (List.mem_append_left _ hb)) h1, OwnK.keep k (fun b hb => s b (List.mem_append_right _ hb)) h2, rfl⟩
theorem OwnN.keep (k : G.le G') : ∀ {ds : List (D × D)} {vs : List (NestedKey × Addr × V)} {l : List Addr}, (∀ a ∈ l, ∀ u, H a = some u → H' a = some u) → OwnN w G H ds vs l → OwnN w G' H' ds vs l
  | [], vs, l, s, h => ownn_nil.mpr (ownn_nil.mp h)
  | (_, d) :: ds, vs, l, s, h => by
    obtain ⟨key, a, v, r, l1, l2, rfl, h0, hd, hk, h1, h2, rfl⟩ := ownn_cons.mp h
    exact ownn_cons.mpr ⟨key, a, v, r, l1, l2, rfl, h0, hd, hk.mono k, Own.keep k (fun b hb => s b (List.mem_append_left _ hb)) h1, OwnN.keep k (fun b hb => s b (List.mem_append_right _ hb)) h2, rfl⟩
end
mutual
theorem Own.there : ∀ {d : D} {v : V} {l : List Addr}, Own w G H d v l → ∀ a ∈ l, ∃ u, H a = some u
  | .olst ds, v, l, h => by
    obtain ⟨a, vs, l', rfl, h1, h2, h3, rfl⟩ := own_olst.mp h
    intro b hb
    rcases List.mem_cons.mp hb with rfl | hb
    · exact ⟨_, h1⟩
    · exact OwnL.there h3 b hb
  | .odic ds, v, l, h => by
    obtain ⟨a, vs, l', rfl, h1, h2, h3, rfl⟩ := own_odic.mp h
    intro b hb
    rcases List.mem_cons.mp hb with rfl | hb
    · exact ⟨_, h1⟩
    · exact OwnK.there h3 b hb
  | .odix ds, v, l, h => by
    obtain ⟨a, vs, l', rfl, h1, h2, h3, rfl⟩ := own_odix.mp h
    intro b hb
    rcases List.mem_cons.mp hb with rfl | hb
    · exact ⟨_, h1⟩
    · exact OwnN.there h3 b hb
  | .oins c t ds, v, l, h => by
    obtain ⟨a, dx, vs, l', rfl, h0, h1, h2, h3, rfl⟩ := own_oins.mp h
    intro b hb
    rcases List.mem_cons.mp hb with rfl | hb
    · exact ⟨_, h1⟩
    · exact OwnL.there h3 b hb
  | .non, v, l, h => by
    rw [((own_fz rfl).mp h).2]
    intro a ha; cases ha
  | .bl _, v, l, h => by
    rw [((own_fz rfl).mp h).2]
    intro a ha; cases ha
  | .int _, v, l, h => by
    rw [((own_fz rfl).mp h).2]
    intro a ha; cases ha
  | .str _, v, l, h => by
    rw [((own_fz rfl).mp h).2]
    intro a ha; cases ha
  | .tup ds, v, l, h => by
    rw [((own_fz rfl).mp h).2]
    intro a ha; cases ha
  | .tux ds, v, l, h => by
    rw [((own_fz rfl).mp h).2]
    intro a ha; cases ha
  | .lst ds, v, l, h => by
    rw [((own_fz rfl).mp h).2]
    intro a ha; cases ha
  | .rol ds, v, l, h => by
    rw [((own_fz rfl).mp h).2]
    intro a ha; cases ha
  | .dic ds, v, l, h => by
    rw [((own_fz rfl).mp h).2]
    intro a ha; cases ha
  | .dix ds, v, l, h => by
    rw [((own_fz rfl).mp h).2]
    intro a ha; cases ha
  | .ins c ds, v, l, h => by
    rw [((own_fz rfl).mp h).2]
    intro a ha; cases ha
  | .loc n, v, l, h => by
    rw [((own_fz rfl).mp h).2]
    intro a ha; cases ha
  | .exn _ _, v, l, h => by
    rw [((own_fz rfl).mp h).2]
    intro a ha; cases ha
  | .fn _, v, l, h => by
    rw [((own_fz rfl).mp h).2]
    intro a ha; cases ha
  | .otup ds, v, l, h => by
    obtain ⟨a, vs, l', rfl, h1, h2, h3, rfl⟩ := own_otup.mp h
    intro b hb
    rcases List.mem_cons.mp hb with rfl | hb
    · exact ⟨_, h1⟩
    · exact OwnL.there h3 b hb
  | .otbl _, v, l, h => by
    obtain ⟨P, ps, rfl, h1, _, _, rfl⟩ := own_otbl.mp h
    intro a ha
    simp at ha
    exact ⟨_, ha ▸ h1⟩
theorem OwnL.there : ∀ {ds : List D} {vs : List V} {l : List Addr}, OwnL w G H ds vs l → ∀ a ∈ l, ∃ u, H a = some u
  | [], vs, l, h => by
    rw [(ownl_nil.mp h).2]
    intro a ha; cases ha
  | d :: ds, vs, l, h => by
    obtain ⟨v, r, l1, l2, rfl, h1, h2, rfl⟩ := ownl_cons.mp h
    intro b hb
    rcases List.mem_append.mp hb with hb | hb
    · exact Own.there h1 b hb
    · exact OwnL.there h2 b hb
theorem OwnK.there : ∀ {ds : List (D × D)} {vs : List (Key × V)} {l : List Addr}, OwnK w G H ds vs l → ∀ a ∈ l, ∃ u, H a = some u
  | [], vs, l, h => by
    rw [(ownk_nil.mp h).2]
    intro a ha; cases ha
  | (_, d) :: ds, vs, l, h => by
    obtain ⟨key, v, r, l1, l2, rfl, h0, h1, h2, rfl⟩ := ownk_cons.mp h
    intro b hb
    rcases List.mem_append.mp hb with hb | hb
    · exact Own.there h1 b hb
    · exact OwnK.there h2 b hb
theorem OwnN.there : ∀ {ds : List (D × D)} {vs : List (NestedKey × Addr × V)} {l : List Addr}, OwnN w G H ds vs l → ∀ a ∈ l, ∃ u, H a = some u
  | [], vs, l, h => by
    rw [(ownn_nil.mp h).2]
    intro a ha; cases ha
  | (_, d) :: ds, vs, l, h => by
    obtain ⟨key, a, v, r, l1, l2, rfl, h0, hd, hk, h1, h2, rfl⟩ := ownn_cons.mp h
    intro b hb
    rcases List.mem_append.mp hb with hb | hb
    · exact Own.there h1 b hb
    · exact OwnN.there h2 b hb
end
end
end Vm

set_option maxHeartbeats 1000000
namespace Vm
open PySem L2
structure Bs where
  G : Gs
  H : Hp
  o : Ix → List Addr
def Bs.own (b : Bs) (a : Addr) : Prop := ∃ x, a ∈ b.o x
def keeps (s : Bool) (b : Bs) (a : Addr) : Prop := if s = true then ∀ n, a ∉ b.o (.m n) else ¬ b.own a
structure Gr (s : Bool) (b b' : Bs) : Prop where
  g : b.G.le b'.G
  k : ∀ a u, b.H a = some u → keeps s b a → b'.H a = some u
  n : ∀ a, b'.G.F a ≠ none → b.G.F a ≠ none ∨ b.own a ∨ b.H a = none
  p : ∀ a, b'.own a → b.own a ∨ b.H a = none
  q : s = true → ∀ n a, a ∈ b'.o (.m n) → (∃ m, a ∈ b.o (.m m)) ∨ b.H a = none
  h : ∀ a, b'.H a = none → b.H a = none
theorem keeps_no {s : Bool} {b : Bs} {a : Addr} (h : ¬ b.own a) : keeps s b a := by
  unfold keeps
  split
  · exact fun n z => h ⟨_, z⟩
  · exact h
theorem keeps_f {b : Bs} {a : Addr} (h : keeps false b a) : ¬ b.own a := by simpa [keeps] using h
theorem keeps_t {b : Bs} {a : Addr} (h : ∀ n, a ∉ b.o (.m n)) : keeps true b a := by simpa [keeps] using h
theorem Gr.refl {s : Bool} (b : Bs) : Gr s b b := ⟨.refl _, fun _ _ h _ => h, fun _ h => .inl h, fun _ h => .inl h, fun _ n _ h => .inl ⟨n, h⟩, fun _ h => h⟩
theorem Gr.keeps {s : Bool} {b b' : Bs} (g : Gr s b b') {a : Addr} {u : HO} (e : b.H a = some u) (n : keeps s b a) : Vm.keeps s b' a := by
  cases s with
  | false =>
    have n' := keeps_f n
    exact keeps_no fun z => (g.p a z).elim n' fun z => by rw [e] at z; cases z
  | true =>
    have n' : ∀ n, a ∉ b.o (.m n) := by simpa [Vm.keeps] using n
    refine keeps_t fun m z => ?_
    rcases g.q rfl m a z with ⟨m', z⟩ | z
    · exact n' m' z
    · rw [e] at z; cases z
theorem Gr.trans {s : Bool} {b b' b'' : Bs} (g : Gr s b b') (h : Gr s b' b'') : Gr s b b'' := by
  refine ⟨g.g.trans h.g, fun a u e n => h.k a u (g.k a u e n) (g.keeps e n), fun a e => ?_, fun a e => ?_, fun hs n a e => ?_, fun a e => g.h a (h.h a e)⟩
  · rcases h.n a e with z | z | z
    · exact g.n a z
    · rcases g.p a z with z | z
      · exact .inr (.inl z)
      · exact .inr (.inr z)
    · exact .inr (.inr (g.h a z))
  · rcases h.p a e with z | z
    · exact g.p a z
    · exact .inr (g.h a z)
  · rcases h.q hs n a e with ⟨m, z⟩ | z
    · exact g.q hs m a z
    · exact .inr (g.h a z)
theorem Gr.weak {s : Bool} {b b' : Bs} (g : Gr s b b') : Gr false b b' := ⟨g.g, fun a u h n => g.k a u h (keeps_no (keeps_f n)), g.n, g.p, (fun h => by cases h), g.h⟩
theorem Gr.soft {s : Bool} {b b' : Bs} (g : Gr true b b') : Gr s b b' := by
  cases s with
  | true => exact g
  | false => exact g.weak

def rootV (b : Bs) (σ : St) : Ix → Option V
  | .s i => σ[i]?.getD none
  | .m n => (b.G.ρ n).map .ref
structure Sat (w : Wd) (b : Bs) (σ : St) (e : En) : Prop where
  ex : ∀ a u, b.G.F a = some u → b.H a = some u
  le : e.sl.length = σ.length
  lm : ∀ n, b.G.ρ n = none ↔ e.mu.length ≤ n
  sl : ∀ x d, e.at x = some d → ∃ v, rootV b σ x = some v ∧ Own w b.G b.H d v (b.o x)
  em : ∀ x, e.at x = none → b.o x = []
  ap : ∀ x y a, a ∈ b.o x → a ∈ b.o y → x = y
  nd : ∀ x, (b.o x).Nodup
  fo : ∀ x a, a ∈ b.o x → b.G.F a = none
section
variable {w : Wd} {b b' : Bs} {σ σ' : St} {e e' : En}
theorem at_put_same {x : Ix} {d : Option D} (h : match x with | .s i => i < e.sl.length | .m n => n < e.mu.length) : (e.put x d).at x = d := by
  cases x with
  | s i =>
    show ((e.sl.set i d)[i]?).getD none = d
    rw [List.getElem?_set_self h]
    rfl
  | m n =>
    show ((e.mu.set n d)[n]?).getD none = d
    rw [List.getElem?_set_self h]
    rfl
theorem at_put_ne {x y : Ix} {d : Option D} (h : y ≠ x) : (e.put x d).at y = e.at y := by
  cases x with
  | s i =>
    cases y with
    | s j =>
      have : i ≠ j := fun z => h (by rw [z])
      show ((e.sl.set i d)[j]?).getD none = (e.sl[j]?).getD none
      rw [List.getElem?_set_ne this]
    | m n => rfl
  | m n =>
    cases y with
    | s j => rfl
    | m k =>
      have : n ≠ k := fun z => h (by rw [z])
      show ((e.mu.set n d)[k]?).getD none = (e.mu[k]?).getD none
      rw [List.getElem?_set_ne this]
theorem at_lt {x : Ix} {d : D} (h : e.at x = some d) : match x with | .s i => i < e.sl.length | .m n => n < e.mu.length := by
  cases x with
  | s i =>
    have h' : (e.sl[i]?).getD none = some d := h
    cases q : e.sl[i]? with
    | none => rw [q] at h'; cases h'
    | some _ => exact (List.getElem?_eq_some_iff.mp q).1
  | m n =>
    have h' : (e.mu[n]?).getD none = some d := h
    cases q : e.mu[n]? with
    | none => rw [q] at h'; cases h'
    | some _ => exact (List.getElem?_eq_some_iff.mp q).1
theorem put_slen {x : Ix} {d : Option D} : (e.put x d).sl.length = e.sl.length := by cases x <;> simp [En.put]
theorem put_mlen {x : Ix} {d : Option D} : (e.put x d).mu.length = e.mu.length := by cases x <;> simp [En.put]
theorem Sat.there (S : Sat w b σ e) {a : Addr} (h : b.own a) : b.G.F a = none ∧ ∃ u, b.H a = some u := by
  obtain ⟨x, hx⟩ := h
  refine ⟨S.fo x a hx, ?_⟩
  cases q : e.at x with
  | none =>
    rw [S.em x q] at hx
    cases hx
  | some d =>
    obtain ⟨v, _, o⟩ := S.sl x d q
    exact o.there a hx
theorem Sat.fresh_own (S : Sat w b σ e) {p : Addr} (h : b.H p = none) : ¬ b.own p := fun z => by
  obtain ⟨_, u, q⟩ := S.there z
  rw [h] at q
  cases q
theorem Sat.fresh_F (S : Sat w b σ e) {p : Addr} (h : b.H p = none) : b.G.F p = none := by
  cases q : b.G.F p with
  | none => rfl
  | some u =>
    rw [S.ex p u q] at h
    cases h
theorem Sat.grow (S : Sat w b σ e) (g : b.G.le b'.G) (hr : ∀ n, b'.G.ρ n = b.G.ρ n) (ho : b'.o = b.o) (ex : ∀ a u, b'.G.F a = some u → b'.H a = some u) (k : ∀ a u, b.own a → b.H a = some u → b'.H a = some u) (fo : ∀ a, b.own a → b'.G.F a = none) : Sat w b' σ e where
  ex := ex
  le := S.le
  lm := fun n => by rw [hr]; exact S.lm n
  sl := fun x d h => by
    obtain ⟨v, h1, h2⟩ := S.sl x d h
    refine ⟨v, ?_, ?_⟩
    · cases x with
      | s i => exact h1
      | m n =>
        show (b'.G.ρ n).map V.ref = some v
        rw [hr]
        exact h1
    · rw [ho]
      exact h2.keep g fun a ha u hu => k a u ⟨x, ha⟩ hu
  em := fun x h => by rw [ho]; exact S.em x h
  ap := fun x y a h1 h2 => by
    rw [ho] at h1 h2
    exact S.ap x y a h1 h2
  nd := fun x => by rw [ho]; exact S.nd x
  fo := fun x a h => by
    rw [ho] at h
    exact fo a ⟨x, h⟩

def Bs.new (b : Bs) (p : Addr) (u : HO) : Bs := ⟨⟨upd b.G.F p u, b.G.ρ⟩, upd b.H p u, b.o⟩
theorem Gr.new {s : Bool} {p : Addr} {u : HO} (hF : b.G.F p = none) (hH : b.H p = none) : Gr s b (b.new p u) where
  g := ⟨fun a v h => (upd_ne (ne_of_none h hF)).trans h, fun _ _ h => h⟩
  k := fun a v h _ => (upd_ne (ne_of_none h hH)).trans h
  n := fun a h => by
    by_cases ha : a = p
    · subst ha
      exact .inr (.inr hH)
    · have h' : upd b.G.F p u a ≠ none := h
      rw [upd_ne ha] at h'
      exact .inl h'
  p := fun a h => .inl h
  q := fun _ n a h => .inl ⟨n, h⟩
  h := fun a h => by
    have h' : upd b.H p u a = none := h
    by_cases ha : a = p
    · rw [ha, upd_same] at h'
      cases h'
    · rw [upd_ne ha] at h'
      exact h'
theorem Sat.new (S : Sat w b σ e) {p : Addr} {u : HO} (hH : b.H p = none) : Sat w (b.new p u) σ e := by
  have hF := S.fresh_F hH
  have g := Gr.new (s := true) (u := u) hF hH
  refine S.grow g.g (fun _ => rfl) rfl (fun a v h => ?_) (fun a v _ h => (upd_ne (ne_of_none h hH)).trans h) fun a h => ?_
  · have h' : upd b.G.F p u a = some v := h
    show upd b.H p u a = some v
    by_cases ha : a = p
    · subst ha
      rw [upd_same] at h' ⊢
      exact h'
    · rw [upd_ne ha] at h' ⊢
      exact S.ex a v h'
  · have : a ≠ p := fun z => S.fresh_own hH (z ▸ h)
    exact (upd_ne this).trans (S.there h).1

def Tmp (w : Wd) (b0 b : Bs) (d : D) (v : V) : Prop := ∃ l, Own w b.G b.H d v l ∧ l.Nodup ∧ ∀ a ∈ l, b.G.F a = none ∧ ¬ b.own a ∧ (b0.H a = none ∨ b0.own a)
theorem Fz.tmp {b0 b : Bs} {d : D} {v : V} (h : Fz w b.G d v) : Tmp w b0 b d v := ⟨[], h.own, List.nodup_nil, fun a ha => nomatch ha⟩
theorem Tmp.fz {b0 b : Bs} {d : D} {v : V} (h : Tmp w b0 b d v) (f : isF d = true) : Fz w b.G d v := by
  obtain ⟨l, h1, _⟩ := h
  exact ((own_fz f).mp h1).1
theorem Tmp.back {s : Bool} {b b1 b' : Bs} {d : D} {v : V} (g : Gr s b b1) (h : Tmp w b1 b' d v) : Tmp w b b' d v := by
  obtain ⟨l, h1, h2, h3⟩ := h
  refine ⟨l, h1, h2, fun a ha => ?_⟩
  obtain ⟨k1, k2, k3⟩ := h3 a ha
  exact ⟨k1, k2, k3.elim (fun z => .inl (g.h a z)) fun z => (g.p a z).symm⟩
theorem Tmp.stay {s : Bool} {b0 b b' : Bs} {d : D} {v : V} (g : Gr s b b') (h : Tmp w b0 b d v) : Tmp w b0 b' d v := by
  obtain ⟨l, h1, h2, h3⟩ := h
  refine ⟨l, h1.keep g.g fun a ha u hu => g.k a u hu (keeps_no (h3 a ha).2.1), h2, fun a ha => ?_⟩
  obtain ⟨k1, k2, k3⟩ := h3 a ha
  obtain ⟨u, hu⟩ := h1.there a ha
  refine ⟨?_, fun z => (g.p a z).elim k2 fun z => (by rw [hu] at z; cases z), k3⟩
  cases q : b'.G.F a with
  | none => rfl
  | some u' =>
    rcases g.n a (by rw [q]; intro z; cases z) with z | z | z
    · exact absurd k1 z
    · exact absurd z k2
    · rw [hu] at z; cases z
def Br (w : Wd) (b : Bs) (d : D) (v : V) : Prop := ∃ l, Own w b.G b.H d v l ∧ ∀ a ∈ l, ∀ n, a ∉ b.o (.m n)
theorem Fz.br {b : Bs} {d : D} {v : V} (h : Fz w b.G d v) : Br w b d v := ⟨[], h.own, fun a ha => nomatch ha⟩
theorem Tmp.br {b0 b : Bs} {d : D} {v : V} (h : Tmp w b0 b d v) : Br w b d v := by
  obtain ⟨l, h1, _, h3⟩ := h
  exact ⟨l, h1, fun a ha n z => (h3 a ha).2.1 ⟨_, z⟩⟩
theorem Br.soft {b b' : Bs} {d : D} {v : V} (g : Gr true b b') (h : Br w b d v) : Br w b' d v := by
  obtain ⟨l, h1, h2⟩ := h
  refine ⟨l, h1.keep g.g fun a ha u hu => g.k a u hu (keeps_t (h2 a ha)), fun a ha n z => ?_⟩
  rcases g.q rfl n a z with ⟨m, z⟩ | z
  · exact h2 a ha m z
  · obtain ⟨u, hu⟩ := h1.there a ha
    rw [hu] at z
    cases z
theorem Br.fz {b : Bs} {d : D} {v : V} (h : Br w b d v) (f : isF d = true) : Fz w b.G d v := by
  obtain ⟨l, h1, _⟩ := h
  exact ((own_fz f).mp h1).1
theorem Br.own {b : Bs} {d : D} {v : V} (h : Br w b d v) : ∃ l, Own w b.G b.H d v l := let ⟨l, h1, _⟩ := h; ⟨l, h1⟩
end

abbrev Wx := Nat → Option D → Bs → En → Prop
def W0 : Wx := fun _ _ _ _ => False
def PR {α : Type} (w : Wd) (W : Wx) (s : Bool) (σ : St) (b : Bs) (r : Rs α) (P : α → Bs → En → Prop) : Prop := match r with
  | .ok a e' => ∀ b', Gr s b b' → Sat w b' σ e' → P a b' e'
  | .exc c x e' => ∀ b', Gr s b b' → Sat w b' σ e' → W c x b' e'
  | .stuck => False
section
variable {α β : Type} {w : Wd} {W : Wx} {s : Bool} {σ : St} {b b' : Bs} {r : Rs α} {P P' : α → Bs → En → Prop}
theorem PR.mono (h : PR w W s σ b r P) (k : ∀ a b' e', Gr s b b' → Sat w b' σ e' → P a b' e' → P' a b' e') : PR w W s σ b r P' := by
  cases r with
  | ok a e' => exact fun b' g S => k a b' e' g S (h b' g S)
  | exc c x e' => exact h
  | stuck => exact h
theorem PR.later (g : Gr s b b') (h : PR w W s σ b r P) : PR w W s σ b' r P := by
  cases r with
  | ok a e' => exact fun b'' g' S => h b'' (g.trans g') S
  | exc c x e' => exact fun b'' g' S => h b'' (g.trans g') S
  | stuck => exact h
theorem PR.bind {k : α → En → Rs β} {P : β → Bs → En → Prop} (h : PR w W s σ b (r.bind k) P) : PR w W s σ b r fun a b' e' => PR w W s σ b' (k a e') P := by
  cases r with
  | ok a e' => exact fun b' g S => PR.later g h
  | exc c x e' => exact h
  | stuck => exact h
theorem PR.soften (h : PR w W s σ b r P) : PR w W true σ b r P := by
  cases r with
  | ok a e' => exact fun b' g S => h b' g.soft S
  | exc c x e' => exact fun b' g S => h b' g.soft S
  | stuck => exact h
end
def tZ (w : Wd) (W : Wx) (s : Bool) (f : EM) : TE := fun σ H Q => ∃ b e, H = b.H ∧ Sat w b σ e ∧ PR w W s σ b (f e) fun d b' _ => ∀ v, Fz w b'.G d v → Q v b'.H
def tV (w : Wd) (W : Wx) (s : Bool) (f : EM) : TE := fun σ H Q => ∃ b e, H = b.H ∧ Sat w b σ e ∧ PR w W s σ b (f e) fun d b' _ => ∀ v, Tmp w b b' d v → Q v b'.H
def tB (w : Wd) (W : Wx) (s : Bool) (f : EM) : TE := fun σ H Q => ∃ b e, H = b.H ∧ Sat w b σ e ∧ PR w W s σ b (f e) fun d b' _ => ∀ v, Br w b' d v → Q v b'.H
def tT (w : Wd) (W : Wx) (s : Bool) (f : TM) : TT := fun σ H Q => ∃ b e, H = b.H ∧ Sat w b σ e ∧ PR w W s σ b (f e) fun d b' _ => Q d b'.H
def tA (w : Wd) (W : Wx) (s : Bool) (f : LM) : TA := fun σ H Q => ∃ b e, H = b.H ∧ Sat w b σ e ∧ PR w W s σ b (f e) fun ds b' _ => ∀ vs, FzL w b'.G ds vs → Q vs b'.H
theorem _root_.L2.PE.imp {X : Cx} {e : Expr} {t t' : TE} (h : PE X e t) (k : ∀ σ H Q, t' σ H Q → t σ H Q) : PE X e t' := ⟨fun pins s σ H Q I q => h.run pins s σ H Q I (k σ H Q q)⟩
theorem _root_.L2.PT.imp {X : Cx} {e : Expr} {t t' : TT} (h : PT X e t) (k : ∀ σ H Q, t' σ H Q → t σ H Q) : PT X e t' := ⟨fun pins s σ H Q I q => h.run pins s σ H Q I (k σ H Q q)⟩
theorem _root_.L2.PW.imp {X : Cx} {e : Expr} {t t' : TT} (h : PW X e t) (k : ∀ σ H Q, t' σ H Q → t σ H Q) : PW X e t' := ⟨fun wh pins s σ H Q I q => h.run wh pins s σ H Q I (k σ H Q q)⟩
theorem _root_.L2.PA.imp {X : Cx} {e : List Expr} {t t' : TA} (h : PA X e t) (k : ∀ σ H Q, t' σ H Q → t σ H Q) : PA X e t' := ⟨fun p pins s σ H Q I q => h.run p pins s σ H Q I (k σ H Q q)⟩
theorem _root_.L2.PS.imp {X : Cx} {e : Stmt} {t t' : TS} (h : PS X e t) (k : ∀ D σ H, t' D σ H → t D σ H) : PS X e t' := ⟨fun pins s σ H D I q => h.run pins s σ H D I (k D σ H q)⟩
theorem _root_.L2.PSs.imp {X : Cx} {e : List Stmt} {t t' : TS} (h : PSs X e t) (k : ∀ D σ H, t' D σ H → t D σ H) : PSs X e t' := ⟨fun pins s σ H D I q => h.run pins s σ H D I (k D σ H q)⟩

def Ret (w : Wd) (s : Bool) (b : Bs) (σ : St) (e : En) (d : D) (Q : VK) : Prop := ∀ v b', Gr s b b' → Sat w b' σ e → Fz w b'.G d v → Q v b'.H
def RetV (w : Wd) (s : Bool) (b : Bs) (σ : St) (e : En) (d : D) (Q : VK) : Prop := ∀ v b', Gr s b b' → Sat w b' σ e → Tmp w b b' d v → Q v b'.H
section
variable {w : Wd} {W : Wx} {s : Bool} {σ : St} {b b0 : Bs} {e : En} {d : D} {Q : VK}
theorem Ret.now (S : Sat w b σ e) (r : Ret w s b σ e d Q) {v : V} (z : Fz w b.G d v) : Q v b.H := r v b (Gr.refl b) S z
theorem Ret.new (S : Sat w b σ e) (r : Ret w s b σ e d Q) {p : Addr} {u : HO} (hp : b.H p = none) (z : Fz w (b.new p u).G d (.ref p)) : Q (.ref p) (upd b.H p u) :=
  r (.ref p) (b.new p u) (Gr.new (S.fresh_F hp) hp) (S.new hp) z
theorem FzL.later {b' : Bs} {ds : List D} {vs : List V} (g : Gr s b b') (h : FzL w b.G ds vs) : FzL w b'.G ds vs := h.mono g.g
theorem Ret.tup (S : Sat w b σ e) {ds : List D} {vs : List V} (r : Ret w s b σ e (.tup ds) Q) {p : Addr} (hp : b.H p = none) (hl : ds.length ≤ sizeLine) (z : FzL w b.G ds vs) : Q (.ref p) (upd b.H p (.tup vs)) :=
  r.new S hp (fz_tup.mpr ⟨p, vs, rfl, upd_same, hl, z.mono (Gr.new (s := true) (S.fresh_F hp) hp).g⟩)
theorem RetV.now (S : Sat w b σ e) (r : RetV w s b σ e d Q) {v : V} (z : Tmp w b b d v) : Q v b.H := r v b (Gr.refl b) S z
def Bs.lay (b : Bs) (p : Addr) (u : HO) : Bs := ⟨b.G, upd b.H p u, b.o⟩
theorem Gr.lay {p : Addr} {u : HO} (hH : b.H p = none) : Gr s b (b.lay p u) where
  g := .refl _
  k := fun a v h _ => (upd_ne (ne_of_none h hH)).trans h
  n := fun a h => .inl h
  p := fun a h => .inl h
  q := fun _ n a h => .inl ⟨n, h⟩
  h := fun a h => by
    have h' : upd b.H p u a = none := h
    by_cases ha : a = p
    · rw [ha, upd_same] at h'
      cases h'
    · rw [upd_ne ha] at h'
      exact h'
theorem Sat.lay (S : Sat w b σ e) {p : Addr} {u : HO} (hH : b.H p = none) : Sat w (b.lay p u) σ e :=
  S.grow (.refl _) (fun _ => rfl) rfl (fun a v h => (upd_ne (ne_of_none (S.ex a v h) hH)).trans (S.ex a v h)) (fun a v _ h => (upd_ne (ne_of_none h hH)).trans h) fun a h => (S.there h).1
theorem RetV.lst (S : Sat w b σ e) {ds : List D} {vs : List V} (r : RetV w s b σ e (.olst ds) Q) {p : Addr} (hp : b.H p = none) (hl : ds.length ≤ sizeLine) (z : FzL w b.G ds vs) : Q (.ref p) (upd b.H p (.lst vs)) := by
  refine r (.ref p) (b.lay p (.lst vs)) (Gr.lay hp) (S.lay hp) ⟨[p], own_olst.mpr ⟨p, vs, [], rfl, upd_same, hl, z.own, rfl⟩, by simp, fun a ha => ?_⟩
  have : a = p := by simpa using ha
  subst this
  exact ⟨S.fresh_F hp, S.fresh_own hp, .inl hp⟩
theorem PR.ret {o : Option D} (h : PR w W s σ b (lift o e) fun d b' _ => ∀ v, Fz w b'.G d v → Q v b'.H) : ∃ d, o = some d ∧ Ret w s b σ e d Q := by
  cases o with
  | none => exact h.elim
  | some d => exact ⟨d, rfl, fun v b' g S z => h b' g S v z⟩
theorem PR.retV {o : Option D} (g : Gr s b0 b) (h : PR w W s σ b (lift o e) fun d b' _ => ∀ v, Tmp w b0 b' d v → Q v b'.H) : ∃ d, o = some d ∧ RetV w s b σ e d Q := by
  cases o with
  | none => exact h.elim
  | some d => exact ⟨d, rfl, fun v b' g' S t => h b' g' S v (t.back g)⟩
end

def Bs.fix (b : Bs) (a : Addr) (u : HO) : Bs := ⟨⟨upd b.G.F a u, b.G.ρ⟩, b.H, b.o⟩
section
variable {w : Wd} {W : Wx} {s : Bool} {σ : St} {b b' : Bs} {e : En} {a : Addr} {u : HO}
theorem fix_le (hF : b.G.F a = none) : b.G.le (b.fix a u).G := ⟨fun c x q => (upd_ne (ne_of_none q hF)).trans q, fun _ _ q => q⟩
theorem Gr.fix (g : Gr s b b') (hF : b'.G.F a = none) (hn : b.H a = none ∨ b.own a) : Gr s b (b'.fix a u) where
  g := ⟨fun c x q => (upd_ne (ne_of_none (g.g.f c x q) hF)).trans (g.g.f c x q), g.g.r⟩
  k := g.k
  n := fun c q => by
    by_cases h : c = a
    · subst h
      exact .inr hn.symm
    · have q' : upd b'.G.F a u c ≠ none := q
      rw [upd_ne h] at q'
      exact g.n c q'
  p := g.p
  q := g.q
  h := g.h
theorem Sat.fix (S : Sat w b σ e) (hF : b.G.F a = none) (hH : b.H a = some u) (ho : ¬ b.own a) : Sat w (b.fix a u) σ e := by
  refine S.grow ⟨fun c x q => (upd_ne (ne_of_none q hF)).trans q, fun _ _ q => q⟩ (fun _ => rfl) rfl (fun c x q => ?_) (fun _ _ _ q => q) fun c q => ?_
  · have q' : upd b.G.F a u c = some x := q
    by_cases h : c = a
    · subst h
      rw [upd_same] at q'
      rw [← q']
      exact hH
    · rw [upd_ne h] at q'
      exact S.ex c x q'
  · have : c ≠ a := fun z => ho (z ▸ q)
    exact (upd_ne this).trans (S.there q).1
def frzD : D → Option D := fun d => if isF d then some d else match d with
  | .olst ds => if ds.all isF then some (.lst ds) else none
  | _ => none
def frzE (f : EM) : EM := fun e => (f e).bind fun d e1 => lift (frzD d) e1
theorem tV_frz {f : EM} {H : Hp} {Q : VK} (h : tZ w W s (frzE f) σ H Q) : tV w W s f σ H Q := by
  obtain ⟨b, e, rfl, S, h⟩ := h
  refine ⟨b, e, rfl, S, ?_⟩
  unfold frzE at h
  cases hf : f e with
  | stuck => rw [hf] at h; exact h
  | exc c x e1 => rw [hf] at h; exact h
  | ok d e1 =>
    rw [hf] at h
    intro b1 g1 S1 v t
    have h1 : PR w W s σ b (lift (frzD d) e1) fun d b' _ => ∀ v, Fz w b'.G d v → Q v b'.H := h
    unfold frzD at h1
    split at h1
    · rename_i hf
      exact h1 b1 g1 S1 v (t.fz hf)
    · rename_i hf
      split at h1
      · rename_i ds
        split at h1
        · rename_i ha
          obtain ⟨l, t1, t2, t3⟩ := t
          obtain ⟨a, vs, l', rfl, k1, k2, k3, rfl⟩ := own_olst.mp t1
          obtain ⟨k4, rfl⟩ := k3.fz ha
          obtain ⟨m1, m2, m3⟩ := t3 a (List.mem_cons_self ..)
          have gf := Gr.fix (u := .lst vs) g1 m1 m3
          exact h1 (b1.fix a (.lst vs)) gf (S1.fix m1 k1 m2) (.ref a) (fz_lst.mpr ⟨a, vs, rfl, upd_same, k2, k4.mono (fix_le m1)⟩)
        · exact h1.elim
      · exact h1.elim
end
section
variable {X : Cx} {w : Wd} {W : Wx} {s : Bool} {x : Expr} {f : EM}
theorem zV (h : PE X x (tV w W s f)) : PE X x (tZ w W s (frzE f)) := h.imp fun _ _ _ q => tV_frz q
theorem vZ (h : PE X x (tZ w W s f)) : PE X x (tV w W s f) := h.imp fun σ H Q ⟨b, e, he, S, q⟩ => ⟨b, e, he, S, q.mono fun d b' e' g S' k v z => k v z.tmp⟩
theorem bZ (h : PE X x (tZ w W s f)) : PE X x (tB w W s f) := h.imp fun σ H Q ⟨b, e, he, S, q⟩ => ⟨b, e, he, S, q.mono fun d b' e' g S' k v z => k v z.br⟩
theorem bV (h : PE X x (tV w W s f)) : PE X x (tB w W s f) := h.imp fun σ H Q ⟨b, e, he, S, q⟩ => ⟨b, e, he, S, q.mono fun d b' e' g S' k v z => k v z.br⟩
end
end Vm

set_option maxHeartbeats 1000000
namespace Vm
open PySem L2
def eVar (i : Nat) : EM := fun e => match e.sl[i]? with
  | some (some d) => if isF d then .ok d e else .stuck
  | _ => .stuck
def eBor (i : Nat) : EM := fun e => match e.sl[i]? with
  | some (some d) => .ok d e
  | _ => .stuck
def eC (d : D) : EM := fun e => .ok d e
theorem Sat.slot {w : Wd} {b : Bs} {σ : St} {e : En} (S : Sat w b σ e) {i : Nat} {d : D} (h : e.sl[i]? = some (some d)) : ∃ v, σ[i]? = some (some v) ∧ Own w b.G b.H d v (b.o (.s i)) := by
  obtain ⟨v, h1, h2⟩ := S.sl (.s i) d (by show (e.sl[i]?).getD none = some d; rw [h]; rfl)
  refine ⟨v, ?_, h2⟩
  have h1' : (σ[i]?).getD none = some v := h1
  cases q : σ[i]? with
  | none => rw [q] at h1'; cases h1'
  | some o => rw [q] at h1'; simpa using h1'
section
variable {X : Cx} {W : Wx} {s : Bool} {w : Wd} {pos : Pos}
theorem zVar (i : Nat) {x : Str} (hN : X.N[i]? = some x := by rfl) (hv : Vis X.env.scope x := by first | exact Or.inl rfl | exact Or.inr (Or.inl rfl) | exact Or.inr (Or.inr rfl)) (hd : (x == ("__debug__" : Str)) = false := by decide)
    (hcd : (x == ("__classdict__" : Str)) = false := by decide) : PE X (.Name x pos) (tZ w W s (eVar i)) := (pv i hN hv hd hcd).imp fun σ H Q ⟨b, e, he, S, h⟩ => by
  subst he
  unfold eVar at h
  split at h
  · rename_i d hd
    split at h
    · rename_i hf
      obtain ⟨v, h1, h2⟩ := S.slot hd
      exact ⟨v, h1, h b (Gr.refl b) S v ((own_fz hf).mp h2).1⟩
    · exact h.elim
  · exact h.elim
theorem bVar (i : Nat) {x : Str} (hN : X.N[i]? = some x := by rfl) (hv : Vis X.env.scope x := by first | exact Or.inl rfl | exact Or.inr (Or.inl rfl) | exact Or.inr (Or.inr rfl)) (hd : (x == ("__debug__" : Str)) = false := by decide)
    (hcd : (x == ("__classdict__" : Str)) = false := by decide) : PE X (.Name x pos) (tB w W s (eBor i)) := (pv i hN hv hd hcd).imp fun σ H Q ⟨b, e, he, S, h⟩ => by
  subst he
  unfold eBor at h
  split at h
  · rename_i d hd
    obtain ⟨v, h1, h2⟩ := S.slot hd
    exact ⟨v, h1, h b (Gr.refl b) S v ⟨_, h2, fun a ha n z => nomatch S.ap _ _ a ha z⟩⟩
  · exact h.elim
theorem zC {ex : Expr} {v : V} {d : D} (h0 : PE X ex (tC v)) (hz : ∀ G, Fz w G d v) : PE X ex (tZ w W s (eC d)) := h0.imp fun σ H Q ⟨b, e, he, S, h⟩ => by
  subst he
  exact h b (Gr.refl b) S v (hz _)
theorem zInt {i j} : PE X (.Constant (.int i) j pos) (tZ w W s (eC (.int i))) := zC pe_int fun _ => fz_int.mpr rfl
theorem zBl {i j} : PE X (.Constant (.bool i) j pos) (tZ w W s (eC (.bl i))) := zC pe_bl fun _ => fz_bl.mpr rfl
theorem zNon {j} : PE X (.Constant .none j pos) (tZ w W s (eC .non)) := zC pe_non fun _ => fz_non.mpr rfl
theorem zStr {x j} (hx : PyData.strOk x = true := by first | rfl | decide +kernel) : PE X (.Constant (.str x) j pos) (tZ w W s (eC (.str x))) := zC pe_str fun _ => fz_str.mpr ⟨rfl, hx⟩
theorem zGInt {x : Str} {i : Int} {t : Tok} (hm : X.mg x = some (.int i t)) (hg : Gl X x := by rfl) (hd : (x == ("__debug__" : Str)) = false := by decide) : PE X (.Name x pos) (tZ w W s (eC (.int i))) := zC (pe_glob (v := .int i) hg hm ⟨t, rfl⟩ hd) fun _ => fz_int.mpr rfl
theorem zGStr {x : Str} {i : Str} {t : Tok} (hm : X.mg x = some (.str i t)) (hx : PyData.strOk i = true := by first | rfl | decide +kernel) (hg : Gl X x := by rfl) (hd : (x == ("__debug__" : Str)) = false := by decide) : PE X (.Name x pos) (tZ w W s (eC (.str i))) := zC (pe_glob (v := .str i) hg hm ⟨t, rfl⟩ hd) fun _ => fz_str.mpr ⟨rfl, hx⟩
end

def bin (g : D → D → Option D) (fa fb : EM) : EM := fun e => (fa e).bind fun x e1 => (fb e1).bind fun y e2 => lift (g x y) e2
def un (g : D → Option D) (fa : EM) : EM := fun e => (fa e).bind fun x e1 => lift (g x) e1
def OpZ (w : Wd) (r : R2) (g : D → D → Option D) : Prop := ∀ ⦃s : Bool⦄ ⦃σ : St⦄ ⦃b : Bs⦄ ⦃e : En⦄ ⦃x y d : D⦄ ⦃vx vy : V⦄ ⦃Q : VK⦄,
  Sat w b σ e → Fz w b.G x vx → Fz w b.G y vy → g x y = some d → Ret w s b σ e d Q → r vx vy b.H Q
def orD (g g' : D → D → Option D) : D → D → Option D := fun x y => match g x y with
  | some d => some d
  | none => g' x y
theorem OpZ.or {w : Wd} {r r' : R2} {g g' : D → D → Option D} (h : OpZ w r g) (h' : OpZ w r' g') : OpZ w (fun x y H Q => r x y H Q ∨ r' x y H Q) (orD g g') := by
  intro s σ b e x y d vx vy Q S zx zy hg R
  unfold orD at hg
  cases hq : g x y with
  | some d' =>
    rw [hq] at hg
    cases hg
    exact .inl (h S zx zy hq R)
  | none =>
    rw [hq] at hg
    exact .inr (h' S zx zy hg R)
section
variable {X : Cx} {W : Wx} {s : Bool} {w : Wd} {pos : Pos} {a c : Expr} {fa fb : EM} {r : R2} {g : D → D → Option D}
end

def eTest (f : EM) : TM := fun e => (f e).bind fun x e1 => match x with
  | .bl k => .ok k e1
  | _ => .stuck
def tAndD (f g : TM) : TM := fun e => (f e).bind fun k e1 => if k = true then g e1 else .ok false e1
def tOrD (f g : TM) : TM := fun e => (f e).bind fun k e1 => if k = true then .ok true e1 else g e1
def tNotD (f : TM) : TM := fun e => (f e).bind fun k e1 => .ok (!k) e1
def eOfT (f : TM) : EM := fun e => (f e).bind fun k e1 => .ok (.bl k) e1
def eIf (t : TM) (f g : EM) : EM := fun e => (t e).bind fun k e1 => if k = true then f e1 else g e1
def eAnd (f g : EM) : EM := fun e => (f e).bind fun x e1 => match x with
  | .bl k => if k = true then g e1 else .ok (.bl false) e1
  | _ => .stuck
def eOr (f g : EM) : EM := fun e => (f e).bind fun x e1 => match x with
  | .bl k => if k = true then .ok (.bl true) e1 else g e1
  | _ => .stuck
def eNot (f : EM) : EM := fun e => (f e).bind fun x e1 => match x with
  | .bl k => .ok (.bl !k) e1
  | _ => .stuck
section
variable {X : Cx} {W : Wx} {s : Bool} {w : Wd} {pos : Pos} {a c : Expr} {fa fb : EM} {ta tb : TM}
theorem zTest (ha : PE X a (tZ w W s fa)) (he : ∀ whole, isTrue a X.env whole = (do let v ← whole; standAt a.pos; holding [v] (truthy v)) := by intro _; rfl) : PT X a (tT w W s (eTest fa)) := (pt_val ha he).imp fun σ H Q ⟨b, e, he, S, h⟩ => by
  subst he
  refine ⟨b, e, rfl, S, (PR.bind h).mono fun x b1 e1 g1 S1 h1 v z => ?_⟩
  cases x <;> first
    | exact h1.elim
    | exact ⟨_, fz_bl.mp z, h1 b1 (Gr.refl _) S1⟩
theorem zNotT (ha : PT X a (tT w W s ta)) : PT X (.UnaryOp .Not a pos) (tT w W s (tNotD ta)) := (pt_not ha).imp fun σ H Q ⟨b, e, he, S, h⟩ => by
  subst he
  exact ⟨b, e, rfl, S, (PR.bind h).mono fun x b1 e1 g1 S1 h1 => h1 b1 (Gr.refl _) S1⟩
theorem zIfExp {t : TM} {ce : Expr} (hc : PT X ce (tT w W s t)) (ha : PE X a (tZ w W s fa)) (hb : PE X c (tZ w W s fb)) : PE X (.IfExp ce a c pos) (tZ w W s (eIf t fa fb)) := (pe_ifExp hc ha hb).imp fun σ H Q ⟨b, e, he, S, h⟩ => by
  subst he
  refine ⟨b, e, rfl, S, (PR.bind h).mono fun k b1 e1 g1 S1 h1 => ?_⟩
  cases k with
  | true => exact ⟨b1, e1, rfl, S1, h1⟩
  | false => exact ⟨b1, e1, rfl, S1, h1⟩
theorem zAnd1 (ha : PT X a (tT w W s ta)) : PW X (.BoolOp .And [a] pos) (tT w W s ta) := pw_and1 ha
theorem zOr1 (ha : PT X a (tT w W s ta)) : PW X (.BoolOp .Or [a] pos) (tT w W s ta) := pw_or1 ha
end
section
variable {X : Cx} {W : Wx} {s : Bool} {w : Wd} {pos : Pos} {a c : Expr} {rest : List Expr} {fa fb : EM} {ta tb : TM}
theorem zAndT (ha : PT X a (tT w W s ta)) (hb : PW X (.BoolOp .And (c :: rest) pos) (tT w W s tb)) : PW X (.BoolOp .And (a :: c :: rest) pos) (tT w W s (tAndD ta tb)) := (pw_and ha hb).imp fun σ H Q ⟨b, e, he, S, h⟩ => by
  subst he
  refine ⟨b, e, rfl, S, (PR.bind h).mono fun k b1 e1 g1 S1 h1 => ?_⟩
  cases k with
  | true => exact ⟨b1, e1, rfl, S1, h1⟩
  | false => exact h1 b1 (Gr.refl _) S1
theorem zOrT (ha : PT X a (tT w W s ta)) (hb : PW X (.BoolOp .Or (c :: rest) pos) (tT w W s tb)) : PW X (.BoolOp .Or (a :: c :: rest) pos) (tT w W s (tOrD ta tb)) := (pw_or ha hb).imp fun σ H Q ⟨b, e, he, S, h⟩ => by
  subst he
  refine ⟨b, e, rfl, S, (PR.bind h).mono fun k b1 e1 g1 S1 h1 => ?_⟩
  cases k with
  | true => exact h1 b1 (Gr.refl _) S1
  | false => exact ⟨b1, e1, rfl, S1, h1⟩
theorem zAnd1V (ha : PE X a (tZ w W s fa)) : PE X (.BoolOp .And [a] pos) (tZ w W s fa) := pe_one ha
theorem zAndV (ha : PE X a (tZ w W s fa)) (hb : PE X (.BoolOp .And (c :: rest) pos) (tZ w W s fb)) : PE X (.BoolOp .And (a :: c :: rest) pos) (tZ w W s (eAnd fa fb)) := (pe_and ha hb).imp fun σ H Q ⟨b, e, he, S, h⟩ => by
  subst he
  refine ⟨b, e, rfl, S, (PR.bind h).mono fun x b1 e1 g1 S1 h1 v z => ?_⟩
  cases x <;> try exact h1.elim
  rename_i k
  refine ⟨k, fz_bl.mp z, ?_⟩
  cases k with
  | true => exact ⟨b1, e1, rfl, S1, h1⟩
  | false => exact h1 b1 (Gr.refl _) S1 _ (fz_bl.mpr rfl)
end

end Vm

set_option maxHeartbeats 1000000
namespace Vm
open PySem L2
def aNil : LM := fun e => .ok [] e
def aCons (f : EM) (g : LM) : LM := fun e => (f e).bind fun x e1 => (g e1).bind fun xs e2 => .ok (x :: xs) e2
def LIM : Nat := 1000000
def mkTup (xs : List D) : Option D := if xs.length ≤ LIM then some (.tup xs) else none
def mkLst (xs : List D) : Option D := if xs.length ≤ LIM then some (.olst xs) else none
theorem lim_size {n : Nat} (h : n ≤ LIM) : n ≤ sizeLine := Nat.le_trans h (by decide)
theorem mkTup_some {xs : List D} {d : D} (h : mkTup xs = some d) : d = .tup xs ∧ xs.length ≤ sizeLine := by
  unfold mkTup at h
  split at h
  · cases h
    exact ⟨rfl, lim_size (by assumption)⟩
  · cases h
theorem mkLst_some {xs : List D} {d : D} (h : mkLst xs = some d) : d = .olst xs ∧ xs.length ≤ sizeLine := by
  unfold mkLst at h
  split at h
  · cases h
    exact ⟨rfl, lim_size (by assumption)⟩
  · cases h
def eTup (g : LM) : EM := fun e => (g e).bind fun xs e1 => lift (mkTup xs) e1
def eLst (g : LM) : EM := fun e => (g e).bind fun xs e1 => lift (mkLst xs) e1
section
variable {X : Cx} {W : Wx} {s : Bool} {w : Wd} {pos : Pos} {x : Expr} {es : List Expr} {f : EM} {g : LM}
theorem zaNil : PA X [] (tA w W s aNil) := pa_nil.imp fun σ H Q ⟨b, e, he, S, h⟩ => by
  subst he
  exact h b (Gr.refl b) S [] (fzl_nil.mpr rfl)
theorem zaCons (ha : PE X x (tZ w W s f)) (hr : PA X es (tA w W s g)) (hs : starEach (x :: es) X.env = (false, eval x X.env) :: starEach es X.env := by rfl) : PA X (x :: es) (tA w W s (aCons f g)) := (pa_cons ha hr hs).imp fun σ H Q ⟨b, e, he, S, h⟩ => by
  subst he
  refine ⟨b, e, rfl, S, (PR.bind h).mono fun d b1 e1 g1 S1 h1 v z => ⟨b1, e1, rfl, S1, (PR.bind h1).mono fun ds b2 e2 g2 S2 h2 vs zs => ?_⟩⟩
  exact h2 b2 (Gr.refl b2) S2 (v :: vs) (fzl_cons.mpr ⟨v, vs, rfl, z.mono g2.g, zs⟩)
theorem zTup {k} (h : PA X es (tA w W s g)) : PE X (.Tuple es k pos) (tZ w W s (eTup g)) := (pe_tup h).imp fun σ H Q ⟨b, e, he, S, h⟩ => by
  subst he
  refine ⟨b, e, rfl, S, (PR.bind h).mono fun ds b1 e1 g1 S1 h1 vs zs => ?_⟩
  obtain ⟨d, hd, R⟩ := PR.ret h1
  obtain ⟨rfl, hl⟩ := mkTup_some hd
  exact ⟨by rw [zs.length]; exact hl, fun p hp => R.tup S1 hp hl zs⟩
theorem oLst (h : PA X es (tA w W s g)) : PE X (.List es pos) (tV w W s (eLst g)) := (pe_lst h).imp fun σ H Q ⟨b, e, he, S, h⟩ => by
  subst he
  refine ⟨b, e, rfl, S, (PR.bind h).mono fun ds b1 e1 g1 S1 h1 vs zs => ?_⟩
  obtain ⟨d, hd, R⟩ := PR.retV g1 h1
  obtain ⟨rfl, hl⟩ := mkLst_some hd
  exact ⟨by rw [zs.length]; exact hl, fun p hp => R.lst S1 hp hl zs⟩
end

inductive So where
  | nx (e : En) | rt (d : D) (e : En) | bk (e : En) | ct (e : En) | exc (c : Nat) (x : Option D) (e : En) | stuck
abbrev SM := En → So
def SR (w : Wd) (W : Wx) (b : Bs) (r : So) (D : Ends) : Prop := match r with
  | .nx e' => ∀ b' σ', Gr false b b' → Sat w b' σ' e' → D.nx σ' b'.H
  | .bk e' => ∀ b' σ', Gr false b b' → Sat w b' σ' e' → D.bk σ' b'.H
  | .ct e' => ∀ b' σ', Gr false b b' → Sat w b' σ' e' → D.ct σ' b'.H
  | .rt d e' => ∀ b' σ' v, Gr false b b' → Sat w b' σ' e' → Tmp w b b' d v → D.rt v b'.H
  | .exc c x e' => ∀ b' σ', Gr false b b' → Sat w b' σ' e' → W c x b' e'
  | .stuck => False
def tS (w : Wd) (W : Wx) (f : SM) : TS := fun D σ H => ∃ b e, H = b.H ∧ Sat w b σ e ∧ SR w W b (f e) D
def ofE {α : Type} (r : Rs α) (k : α → En → So) : So := match r with
  | .ok a e => k a e
  | .exc c x e => .exc c x e
  | .stuck => .stuck
def seqS (f g : SM) : SM := fun e => match f e with
  | .nx e1 => g e1
  | r => r
def sNext : SM := fun e => .nx e
def sExpr (f : EM) : SM := fun e => ofE (f e) fun _ e1 => .nx e1
def sRet (f : EM) : SM := fun e => ofE (f e) fun d e1 => .rt d e1
def sRetN : SM := fun e => .rt .non e
def sIf (t : TM) (f g : SM) : SM := fun e => ofE (t e) fun k e1 => if k = true then f e1 else g e1
def sStuck : SM := fun _ => .stuck
section
variable {w : Wd} {W : Wx} {s : Bool} {b b' : Bs} {r : So} {D : Ends}
theorem SR.later (g : Gr s b b') (h : SR w W b r D) : SR w W b' r D := by
  cases r with
  | nx e' => exact fun b2 σ' g' S => h b2 σ' (g.weak.trans g') S
  | bk e' => exact fun b2 σ' g' S => h b2 σ' (g.weak.trans g') S
  | ct e' => exact fun b2 σ' g' S => h b2 σ' (g.weak.trans g') S
  | rt d e' => exact fun b2 σ' v g' S z => h b2 σ' v (g.weak.trans g') S (z.back g)
  | exc c x e' => exact fun b2 σ' g' S => h b2 σ' (g.weak.trans g') S
  | stuck => exact h
theorem SR.ofE {α : Type} {σ : St} {q : Rs α} {k : α → En → So} (h : SR w W b (Vm.ofE q k) D) : PR w W s σ b q fun a b' e' => SR w W b' (k a e') D := by
  cases q with
  | ok a e' => exact fun b' g S => SR.later g h
  | exc c x e' => exact fun b' g S => h b' σ g.weak S
  | stuck => exact h
end
section
variable {X : Cx} {W : Wx} {s : Bool} {w : Wd} {pos : Pos} {x : Expr} {st : Stmt} {rest body orelse : List Stmt} {f : EM} {t : TM} {sf sg : SM}
theorem zsNil : PSs X [] (tS w W sNext) := pss_nil.imp fun D σ H ⟨b, e, he, S, h⟩ => by
  subst he
  exact h b σ (Gr.refl b) S
theorem zsCons (h1 : PS X st (tS w W sf)) (h2 : PSs X rest (tS w W sg)) : PSs X (st :: rest) (tS w W (seqS sf sg)) := (pss_cons h1 h2).imp fun D σ H ⟨b, e, he, S, h⟩ => by
  subst he
  refine ⟨b, e, rfl, S, ?_⟩
  unfold seqS at h
  cases hf : sf e with
  | nx e1 =>
    rw [hf] at h
    exact fun b1 σ1 g1 S1 => ⟨b1, e1, rfl, S1, SR.later g1 h⟩
  | bk e1 =>
    rw [hf] at h
    exact h
  | ct e1 =>
    rw [hf] at h
    exact h
  | rt d e1 =>
    rw [hf] at h
    exact h
  | exc c x e1 =>
    rw [hf] at h
    exact h
  | stuck =>
    rw [hf] at h
    exact h
theorem zsOne (h1 : PS X st (tS w W sf)) : PSs X [st] (tS w W sf) := (pss_one h1).imp fun D σ H h => h
theorem zNever : PS X st (tS w W sStuck) := ps_never.imp fun D σ H ⟨b, e, he, S, h⟩ => h
theorem zExpr (h : PE X x (tZ w W s f)) (hs : swapsWith x none pos.line X.env = pure false := by rfl) : PS X (.Expr x pos) (tS w W (sExpr f)) := (ps_expr h hs).imp fun D σ H ⟨b, e, he, S, h⟩ => by
  subst he
  exact ⟨b, e, rfl, S, (SR.ofE h).mono fun d b1 e1 g1 S1 h1 v z => h1 b1 σ (Gr.refl _) S1⟩
theorem vRet (h : PE X x (tV w W s f)) : PS X (.Return (some x) pos) (tS w W (sRet f)) := (ps_ret h).imp fun D σ H ⟨b, e, he, S, h⟩ => by
  subst he
  refine ⟨b, e, rfl, S, ?_⟩
  unfold sRet at h
  cases hf : f e with
  | stuck =>
    rw [hf] at h
    exact h
  | exc c x e1 =>
    rw [hf] at h
    exact fun b' g S => h b' σ g.weak S
  | ok d e1 =>
    rw [hf] at h
    exact fun b1 g1 S1 v t => h b1 σ v g1.weak S1 t
theorem zIf (hc : PT X x (tT w W s t)) (ha : PSs X body (tS w W sf)) (hb : PSs X orelse (tS w W sg)) : PS X (.If x body orelse pos) (tS w W (sIf t sf sg)) := (ps_if hc ha hb).imp fun D σ H ⟨b, e, he, S, h⟩ => by
  subst he
  refine ⟨b, e, rfl, S, (SR.ofE h).mono fun k b1 e1 g1 S1 h1 => ?_⟩
  cases k with
  | true => exact ⟨b1, e1, rfl, S1, h1⟩
  | false => exact ⟨b1, e1, rfl, S1, h1⟩
end
end Vm

set_option maxHeartbeats 1000000
namespace Vm
open PySem L2
def okIx (e : En) : Ix → Prop
  | .s i => i < e.sl.length
  | .m n => n < e.mu.length
def Bs.give (b : Bs) (H' : Hp) (x : Ix) (l : List Addr) : Bs := ⟨b.G, H', fun y => if y = x then l else b.o y⟩
theorem give_same {b : Bs} {H' : Hp} {x : Ix} {l : List Addr} : (b.give H' x l).o x = l := if_pos rfl
theorem give_ne {b : Bs} {H' : Hp} {x y : Ix} {l : List Addr} (h : y ≠ x) : (b.give H' x l).o y = b.o y := if_neg h
section
variable {w : Wd} {b b0 : Bs} {σ σ' : St} {e : En} {x : Ix} {d : D} {v : V} {l : List Addr} {H' : Hp}
theorem Sat.hold (S : Sat w b σ e) (g : Gr false b0 b) (hx : okIx e x) (hH : ∀ a u, b.H a = some u → a ∉ b.o x → H' a = some u) (hn : ∀ a, H' a = none → b.H a = none)
    (hO : Own w b.G H' d v l) (hnd : l.Nodup) (hl : ∀ a ∈ l, b.G.F a = none ∧ (a ∈ b.o x ∨ (¬ b.own a ∧ (b0.H a = none ∨ b0.own a))))
    (hσ : rootV b σ' x = some v) (hσ' : ∀ y, y ≠ x → rootV b σ' y = rootV b σ y) (hlen : σ'.length = σ.length) : Gr false b0 (b.give H' x l) ∧ Sat w (b.give H' x l) σ' (e.put x (some d)) := by
  have sub : ∀ y a, a ∈ (b.give H' x l).o y → (y = x ∧ a ∈ l) ∨ (y ≠ x ∧ a ∈ b.o y) := fun y a h => by
    by_cases hy : y = x
    · subst hy
      rw [give_same] at h
      exact .inl ⟨rfl, h⟩
    · rw [give_ne hy] at h
      exact .inr ⟨hy, h⟩
  refine ⟨⟨g.g, fun a u h n => ?_, g.n, fun a h => ?_, (fun h => by cases h), fun a h => g.h a (hn a h)⟩, ⟨fun a u h => ?_, by rw [put_slen, hlen]; exact S.le, fun n => by rw [put_mlen]; exact S.lm n, fun y d' h => ?_, fun y h => ?_, fun y z a h1 h2 => ?_, fun y => ?_, fun y a h => ?_⟩⟩
  · have n' := keeps_f n
    exact hH a u (g.k a u h n) fun z => (g.p a ⟨x, z⟩).elim n' fun z => by rw [h] at z; cases z
  · obtain ⟨y, hy⟩ := h
    rcases sub y a hy with ⟨rfl, z⟩ | ⟨_, z⟩
    · rcases (hl a z).2 with z | ⟨_, z⟩
      · exact g.p a ⟨_, z⟩
      · exact z.symm
    · exact g.p a ⟨y, z⟩
  · exact hH a u (S.ex a u h) fun z => by
      have := S.fo x a z
      have h' : b.G.F a = some u := h
      rw [this] at h'
      cases h'
  · by_cases hy : y = x
    · subst hy
      rw [at_put_same (by cases y <;> exact hx)] at h
      cases h
      refine ⟨v, hσ, ?_⟩
      rw [give_same]
      exact hO
    · rw [at_put_ne hy] at h
      obtain ⟨v', h1, h2⟩ := S.sl y d' h
      refine ⟨v', (hσ' y hy).trans h1, ?_⟩
      rw [give_ne hy]
      exact h2.keep (.refl _) fun a ha u hu => hH a u hu fun z => hy (S.ap y x a ha z)
  · by_cases hy : y = x
    · subst hy
      rw [at_put_same (by cases y <;> exact hx)] at h
      cases h
    · rw [at_put_ne hy] at h
      rw [give_ne hy]
      exact S.em y h
  · rcases sub y a h1 with ⟨rfl, k1⟩ | ⟨n1, k1⟩
    · rcases sub z a h2 with ⟨rfl, k2⟩ | ⟨n2, k2⟩
      · rfl
      · rcases (hl a k1).2 with k | ⟨k, _⟩
        · exact S.ap _ _ a k k2
        · exact absurd ⟨z, k2⟩ k
    · rcases sub z a h2 with ⟨rfl, k2⟩ | ⟨n2, k2⟩
      · rcases (hl a k2).2 with k | ⟨k, _⟩
        · exact S.ap _ _ a k1 k
        · exact absurd ⟨y, k1⟩ k
      · exact S.ap y z a k1 k2
  · by_cases hy : y = x
    · rw [hy, give_same]
      exact hnd
    · rw [give_ne hy]
      exact S.nd y
  · rcases sub y a h with ⟨rfl, k1⟩ | ⟨_, k1⟩
    · exact (hl a k1).1
    · exact S.fo y a k1
theorem Sat.setS {i : Nat} (S : Sat w b σ e) (g : Gr false b0 b) (hi : i < σ.length) (t : Tmp w b0 b d v) : ∃ b', b'.H = b.H ∧ b'.G = b.G ∧ Gr false b0 b' ∧ Sat w b' (σ.set i (some v)) ⟨e.sl.set i (some d), e.mu⟩ := by
  obtain ⟨l, t1, t2, t3⟩ := t
  have := S.hold (σ' := σ.set i (some v)) (x := .s i) (H' := b.H) g (by show i < e.sl.length; rw [S.le]; exact hi) (fun a u h _ => h) (fun a h => h) t1 t2 (fun a ha => ⟨(t3 a ha).1, .inr (t3 a ha).2⟩)
    (by show ((σ.set i (some v))[i]?).getD none = some v; rw [List.getElem?_set_self hi]; rfl)
    (fun y hy => by
      cases y with
      | s j =>
        have : i ≠ j := fun z => hy (by rw [z])
        show ((σ.set i (some v))[j]?).getD none = (σ[j]?).getD none
        rw [List.getElem?_set_ne this]
      | m n => rfl) (by rw [List.length_set])
  exact ⟨b.give b.H (.s i) l, rfl, rfl, this⟩
theorem Sat.setZ {i : Nat} {s : Bool} (S : Sat w b σ e) (hi : i < σ.length) (z : Fz w b.G d v) : ∃ b', b'.H = b.H ∧ b'.G = b.G ∧ Gr s b b' ∧ Sat w b' (σ.set i (some v)) ⟨e.sl.set i (some d), e.mu⟩ := by
  have := S.hold (σ' := σ.set i (some v)) (x := .s i) (H' := b.H) (l := []) (Gr.refl b) (by show i < e.sl.length; rw [S.le]; exact hi) (fun a u h _ => h) (fun a h => h) z.own List.nodup_nil (fun a ha => nomatch ha)
    (by show ((σ.set i (some v))[i]?).getD none = some v; rw [List.getElem?_set_self hi]; rfl)
    (fun y hy => by
      cases y with
      | s j =>
        have : i ≠ j := fun z => hy (by rw [z])
        show ((σ.set i (some v))[j]?).getD none = (σ[j]?).getD none
        rw [List.getElem?_set_ne this]
      | m n => rfl) (by rw [List.length_set])
  refine ⟨b.give b.H (.s i) [], rfl, rfl, Gr.soft ⟨.refl _, fun a u h _ => h, fun a h => .inl h, fun a ⟨y, h⟩ => ?_, fun _ n a h => ?_, fun a h => h⟩, this.2⟩
  · by_cases hy : y = .s i
    · subst hy
      rw [give_same] at h
      cases h
    · rw [give_ne hy] at h
      exact .inl ⟨y, h⟩
  · rw [give_ne (by intro z; cases z)] at h
    exact .inl ⟨n, h⟩
def Bs.drop (b : Bs) (x : Ix) : Bs := ⟨b.G, b.H, fun y => if y = x then [] else b.o y⟩
theorem drop_sub {y : Ix} {a : Addr} (h : a ∈ (b.drop x).o y) : y ≠ x ∧ a ∈ b.o y := by
  have h' : a ∈ (if y = x then [] else b.o y) := h
  split at h'
  · cases h'
  · exact ⟨by assumption, h'⟩
theorem Gr.drop {s : Bool} (g : Gr s b0 b) : Gr s b0 (b.drop x) := ⟨g.g, g.k, g.n, fun a ⟨y, h⟩ => g.p a ⟨y, (drop_sub h).2⟩, fun hs n a h => g.q hs n a (drop_sub h).2, g.h⟩
theorem at_put_none {y : Ix} {d : D} (h : (e.put x none).at y = some d) : y ≠ x ∧ e.at y = some d := by
  have hne : y ≠ x := fun z => by
    subst z
    cases y with
    | s i =>
      have h' : ((e.sl.set i none)[i]?).getD none = some d := h
      by_cases hi : i < e.sl.length
      · rw [List.getElem?_set_self hi] at h'
        cases h'
      · rw [List.getElem?_eq_none (by rw [List.length_set]; omega)] at h'
        cases h'
    | m n =>
      have h' : ((e.mu.set n none)[n]?).getD none = some d := h
      by_cases hi : n < e.mu.length
      · rw [List.getElem?_set_self hi] at h'
        cases h'
      · rw [List.getElem?_eq_none (by rw [List.length_set]; omega)] at h'
        cases h'
  exact ⟨hne, by rw [at_put_ne hne] at h; exact h⟩
theorem Sat.drop (S : Sat w b σ e) (x : Ix) : Sat w (b.drop x) σ (e.put x none) := by
  refine ⟨S.ex, by rw [put_slen]; exact S.le, fun n => by rw [put_mlen]; exact S.lm n, fun y d h => ?_, fun y h => ?_, fun y z a h1 h2 => S.ap y z a (drop_sub h1).2 (drop_sub h2).2, fun y => ?_, fun y a h => S.fo y a (drop_sub h).2⟩
  · obtain ⟨hne, h⟩ := at_put_none h
    obtain ⟨v, h1, h2⟩ := S.sl y d h
    refine ⟨v, h1, ?_⟩
    have : (b.drop x).o y = b.o y := if_neg hne
    rw [this]
    exact h2
  · show (if y = x then [] else b.o y) = []
    by_cases hy : y = x
    · rw [if_pos hy]
    · rw [if_neg hy]
      rw [at_put_ne hy] at h
      exact S.em y h
  · show (if y = x then [] else b.o y).Nodup
    split
    · exact List.nodup_nil
    · exact S.nd y
theorem Sat.taken (S : Sat w b σ e) (h : e.at x = some d) : ∃ v, rootV b σ x = some v ∧ Tmp w b (b.drop x) d v := by
  obtain ⟨v, h1, h2⟩ := S.sl x d h
  refine ⟨v, h1, b.o x, h2, S.nd x, fun a ha => ⟨S.fo x a ha, fun ⟨y, hy⟩ => ?_, .inr ⟨x, ha⟩⟩⟩
  obtain ⟨hne, hy⟩ := drop_sub hy
  exact hne (S.ap y x a hy ha)
end

def eMove (i : Nat) : EM := fun e => match e.sl[i]? with
  | some (some d) => .ok d ⟨e.sl.set i none, e.mu⟩
  | _ => .stuck
def eFrz (i : Nat) : EM := fun e => match e.sl[i]? with
  | some (some d) => match frzD d with
    | some d' => .ok d' ⟨e.sl.set i (some d'), e.mu⟩
    | none => .stuck
  | _ => .stuck
section
variable {X : Cx} {w : Wd} {W : Wx} {s : Bool} {pos : Pos}
theorem slot_at {e : En} {i : Nat} {d : D} (h : e.sl[i]? = some (some d)) : e.at (.s i) = some d := by
  show (e.sl[i]?).getD none = some d
  rw [h]
  rfl
theorem vMove (i : Nat) {y : Str} (hN : X.N[i]? = some y := by rfl) (hv : Vis X.env.scope y := by first | exact Or.inl rfl | exact Or.inr (Or.inl rfl) | exact Or.inr (Or.inr rfl)) (hd : (y == ("__debug__" : Str)) = false := by decide)
    (hcd : (y == ("__classdict__" : Str)) = false := by decide) : PE X (.Name y pos) (tV w W s (eMove i)) := (pv i hN hv hd hcd).imp fun σ H Q ⟨b, e, he, S, h⟩ => by
  subst he
  unfold eMove at h
  split at h
  · rename_i d hd
    obtain ⟨v, k1, k2⟩ := S.slot hd
    obtain ⟨v', k3, t⟩ := S.taken (slot_at hd)
    have k3' : (σ[i]?).getD none = some v' := k3
    rw [k1] at k3'
    cases k3'
    exact ⟨v, k1, h (b.drop (.s i)) (Gr.refl b).drop (S.drop (.s i)) v t⟩
  · exact h.elim
theorem zFrz (i : Nat) {y : Str} (hN : X.N[i]? = some y := by rfl) (hv : Vis X.env.scope y := by first | exact Or.inl rfl | exact Or.inr (Or.inl rfl) | exact Or.inr (Or.inr rfl)) (hd : (y == ("__debug__" : Str)) = false := by decide)
    (hcd : (y == ("__classdict__" : Str)) = false := by decide) : PE X (.Name y pos) (tZ w W s (eFrz i)) := (pv i hN hv hd hcd).imp fun σ H Q ⟨b, e, he, S, h⟩ => by
  subst he
  unfold eFrz at h
  split at h
  · rename_i d hd
    split at h
    · rename_i d' hq
      obtain ⟨v, k1, k2⟩ := S.slot hd
      refine ⟨v, k1, ?_⟩
      have hi : i < e.sl.length := (List.getElem?_eq_some_iff.mp hd).1
      unfold frzD at hq
      split at hq
      · rename_i hf
        cases hq
        have : e.sl.set i (some d) = e.sl := by
          apply List.ext_getElem?
          intro j
          by_cases hj : i = j
          · subst hj
            rw [List.getElem?_set_self hi, hd]
          · rw [List.getElem?_set_ne hj]
        rw [this] at h
        exact h b (Gr.refl b) S v ((own_fz hf).mp k2).1
      · rename_i hnf
        split at hq
        · rename_i ds
          split at hq
          · rename_i ha
            cases hq
            obtain ⟨a, vs, l', rfl, m1, m2, m3, m4⟩ := own_olst.mp k2
            obtain ⟨m5, rfl⟩ := m3.fz ha
            have hain : a ∈ b.o (.s i) := by rw [m4]; simp
            have hF := S.fo _ a hain
            have S1 := S.drop (.s i)
            have no : ¬ (b.drop (.s i)).own a := fun ⟨y, hy⟩ => by
              obtain ⟨hne, hy⟩ := drop_sub hy
              exact hne (S.ap y _ a hy hain)
            have g2 : Gr s b ((b.drop (.s i)).fix a (.lst vs)) := Gr.fix (Gr.refl b).drop hF (.inr ⟨_, hain⟩)
            have S2 : Sat w ((b.drop (.s i)).fix a (.lst vs)) σ (e.put (.s i) none) := S1.fix (u := .lst vs) hF m1 no
            have z : Fz w ((b.drop (.s i)).fix a (.lst vs)).G (.lst ds) (.ref a) := fz_lst.mpr ⟨a, vs, rfl, upd_same, m2, m5.mono (fix_le hF)⟩
            -- the slot holds it again
            refine h _ g2 ⟨S2.ex, by rw [List.length_set]; exact S.le, S2.lm, fun y d h => ?_, fun y h => ?_, S2.ap, S2.nd, S2.fo⟩ _ z
            · by_cases hy : y = .s i
              · subst hy
                have h' : ((e.sl.set i (some (D.lst ds)))[i]?).getD none = some d := h
                rw [List.getElem?_set_self hi] at h'
                cases h'
                refine ⟨.ref a, by show (σ[i]?).getD none = _; rw [k1]; rfl, ?_⟩
                have : ((b.drop (.s i)).fix a (.lst vs)).o (.s i) = [] := if_pos rfl
                rw [this]
                exact z.own
              · refine S2.sl y d ?_
                rw [at_put_ne hy]
                rw [← h]
                exact (at_put_ne (e := e) (d := some (D.lst ds)) hy).symm
            · by_cases hy : y = .s i
              · subst hy
                exact if_pos rfl
              · refine S2.em y ?_
                rw [at_put_ne hy]
                rw [← h]
                exact (at_put_ne (e := e) (d := some (D.lst ds)) hy).symm
          · cases hq
        · cases hq
    · exact h.elim
  · exact h.elim
end
end Vm

set_option maxHeartbeats 1000000
namespace Vm
open PySem L2
abbrev GM := D → En → Option En
def gN (i : Nat) : GM := fun d e => some ⟨e.sl.set i (some d), e.mu⟩
def gsNil : List D → En → Option En := fun ds e => match ds with
  | [] => some e
  | _ :: _ => none
def gsCons (g : GM) (h : List D → En → Option En) : List D → En → Option En := fun ds e => match ds with
  | d :: r => (g d e).bind fun e1 => h r e1
  | [] => none
def gT (n : Nat) (h : List D → En → Option En) : GM := fun d e => match d with
  | .tup ds => if ds.length = n then h ds e else none
  | .lst ds => if ds.length = n then h ds e else none
  | _ => none
def tG (w : Wd) (vs : List Nat) (g : GM) : TG := fun v σ H Q => ∃ b e d e', H = b.H ∧ Sat w b σ e ∧ Fz w b.G d v ∧ g d e = some e' ∧ ∀ b' σ', b'.H = b.H → Gr true b b' → Sat w b' σ' e' → wipe σ' vs = wipe σ vs → Q σ' b.H
def tGs (w : Wd) (ws : List Nat) (g : List D → En → Option En) : TGs := fun vs σ H Q => ∃ b e ds e', H = b.H ∧ Sat w b σ e ∧ FzL w b.G ds vs ∧ g ds e = some e' ∧ ∀ b' σ', b'.H = b.H → Gr true b b' → Sat w b' σ' e' → wipe σ' ws = wipe σ ws → Q σ' b.H
theorem wipe_set {σ : St} {i : Nat} {x : Option V} : ∀ {vs : List Nat}, vs.contains i = true → wipe (σ.set i x) vs = wipe σ vs
  | [], h => by simp at h
  | v :: vs, h => by
    unfold wipe
    by_cases hv : vs.contains i = true
    · rw [wipe_set hv]
    · have e : i = v := by
        have h' : i = v ∨ i ∈ vs := by simpa using h
        exact h'.resolve_right (by simpa using hv)
      subst e
      have hn : i ∉ vs := by simpa using hv
      have key : ∀ us : List Nat, i ∉ us → wipe (σ.set i x) us = (wipe σ us).set i x := by
        intro us
        induction us with
        | nil => intro _; rfl
        | cons u us ih =>
          intro h
          unfold wipe
          rw [ih (fun z => h (List.mem_cons_of_mem _ z)), List.set_comm]
          exact fun z => h (by rw [z]; exact List.mem_cons_self ..)
      rw [key vs hn, List.set_set]
theorem _root_.L2.PG.imp {X : Cx} {e : Expr} {t t' : TG} (h : PG X e t) (k : ∀ v σ H Q, t' v σ H Q → t v σ H Q) : PG X e t' := ⟨fun pins s σ H v u Q I r q => h.run pins s σ H v u Q I r (k v σ H Q q)⟩
theorem _root_.L2.PGs.imp {X : Cx} {e : List Expr} {t t' : TGs} (h : PGs X e t) (k : ∀ v σ H Q, t' v σ H Q → t v σ H Q) : PGs X e t' := ⟨fun pins s σ H v u Q I r q => h.run pins s σ H v u Q I r (k v σ H Q q)⟩
theorem _root_.L2.PG.or {X : Cx} {e : Expr} {t t' : TG} (h : PG X e t) (h' : PG X e t') : PG X e (fun v σ H Q => t v σ H Q ∨ t' v σ H Q) := ⟨fun pins s σ H v u Q I r q => q.elim (h.run pins s σ H v u Q I r) (h'.run pins s σ H v u Q I r)⟩
theorem _root_.L2.PG.len {X : Cx} {e : Expr} {t : TG} (h : PG X e t) : PG X e fun v σ H Q => σ.length = X.N.length → t v σ H Q := ⟨fun pins s σ H v u Q I r q => h.run pins s σ H v u Q I r (q I.len)⟩
theorem _root_.L2.PS.len {X : Cx} {e : Stmt} {t : TS} (h : PS X e t) : PS X e fun D σ H => σ.length = X.N.length → t D σ H := ⟨fun pins s σ H D I q => h.run pins s σ H D I (q I.len)⟩
section
variable {X : Cx} {W : Wx} {s : Bool} {w : Wd} {pos : Pos} {x tg : Expr} {es : List Expr} {g : GM} {gs : List D → En → Option En} {f : EM}
theorem zgN (i : Nat) {y : Str} {vs : List Nat} (hN : X.N.Nodup) (hvs : vs.contains i = true := by rfl) (hi : X.N[i]? = some y := by rfl) (hx : Loc X.env.scope y := by first | exact Or.inl rfl | exact Or.inr rfl)
    (hf : X.fn y = true ∨ X.env.scope.names.lookup y = some .local := by first | exact .inl rfl | exact .inr rfl | assumption) : PG X (.Name y pos) (tG w vs (gN i)) := (pg_name hN hi hx hf).len.imp fun v σ H Q ⟨b, e, d, e', he, S, z, hg, q⟩ hl => by
  subst he
  cases hg
  have hlt : i < σ.length := by
    rw [hl]
    exact (List.getElem?_eq_some_iff.mp hi).1
  obtain ⟨b', h1, _, h2, h3⟩ := S.setZ hlt z
  exact q b' _ h1 h2 h3 (wipe_set hvs)
theorem zgsNil {vs : List Nat} : PGs X [] (tGs w vs gsNil) := pgs_nil.imp fun vs σ H Q ⟨b, e, ds, e', he, S, z, hg, q⟩ => by
  subst he
  cases ds with
  | nil =>
    cases hg
    exact ⟨fzl_nil.mp z, q b σ rfl (Gr.refl b) S rfl⟩
  | cons _ _ => cases hg
theorem zgsCons {ws : List Nat} (h1 : PG X x (tG w ws g)) (h2 : PGs X es (tGs w ws gs)) (hs : (assignEach (x :: es) X.env).map (·.2) = assign x X.env :: (assignEach es X.env).map (·.2) := by rfl) : PGs X (x :: es) (tGs w ws (gsCons g gs)) := (pgs_cons h1 h2 hs).imp fun vs σ H Q ⟨b, e, ds, e', he, S, z, hg, q⟩ => by
  subst he
  cases ds with
  | nil => cases hg
  | cons d r =>
    obtain ⟨v, vr, rfl, z1, z2⟩ := fzl_cons.mp z
    have hg' : (g d e).bind (fun e1 => gs r e1) = some e' := hg
    obtain ⟨e1, h1, h2⟩ := Option.bind_eq_some_iff.mp hg'
    exact ⟨v, vr, rfl, b, e, d, e1, rfl, S, z1, h1, fun b1 σ1 p1 g1 S1 q1 => ⟨b1, e1, r, e', p1.symm, S1, z2.mono g1.g, h2, fun b2 σ2 p2 g2 S2 q2 => p1 ▸ q b2 σ2 (p2.trans p1) (g1.trans g2) S2 (q2.trans q1)⟩⟩
theorem zgT {n k : Nat} {ws : List Nat} (hK : X.K = w.K) (hc : X.calm = true) (h : PGs X es (tGs w ws gs)) (hn : (assignEach es X.env).length = n := by rfl) (hst : (assignEach es X.env).findIdx? (·.1) = none := by rfl) : PG X (.Tuple es k pos) (tG w ws (gT n gs)) :=
  ((pg_tup hc h hn hst).or (pg_lst hc h hn hst)).imp fun v σ H Q ⟨b, e, d, e', he, S, z, hg, q⟩ => by
  subst he
  cases d <;> try exact absurd hg (by intro q; cases q)
  case tup ds =>
    have hg' : (if ds.length = n then gs ds e else none) = some e' := hg
    split at hg'
    · rename_i hl
      obtain ⟨a, vs, rfl, h1, _, h3⟩ := fz_tup.mp z
      exact .inl ⟨a, vs, rfl, SqT.of (S.ex _ _ h1), by rw [h3.length]; exact hl, b, e, ds, e', rfl, S, h3, hg', q⟩
    · cases hg'
  case lst ds =>
    have hg' : (if ds.length = n then gs ds e else none) = some e' := hg
    split at hg'
    · rename_i hl
      obtain ⟨a, vs, rfl, h1, _, h3⟩ := fz_lst.mp z
      exact .inr ⟨a, vs, rfl, SqL.of (S.ex _ _ h1), by rw [h3.length]; exact hl, b, e, ds, e', rfl, S, h3, hg', q⟩
    · cases hg'
def sAsg (f : EM) (g : GM) : SM := fun e => ofE (f e) fun d e1 => match g d e1 with
  | some e2 => .nx e2
  | none => .stuck
theorem asg_z {ws : List Nat} {D : Ends} {σ : St} {H : Hp} (h : tS w W (sAsg f g) D σ H) : tAsg (tZ w W s f) (tG w ws g) D σ H := by
  obtain ⟨b, e, rfl, S, h⟩ := h
  refine ⟨b, e, rfl, S, (SR.ofE h).mono fun d b1 e1 g1 S1 h1 v z => ?_⟩
  cases hg : g d e1 with
  | none =>
    rw [hg] at h1
    exact h1.elim
  | some e2 =>
    rw [hg] at h1
    exact ⟨b1, e1, d, e2, rfl, S1, z, hg, fun b' σ' p g' S' _ => p ▸ h1 b' σ' g'.weak S'⟩
theorem zAsg {ws : List Nat} (he : PE X x (tZ w W s f)) (hg : PG X tg (tG w ws g)) (hs : swapsWithSole [tg] x pos.line X.env = pure false := by rfl) (hw : swappedStores [tg] x X.env = pure none := by rfl)
    (h1 : (assignEach [tg] X.env).map (·.2) = [assign tg X.env] := by rfl) : PS X (.Assign [tg] x pos) (tS w W (sAsg f g)) := (ps_asg he hg hs hw h1).imp fun D σ H h => asg_z h
theorem set_v {i : Nat} {D : Ends} {σ : St} {H : Hp} (hi : i < σ.length) (h : tS w W (sAsg f (gN i)) D σ H) : tAsg (tV w W s f) (gName i) D σ H := by
  obtain ⟨b, e, rfl, S, h⟩ := h
  refine ⟨b, e, rfl, S, ?_⟩
  unfold sAsg at h
  cases hf : f e with
  | stuck =>
    rw [hf] at h
    exact h
  | exc c x e1 =>
    rw [hf] at h
    exact fun b' g S => h b' σ g.weak S
  | ok d e1 =>
    rw [hf] at h
    intro b1 g1 S1 v t
    obtain ⟨b2, e2, _, g2, S2⟩ := S1.setS g1.weak hi t
    show D.nx _ b1.H
    rw [← e2]
    exact h b2 _ g2 S2
theorem vSet (i : Nat) {y : Str} {pos' : Pos} (hN : X.N.Nodup) (he : PE X x (tV w W s f)) (hi : X.N[i]? = some y := by rfl) (hx : Loc X.env.scope y := by first | exact Or.inl rfl | exact Or.inr rfl)
    (hs : swapsWith x (some (.Name y pos')) pos.line X.env = pure false := by rfl) (hf : X.fn y = true ∨ X.env.scope.names.lookup y = some .local := by first | exact .inl rfl | exact .inr rfl | assumption) : PS X (.Assign [.Name y pos'] x pos) (tS w W (sAsg f (gN i))) :=
  (ps_set hN hi hx he hs hf).len.imp fun D σ H h hl => set_v (by rw [hl]; exact (List.getElem?_eq_some_iff.mp hi).1) h
end
end Vm

set_option maxHeartbeats 1000000
namespace Vm
open PySem L2
section
variable {w : Wd} {b b' : Bs} {σ : St} {e : En} {d : D} {ds : List D} {v : V} {s : Bool}
theorem Br.int {i : Int} (h : Br w b (.int i) v) : v = .int i := fz_int.mp (h.fz rfl)
theorem Br.str {i : Str} (h : Br w b (.str i) v) : v = .str i ∧ PyData.strOk i = true := fz_str.mp (h.fz rfl)
theorem Br.bl {i : Bool} (h : Br w b (.bl i) v) : v = .bl i := fz_bl.mp (h.fz rfl)
theorem Br.non (h : Br w b .non v) : v = .non := fz_non.mp (h.fz rfl)
theorem Br.tup (h : Br w b (.tup ds) v) : ∃ a vs, v = .ref a ∧ b.G.F a = some (.tup vs) ∧ ds.length ≤ sizeLine ∧ FzL w b.G ds vs := fz_tup.mp (h.fz rfl)
theorem Br.tux (h : Br w b (.tux ds) v) : ∃ a o vs, v = .ref a ∧ b.G.F a = some (.frz o (.tup vs)) ∧ o.dict = none ∧ ds.length ≤ sizeLine ∧ FzL w b.G ds vs := fz_tux.mp (h.fz rfl)
theorem Br.rol (h : Br w b (.rol ds) v) : ∃ a vs, v = .ref a ∧ SqL w.K b.G.F a vs ∧ ds.length ≤ sizeLine ∧ FzL w b.G ds vs := fz_rol.mp (h.fz rfl)
theorem Br.lst (S : Sat w b σ e) (h : Br w b (.lst ds) v) : ∃ a vs, v = .ref a ∧ b.H a = some (.lst vs) ∧ ds.length ≤ sizeLine ∧ FzL w b.G ds vs := by
  obtain ⟨a, vs, rfl, h1, h2, h3⟩ := fz_lst.mp (h.fz rfl)
  exact ⟨a, vs, rfl, S.ex _ _ h1, h2, h3⟩
theorem Br.olst (h : Br w b (.olst ds) v) : ∃ a vs l, v = .ref a ∧ b.H a = some (.lst vs) ∧ ds.length ≤ sizeLine ∧ OwnL w b.G b.H ds vs l := by
  obtain ⟨l, h1, _⟩ := h
  obtain ⟨a, vs, l', rfl, k1, k2, k3, _⟩ := own_olst.mp h1
  exact ⟨a, vs, l', rfl, k1, k2, k3⟩
theorem Br.otup (h : Br w b (.otup ds) v) : ∃ a vs l, v = .ref a ∧ b.H a = some (.tup vs) ∧ ds.length ≤ sizeLine ∧ OwnL w b.G b.H ds vs l := by
  obtain ⟨l, h1, _⟩ := h
  obtain ⟨a, vs, l', rfl, k1, k2, k3, _⟩ := own_otup.mp h1
  exact ⟨a, vs, l', rfl, k1, k2, k3⟩
theorem sat_sqL {a : Addr} {vs : List V} (S : Sat w b σ e) (h : SqL w.K b.G.F a vs) : SqL w.K b.H a vs := SqL.mono S.ex h
def items? : D → Option (List D)
  | .tup ds => some ds
  | .tux ds => some ds
  | .lst ds => some ds
  | .rol ds => some ds
  | .olst ds => some ds
  | .otup ds => some ds
  | _ => none
def fitems? : D → Option (List D)
  | .tup ds => some ds
  | .tux ds => some ds
  | .lst ds => some ds
  | .rol ds => some ds
  | .olst ds => if ds.all isF then some ds else none
  | _ => none
def litems? : D → Option (List D)
  | .lst ds => some ds
  | .olst ds => if ds.all isF then some ds else none
  | _ => none
theorem Br.seq (S : Sat w b σ e) (h : Br w b d v) (hi : items? d = some ds) : ∃ a vs l, v = .ref a ∧ (SqL w.K b.H a vs ∨ SqT w.K b.H a vs) ∧ ds.length ≤ sizeLine ∧ OwnL w b.G b.H ds vs l := by
  cases d <;> try cases hi
  · obtain ⟨a, vs, rfl, h1, h2, h3⟩ := h.tup
    exact ⟨a, vs, [], rfl, .inr (SqT.of (S.ex _ _ h1)), h2, h3.own⟩
  · obtain ⟨a, o, vs, rfl, h1, _, h2, h3⟩ := h.tux
    exact ⟨a, vs, [], rfl, .inr (.inl (.inr ⟨o, S.ex _ _ h1⟩)), h2, h3.own⟩
  · obtain ⟨a, vs, rfl, h1, h2, h3⟩ := h.lst S
    exact ⟨a, vs, [], rfl, .inl (SqL.of h1), h2, h3.own⟩
  · obtain ⟨a, vs, rfl, h1, h2, h3⟩ := h.rol
    exact ⟨a, vs, [], rfl, .inl (sat_sqL S h1), h2, h3.own⟩
  · obtain ⟨a, vs, l, rfl, h1, h2, h3⟩ := h.olst
    exact ⟨a, vs, l, rfl, .inl (SqL.of h1), h2, h3⟩
  · obtain ⟨a, vs, l, rfl, h1, h2, h3⟩ := h.otup
    exact ⟨a, vs, l, rfl, .inr (SqT.of h1), h2, h3⟩
theorem Br.fseq (S : Sat w b σ e) (h : Br w b d v) (hi : fitems? d = some ds) : ∃ a vs, v = .ref a ∧ (SqL w.K b.H a vs ∨ SqT w.K b.H a vs) ∧ ds.length ≤ sizeLine ∧ FzL w b.G ds vs := by
  cases d <;> try cases hi
  · obtain ⟨a, vs, rfl, h1, h2, h3⟩ := h.tup
    exact ⟨a, vs, rfl, .inr (SqT.of (S.ex _ _ h1)), h2, h3⟩
  · obtain ⟨a, o, vs, rfl, h1, _, h2, h3⟩ := h.tux
    exact ⟨a, vs, rfl, .inr (.inl (.inr ⟨o, S.ex _ _ h1⟩)), h2, h3⟩
  · obtain ⟨a, vs, rfl, h1, h2, h3⟩ := h.lst S
    exact ⟨a, vs, rfl, .inl (SqL.of h1), h2, h3⟩
  · obtain ⟨a, vs, rfl, h1, h2, h3⟩ := h.rol
    exact ⟨a, vs, rfl, .inl (sat_sqL S h1), h2, h3⟩
  · rename_i xs
    have hi' : (if xs.all isF then some xs else none) = some ds := hi
    split at hi'
    · rename_i hf
      cases hi'
      obtain ⟨a, vs, l, rfl, h1, h2, h3⟩ := h.olst
      exact ⟨a, vs, rfl, .inl (SqL.of h1), h2, (h3.fz hf).1⟩
    · cases hi'
theorem Br.list (S : Sat w b σ e) (h : Br w b d v) (hi : litems? d = some ds) : ∃ a vs, v = .ref a ∧ b.H a = some (.lst vs) ∧ ds.length ≤ sizeLine ∧ FzL w b.G ds vs := by
  cases d <;> try cases hi
  · exact h.lst S
  · rename_i xs
    have hi' : (if xs.all isF then some xs else none) = some ds := hi
    split at hi'
    · rename_i hf
      cases hi'
      obtain ⟨a, vs, l, rfl, h1, h2, h3⟩ := h.olst
      exact ⟨a, vs, rfl, h1, h2, (h3.fz hf).1⟩
    · cases hi'
theorem OwnL.get {G : Gs} {H : Hp} : ∀ {ds : List D} {vs : List V} {l : List Addr} {i : Nat} {d : D}, OwnL w G H ds vs l → ds[i]? = some d → ∃ v l', vs[i]? = some v ∧ Own w G H d v l' ∧ ∀ a ∈ l', a ∈ l
  | [], vs, l, i, d, h, e => by simp at e
  | d :: ds, vs, l, 0, d', h, e => by
    obtain ⟨v, r, l1, l2, rfl, h1, _, rfl⟩ := ownl_cons.mp h
    simp at e
    subst e
    exact ⟨v, l1, rfl, h1, fun a ha => List.mem_append_left _ ha⟩
  | d :: ds, vs, l, i + 1, d', h, e => by
    obtain ⟨v, r, l1, l2, rfl, _, h2, rfl⟩ := ownl_cons.mp h
    obtain ⟨v', l', e', z, k⟩ := OwnL.get (i := i) h2 (by simpa using e)
    exact ⟨v', l', by simpa using e', z, fun a ha => List.mem_append_right _ (k a ha)⟩
end
def OpB (w : Wd) (r : R2) (g : D → D → Option D) : Prop := ∀ ⦃s : Bool⦄ ⦃σ : St⦄ ⦃b : Bs⦄ ⦃e : En⦄ ⦃x y d : D⦄ ⦃vx vy : V⦄ ⦃Q : VK⦄,
  Sat w b σ e → Br w b x vx → Br w b y vy → g x y = some d → Ret w s b σ e d Q → r vx vy b.H Q
def OpBO (w : Wd) (r : R2) (g : D → D → Option D) : Prop := ∀ ⦃s : Bool⦄ ⦃σ : St⦄ ⦃b : Bs⦄ ⦃e : En⦄ ⦃x y d : D⦄ ⦃vx vy : V⦄ ⦃Q : VK⦄,
  Sat w b σ e → Br w b x vx → Br w b y vy → g x y = some d → RetV w s b σ e d Q → r vx vy b.H Q
theorem OpB.or {w : Wd} {r r' : R2} {g g' : D → D → Option D} (h : OpB w r g) (h' : OpB w r' g') : OpB w (fun x y H Q => r x y H Q ∨ r' x y H Q) (orD g g') := by
  intro s σ b e x y d vx vy Q S zx zy hg R
  unfold orD at hg
  cases hq : g x y with
  | some d' =>
    rw [hq] at hg
    cases hg
    exact .inl (h S zx zy hq R)
  | none =>
    rw [hq] at hg
    exact .inr (h' S zx zy hg R)
def UnB (w : Wd) (r : V → Hp → VK → Prop) (g : D → Option D) : Prop := ∀ ⦃s : Bool⦄ ⦃σ : St⦄ ⦃b : Bs⦄ ⦃e : En⦄ ⦃x d : D⦄ ⦃vx : V⦄ ⦃Q : VK⦄,
  Sat w b σ e → Br w b x vx → g x = some d → Ret w s b σ e d Q → r vx b.H Q
def UnBO (w : Wd) (r : V → Hp → VK → Prop) (g : D → Option D) : Prop := ∀ ⦃s : Bool⦄ ⦃σ : St⦄ ⦃b : Bs⦄ ⦃e : En⦄ ⦃x d : D⦄ ⦃vx : V⦄ ⦃Q : VK⦄,
  Sat w b σ e → Br w b x vx → g x = some d → RetV w s b σ e d Q → r vx b.H Q
section
variable {X : Cx} {W : Wx} {s : Bool} {w : Wd} {pos : Pos} {a c : Expr} {fa fb : EM} {r : R2} {g : D → D → Option D} {σ : St} {H : Hp} {Q : VK}
theorem tOp_f (hr : OpB w r g) (h : tZ w W s (bin g fa fb) σ H Q) : tOp r (tZ w W s fa) (tB w W s fb) σ H Q := by
  obtain ⟨b, e, rfl, S, h⟩ := h
  refine ⟨b, e, rfl, S, (PR.bind h).mono fun x b1 e1 g1 S1 h1 vx zx => ⟨b1, e1, rfl, S1, (PR.bind h1).mono fun y b2 e2 g2 S2 h2 vy zy => ?_⟩⟩
  obtain ⟨d, hd, R⟩ := PR.ret h2
  exact hr S2 (zx.mono g2.g).br zy hd R
theorem tOp_bo (hr : OpBO w r g) (h : tV w W s (bin g fa fb) σ H Q) : tOp r (tB w W s fa) (tB w W true fb) σ H Q := by
  obtain ⟨b, e, rfl, S, h⟩ := h
  refine ⟨b, e, rfl, S, (PR.bind h).mono fun x b1 e1 g1 S1 h1 vx zx => ⟨b1, e1, rfl, S1, (PR.bind h1).soften.mono fun y b2 e2 g2 S2 h2 vy zy => ?_⟩⟩
  obtain ⟨d, hd, R⟩ := PR.retV (g1.trans (Gr.soft g2)) h2
  exact hr S2 (zx.soft g2) zy hd R
theorem tOp_fo (hr : OpBO w r g) (h : tV w W s (bin g fa fb) σ H Q) : tOp r (tZ w W s fa) (tB w W s fb) σ H Q := by
  obtain ⟨b, e, rfl, S, h⟩ := h
  refine ⟨b, e, rfl, S, (PR.bind h).mono fun x b1 e1 g1 S1 h1 vx zx => ⟨b1, e1, rfl, S1, (PR.bind h1).mono fun y b2 e2 g2 S2 h2 vy zy => ?_⟩⟩
  obtain ⟨d, hd, R⟩ := PR.retV (g1.trans g2) h2
  exact hr S2 (zx.mono g2.g).br zy hd R
theorem fOp {op : Operator} (hr : OpB w r g) (ho : OpR X (binaryOp op) r) (ha : PE X a (tZ w W s fa)) (hb : PE X c (tB w W s fb)) : PE X (.BinOp a op c pos) (tZ w W s (bin g fa fb)) :=
  (pe_op ho ha hb).imp fun _ _ _ h => tOp_f hr h
theorem bOpO {op : Operator} (hr : OpBO w r g) (ho : OpR X (binaryOp op) r) (ha : PE X a (tB w W s fa)) (hb : PE X c (tB w W true fb)) : PE X (.BinOp a op c pos) (tV w W s (bin g fa fb)) :=
  (pe_op ho ha hb).imp fun _ _ _ h => tOp_bo hr h
theorem fOpO {op : Operator} (hr : OpBO w r g) (ho : OpR X (binaryOp op) r) (ha : PE X a (tZ w W s fa)) (hb : PE X c (tB w W s fb)) : PE X (.BinOp a op c pos) (tV w W s (bin g fa fb)) :=
  (pe_op ho ha hb).imp fun _ _ _ h => tOp_fo hr h
theorem fCmp {op : CmpOp} (hr : OpB w r g) (ho : OpR X (compareOp op) r) (ha : PE X a (tZ w W s fa)) (hb : PE X c (tB w W s fb)) (hm : behindInMarks op c = false := by rfl) : PE X (.Compare a [op] [c] pos) (tZ w W s (bin g fa fb)) :=
  (pe_cmpR ho ha hb hm).imp fun _ _ _ h => tOp_f hr h
theorem fIx (hr : OpB w r g) (ho : IxR X r) (ha : PE X a (tZ w W s fa)) (hb : PE X c (tB w W s fb)) (hp : PlainIx c := by intro _ _; rfl) : PE X (.Subscript a c pos) (tZ w W s (bin g fa fb)) :=
  (pe_ix ho ha hb hp).imp fun _ _ _ h => tOp_f hr h
end

def dInt (f : Int → Int → Option Int) : D → D → Option D
  | .int i, .int j => (f i j).map .int
  | _, _ => none
def dIntB (f : Int → Int → Bool) : D → D → Option D
  | .int i, .int j => some (.bl (f i j))
  | _, _ => none
theorem ob_int {w : Wd} {C : Int → Int → Prop} {f : Int → Int → Int} {g : Int → Int → Option Int} (h : ∀ i j k, g i j = some k → C i j ∧ f i j = k) : OpB w (rI C fun i j => .int (f i j)) (dInt g) := by
  intro s σ b e x y d vx vy Q S zx zy hg R
  cases x <;> try cases hg
  cases y <;> try cases hg
  rename_i i j
  cases zx.int
  cases zy.int
  obtain ⟨k, hk, rfl⟩ := Option.map_eq_some_iff.mp (show (g i j).map D.int = some d from hg)
  obtain ⟨h1, h2⟩ := h i j k hk
  subst h2
  exact ⟨i, j, rfl, rfl, h1, R.now S (fz_int.mpr rfl)⟩
theorem ob_int0 {w : Wd} {f : Int → Int → Int} : OpB w (rI0 fun i j => .int (f i j)) (dInt fun i j => some (f i j)) := by
  intro s σ b e x y d vx vy Q S zx zy hg R
  cases x <;> try cases hg
  cases y <;> try cases hg
  cases zx.int
  cases zy.int
  exact ⟨_, _, rfl, rfl, R.now S (fz_int.mpr rfl)⟩
theorem ob_intB {w : Wd} {f : Int → Int → Bool} : OpB w (rI0 fun i j => .bl (f i j)) (dIntB f) := by
  intro s σ b e x y d vx vy Q S zx zy hg R
  cases x <;> try cases hg
  cases y <;> try cases hg
  cases zx.int
  cases zy.int
  exact ⟨_, _, rfl, rfl, R.now S (fz_bl.mpr rfl)⟩
def gMod (i j : Int) : Option Int := if 0 < j then some (i % j) else none
def gFdv (i j : Int) : Option Int := if 0 < j ∧ j < 1073741824 then some (i / j) else none
def gMul (i j : Int) : Option Int := if i.natAbs.log2 + j.natAbs.log2 < 1000000 then some (i * j) else none
def dAddI := dInt fun i j => some (i + j)
def dSub := dInt fun i j => some (i - j)
def dMulI := dInt gMul
def dMod := dInt gMod
def dFdv := dInt gFdv
def dLt := dIntB fun i j => decide (i < j)
def dLe := dIntB fun i j => decide (i ≤ j)
def dGt := dIntB fun i j => decide (j < i)
def dGe := dIntB fun i j => decide (j ≤ i)
theorem ob_addI {w : Wd} : OpB w (rI0 fun i j => .int (i + j)) dAddI := ob_int0
theorem ob_sub {w : Wd} : OpB w (rI0 fun i j => .int (i - j)) dSub := ob_int0
theorem ob_mulI {w : Wd} : OpB w (rI CMulW fun i j => .int (i * j)) dMulI := ob_int fun i j k h => by
  unfold gMul at h
  split at h
  · cases h
    exact ⟨by assumption, rfl⟩
  · cases h
theorem ob_mod {w : Wd} : OpB w (rI (fun _ j => 0 < j) fun i j => .int (i % j)) dMod := ob_int fun i j k h => by
  unfold gMod at h
  split at h
  · cases h
    exact ⟨by assumption, rfl⟩
  · cases h
theorem ob_fdv {w : Wd} : OpB w (rI CDiv fun i j => .int (i / j)) dFdv := ob_int fun i j k h => by
  unfold gFdv at h
  split at h
  · cases h
    exact ⟨by assumption, rfl⟩
  · cases h
theorem ob_lt {w : Wd} : OpB w (rI0 fun i j => .bl (decide (i < j))) dLt := ob_intB
theorem ob_le {w : Wd} : OpB w (rI0 fun i j => .bl (decide (i ≤ j))) dLe := ob_intB
theorem ob_gt {w : Wd} : OpB w (rI0 fun i j => .bl (decide (j < i))) dGt := ob_intB
def dNeg : D → Option D
  | .int i => some (.int (-i))
  | _ => none
def dCatT : D → D → Option D
  | .tup xs, .tup ys => if xs.length + ys.length ≤ LIM then some (.tup (xs ++ ys)) else none
  | _, _ => none
theorem ob_catT {w : Wd} : OpB w (rCatA w.K) dCatT := by
  intro s σ b e x y d vx vy Q S zx zy hg R
  cases x <;> try cases hg
  cases y <;> try cases hg
  rename_i xs ys
  have hg' : (if xs.length + ys.length ≤ LIM then some (D.tup (xs ++ ys)) else none) = some d := hg
  split at hg'
  · rename_i hl
    cases hg'
    obtain ⟨a, vs, rfl, h1, h2, h3⟩ := zx.tup
    obtain ⟨a', vs', rfl, h1', h2', h3'⟩ := zy.tup
    have l1 := h3.length
    have l2 := h3'.length
    refine ⟨a, a', vs, vs', rfl, rfl, SqT.of (S.ex _ _ h1), SqT.of (S.ex _ _ h1'), ?_, fun q => ?_, fun _ q => ?_, fun _ _ p hp => ?_⟩
    · rw [l1, l2]
      exact lim_size hl
    · have : xs = [] := List.eq_nil_of_length_eq_zero (by rw [← l1, q]; rfl)
      subst this
      exact R.now S (fz_tup.mpr ⟨a', vs', rfl, h1', h2', h3'⟩)
    · have : ys = [] := List.eq_nil_of_length_eq_zero (by rw [← l2, q]; rfl)
      subst this
      rw [List.append_nil] at R
      exact R.now S (fz_tup.mpr ⟨a, vs, rfl, h1, h2, h3⟩)
    · exact R.tup S hp (by rw [List.length_append]; exact lim_size hl) (h3.append h3')
  · cases hg'
def dCatL : D → D → Option D := fun x y => (litems? x).bind fun xs => (litems? y).bind fun ys => if xs.length + ys.length ≤ LIM then some (.olst (xs ++ ys)) else none
theorem ob_catL {w : Wd} : OpBO w rCat dCatL := by
  intro s σ b e x y d vx vy Q S zx zy hg R
  obtain ⟨xs, hx, hg⟩ := Option.bind_eq_some_iff.mp (show (litems? x).bind _ = some d from hg)
  obtain ⟨ys, hy, hg⟩ := Option.bind_eq_some_iff.mp hg
  split at hg
  · rename_i hl
    cases hg
    obtain ⟨a, vs, rfl, h1, h2, h3⟩ := zx.list S hx
    obtain ⟨a', vs', rfl, h1', h2', h3'⟩ := zy.list S hy
    refine ⟨a, a', vs, vs', rfl, rfl, h1, h1', ?_, fun p hp => R.lst S hp (by rw [List.length_append]; exact lim_size hl) (h3.append h3')⟩
    rw [h3.length, h3'.length]
    exact lim_size hl
  · cases hg
theorem FzL.rep {w : Wd} {G : Gs} {ds : List D} {vs : List V} (h : FzL w G ds vs) : ∀ k : Nat, FzL w G (List.replicate k ds).flatten (List.replicate k vs).flatten
  | 0 => by simp [FzL]
  | k + 1 => by
    simp only [List.replicate_succ, List.flatten_cons]
    exact h.append (h.rep k)
def dRepL : D → D → Option D := fun x y => (litems? x).bind fun xs => match y with
  | .int k => if k < 1000 ∧ -1000 < k ∧ xs.length ≤ 1000 then some (.olst (List.replicate k.toNat xs).flatten) else none
  | _ => none
theorem rep_le {α : Type} {xs : List α} {k : Nat} (h : k ≤ 1000) (h' : xs.length ≤ 1000) : (List.replicate k xs).flatten.length ≤ LIM := by
  rw [PyProof.Rows.lm_len_rep_flat]
  exact Nat.mul_le_mul h h'
theorem ob_repL {w : Wd} : OpBO w rRep dRepL := by
  intro s σ b e x y d vx vy Q S zx zy hg R
  obtain ⟨xs, hx, hg2⟩ := Option.bind_eq_some_iff.mp (show (litems? x).bind _ = some d from hg)
  clear hg
  cases y <;> try cases hg2
  rename_i k
  have hg' : (if k < 1000 ∧ -1000 < k ∧ xs.length ≤ 1000 then some (D.olst (List.replicate k.toNat xs).flatten) else none) = some d := hg2
  split at hg'
  · rename_i hl
    cases hg'
    obtain ⟨a, vs, rfl, h1, h2, h3⟩ := zx.list S hx
    cases zy.int
    refine ⟨a, k, vs, rfl, rfl, h1, by omega, by omega, ?_, fun p hp => R.lst S hp (lim_size (rep_le (by omega) hl.2.2)) (h3.rep _)⟩
    rw [h3.length]
    exact lim_size (Nat.mul_le_mul hl.2.2 (by omega : k.toNat ≤ 1000))
  · cases hg'
def dIx : D → D → Option D := fun x y => (items? x).bind fun xs => match y with
  | .int i => (atI xs i).bind fun d => if isF d then some d else none
  | _ => none
theorem OwnL.atI {w : Wd} {G : Gs} {H : Hp} {ds : List D} {vs : List V} {l : List Addr} {i : Int} {d : D} (h : OwnL w G H ds vs l) (e : L2.atI ds i = some d) : ∃ v l', L2.atI vs i = some v ∧ Own w G H d v l' ∧ ∀ a ∈ l', a ∈ l := by
  unfold L2.atI at e ⊢
  rw [h.length]
  obtain ⟨j, hj, hd⟩ := Option.bind_eq_some_iff.mp e
  obtain ⟨v, l', hv, z, k⟩ := h.get hd
  exact ⟨v, l', by rw [hj]; exact hv, z, k⟩
theorem ob_ix {w : Wd} : OpB w (rIx w.K) dIx := by
  intro s σ b e x y d vx vy Q S zx zy hg R
  obtain ⟨xs, hx, hg2⟩ := Option.bind_eq_some_iff.mp (show (items? x).bind _ = some d from hg)
  clear hg
  cases y <;> try cases hg2
  rename_i i
  obtain ⟨d', hd, hg⟩ := Option.bind_eq_some_iff.mp (show (atI xs i).bind _ = some d from hg2)
  split at hg
  · rename_i hf
    cases hg
    cases zy.int
    obtain ⟨a, vs, l, rfl, h1, h2, h3⟩ := zx.seq S hx
    obtain ⟨v, l', hv, z, _⟩ := h3.atI hd
    have zz := R.now S ((own_fz hf).mp z).1
    rcases h1 with h1 | h1
    · exact .inl ⟨a, vs, i, v, rfl, rfl, h1, hv, zz⟩
    · exact .inr (.inl ⟨a, vs, i, v, rfl, rfl, h1, hv, zz⟩)
  · cases hg
end Vm

set_option maxHeartbeats 1000000
namespace Vm
open PySem L2
mutual
def pd : D → PyData
  | .non => .none
  | .bl b => .bool b
  | .int i => .int i
  | .str x => .str x
  | .tup xs => .tuple (pdL xs)
  | .tux xs => .tuple (pdL xs)
  | .lst xs => .list (pdL xs)
  | .rol xs => .list (pdL xs)
  | .olst xs => .list (pdL xs)
  | .otup xs => .tuple (pdL xs)
  | _ => .none
def pdL : List D → List PyData
  | [] => []
  | x :: xs => pd x :: pdL xs
end
mutual
def pln : Nat → D → Bool
  | _, .non => true
  | _, .bl _ => true
  | _, .int _ => true
  | _, .str _ => true
  | n + 1, .tup xs => plnL n xs
  | n + 1, .tux xs => plnL n xs
  | n + 1, .lst xs => plnL n xs
  | n + 1, .rol xs => plnL n xs
  | n + 1, .olst xs => plnL n xs
  | n + 1, .otup xs => plnL n xs
  | _, _ => false
def plnL : Nat → List D → Bool
  | _, [] => true
  | n, x :: xs => pln n x && plnL n xs
end
section
variable {w : Wd} {G : Gs} {H : Hp}
mutual
theorem Fz.dp (hx : ∀ a u, G.F a = some u → H a = some u) : ∀ {n : Nat} {d : D} {v : V}, Fz w G d v → pln n d = true → Dp w.K H v (pd d) ∧ (pd d).canLay0 = true ∧ (pd d).depth ≤ n
  | n, .non, v, h, _ => by
    cases fz_non.mp h
    exact ⟨.non, by simp [pd, PyData.canLay0], by simp [pd, PyData.depth]⟩
  | n, .bl b, v, h, _ => by
    cases fz_bl.mp h
    exact ⟨.bl b, by simp [pd, PyData.canLay0], by simp [pd, PyData.depth]⟩
  | n, .int i, v, h, _ => by
    cases fz_int.mp h
    exact ⟨.int i, by simp [pd, PyData.canLay0], by simp [pd, PyData.depth]⟩
  | n, .str x, v, h, _ => by
    obtain ⟨rfl, hs⟩ := fz_str.mp h
    exact ⟨.str x, by simpa [pd, PyData.canLay0] using hs, by simp [pd, PyData.depth]⟩
  | n + 1, .tup ds, v, h, p => by
    obtain ⟨a, vs, rfl, h1, _, h3⟩ := fz_tup.mp h
    obtain ⟨k1, k2, k3⟩ := FzL.dp hx h3 (by simpa [pln] using p)
    simp only [pd, PyData.canLay0, PyData.depth]
    exact ⟨.tup (SqT.of (hx _ _ h1)) k1, k2, by omega⟩
  | n + 1, .tux ds, v, h, p => by
    obtain ⟨a, o, vs, rfl, h1, _, _, h3⟩ := fz_tux.mp h
    obtain ⟨k1, k2, k3⟩ := FzL.dp hx h3 (by simpa [pln] using p)
    simp only [pd, PyData.canLay0, PyData.depth]
    exact ⟨.tup (.inl (.inr ⟨o, hx _ _ h1⟩)) k1, k2, by omega⟩
  | n + 1, .lst ds, v, h, p => by
    obtain ⟨a, vs, rfl, h1, _, h3⟩ := fz_lst.mp h
    obtain ⟨k1, k2, k3⟩ := FzL.dp hx h3 (by simpa [pln] using p)
    simp only [pd, PyData.canLay0, PyData.depth]
    exact ⟨.lst (SqL.of (hx _ _ h1)) k1, k2, by omega⟩
  | n + 1, .rol ds, v, h, p => by
    obtain ⟨a, vs, rfl, h1, _, h3⟩ := fz_rol.mp h
    obtain ⟨k1, k2, k3⟩ := FzL.dp hx h3 (by simpa [pln] using p)
    simp only [pd, PyData.canLay0, PyData.depth]
    exact ⟨.lst (SqL.mono hx h1) k1, k2, by omega⟩
  | 0, .tup ds, v, h, p => by simp [pln] at p
  | 0, .tux ds, v, h, p => by simp [pln] at p
  | 0, .lst ds, v, h, p => by simp [pln] at p
  | 0, .rol ds, v, h, p => by simp [pln] at p
  | _, .dic _, v, h, p => by simp [pln] at p
  | _, .dix _, v, h, p => by simp [pln] at p
  | _, .ins _ _, v, h, p => by simp [pln] at p
  | _, .olst _, v, h, p => by simp [Fz] at h
  | _, .odic _, v, h, p => by simp [pln] at p
  | _, .odix _, v, h, p => by simp [pln] at p
  | _, .oins _ _ _, v, h, p => by simp [pln] at p
  | _, .loc _, v, h, p => by simp [pln] at p
  | _, .exn _ _, v, h, p => by simp [pln] at p
  | _, .fn _, v, h, p => by simp [pln] at p
  | _, .otbl _, v, h, p => by simp [pln] at p
  | _, .otup _, v, h, p => by simp [Fz] at h
theorem FzL.dp (hx : ∀ a u, G.F a = some u → H a = some u) : ∀ {n : Nat} {ds : List D} {vs : List V}, FzL w G ds vs → plnL n ds = true → DpAll w.K H vs (pdL ds) ∧ PyData.canLayAll0 (pdL ds) = true ∧ PyData.depthAll (pdL ds) ≤ n
  | n, [], vs, h, _ => by
    cases fzl_nil.mp h
    simp only [pdL, PyData.canLayAll0, PyData.depthAll]
    exact ⟨.nil, trivial, Nat.zero_le _⟩
  | n, d :: ds, vs, h, p => by
    obtain ⟨v, r, rfl, h1, h2⟩ := fzl_cons.mp h
    have p' : pln n d = true ∧ plnL n ds = true := by simpa [plnL] using p
    obtain ⟨k1, k2, k3⟩ := Fz.dp hx h1 p'.1
    obtain ⟨m1, m2, m3⟩ := FzL.dp hx h2 p'.2
    simp only [pdL, PyData.canLayAll0, PyData.depthAll, k2, m2]
    exact ⟨.cons k1 m1, rfl, by omega⟩
end
end
section
variable {w : Wd} {G : Gs} {H : Hp}
mutual
theorem Own.dp (hx : ∀ a u, G.F a = some u → H a = some u) : ∀ {n : Nat} {d : D} {v : V} {l : List Addr}, Own w G H d v l → pln n d = true → Dp w.K H v (pd d) ∧ (pd d).canLay0 = true ∧ (pd d).depth ≤ n
  | n + 1, .olst ds, v, l, h, p => by
    obtain ⟨a, vs, l', rfl, h1, _, h3, _⟩ := own_olst.mp h
    obtain ⟨k1, k2, k3⟩ := OwnL.dp hx h3 (by simpa [pln] using p)
    simp only [pd, PyData.canLay0, PyData.depth]
    exact ⟨.lst (SqL.of h1) k1, k2, by omega⟩
  | 0, .olst ds, v, l, h, p => by simp [pln] at p
  | _, .odic _, v, l, h, p => by simp [pln] at p
  | _, .odix _, v, l, h, p => by simp [pln] at p
  | _, .oins _ _ _, v, l, h, p => by simp [pln] at p
  | n, .non, v, l, h, p => ((own_fz rfl).mp h).1.dp hx p
  | n, .bl _, v, l, h, p => ((own_fz rfl).mp h).1.dp hx p
  | n, .int _, v, l, h, p => ((own_fz rfl).mp h).1.dp hx p
  | n, .str _, v, l, h, p => ((own_fz rfl).mp h).1.dp hx p
  | n, .tup _, v, l, h, p => ((own_fz rfl).mp h).1.dp hx p
  | n, .tux _, v, l, h, p => ((own_fz rfl).mp h).1.dp hx p
  | n, .lst _, v, l, h, p => ((own_fz rfl).mp h).1.dp hx p
  | n, .rol _, v, l, h, p => ((own_fz rfl).mp h).1.dp hx p
  | n, .dic _, v, l, h, p => ((own_fz rfl).mp h).1.dp hx p
  | n, .dix _, v, l, h, p => ((own_fz rfl).mp h).1.dp hx p
  | n, .ins _ _, v, l, h, p => ((own_fz rfl).mp h).1.dp hx p
  | n, .loc _, v, l, h, p => ((own_fz rfl).mp h).1.dp hx p
  | n, .exn _ _, v, l, h, p => ((own_fz rfl).mp h).1.dp hx p
  | n, .fn _, v, l, h, p => ((own_fz rfl).mp h).1.dp hx p
  | n, .otbl _, v, l, h, p => by simp [pln] at p
  | n + 1, .otup ds, v, l, h, p => by
    obtain ⟨a, vs, l', rfl, h1, _, h3, _⟩ := own_otup.mp h
    obtain ⟨k1, k2, k3⟩ := OwnL.dp hx h3 (by simpa [pln] using p)
    simp only [pd, PyData.canLay0, PyData.depth]
    exact ⟨.tup (SqT.of h1) k1, k2, by omega⟩
  | 0, .otup ds, v, l, h, p => by simp [pln] at p
theorem OwnL.dp (hx : ∀ a u, G.F a = some u → H a = some u) : ∀ {n : Nat} {ds : List D} {vs : List V} {l : List Addr}, OwnL w G H ds vs l → plnL n ds = true → DpAll w.K H vs (pdL ds) ∧ PyData.canLayAll0 (pdL ds) = true ∧ PyData.depthAll (pdL ds) ≤ n
  | n, [], vs, l, h, _ => by
    cases (ownl_nil.mp h).1
    simp only [pdL, PyData.canLayAll0, PyData.depthAll]
    exact ⟨.nil, trivial, Nat.zero_le _⟩
  | n, d :: ds, vs, l, h, p => by
    obtain ⟨v, r, l1, l2, rfl, h1, h2, _⟩ := ownl_cons.mp h
    have p' : pln n d = true ∧ plnL n ds = true := by simpa [plnL] using p
    obtain ⟨k1, k2, k3⟩ := Own.dp hx h1 p'.1
    obtain ⟨m1, m2, m3⟩ := OwnL.dp hx h2 p'.2
    simp only [pdL, PyData.canLayAll0, PyData.depthAll, k2, m2]
    exact ⟨.cons k1 m1, rfl, by omega⟩
end
end
theorem shaped_of {d : PyData} (h : d.canLay0 = true) {n : Nat} (h' : d.depth ≤ n) (hn : n ≤ 64) : SeqAt.shaped d = true := by
  unfold SeqAt.shaped
  rw [h, Bool.true_and]
  exact decide_eq_true (by omega)
theorem Br.dp {w : Wd} {b : Bs} {σ : St} {e : En} {n : Nat} {d : D} {v : V} (S : Sat w b σ e) (z : Br w b d v) (p : pln n d = true) (hn : n ≤ 64) : Dp w.K b.H v (pd d) ∧ SeqAt.shaped (pd d) = true := by
  obtain ⟨l, z, _⟩ := z
  obtain ⟨k1, k2, k3⟩ := z.dp S.ex p
  exact ⟨k1, shaped_of k2 k3 hn⟩
def deq (x y : D) : Bool := PyData.eqv (pd x) (pd y)
def DEP : Nat := 12
def dEq : D → D → Option D := fun x y => if pln DEP x = true ∧ pln DEP y = true then some (.bl (deq x y)) else none
def dNe : D → D → Option D := fun x y => if pln DEP x = true ∧ pln DEP y = true then some (.bl (!deq x y)) else none
theorem ob_eq {w : Wd} : OpB w (rEqD w.K) dEq := by
  intro s σ b e x y d vx vy Q S zx zy hg R
  unfold dEq at hg
  split at hg
  · rename_i h
    cases hg
    obtain ⟨k1, k2⟩ := zx.dp S h.1 (by decide)
    obtain ⟨m1, m2⟩ := zy.dp S h.2 (by decide)
    exact ⟨_, _, k1, m1, k2, m2, R.now S (fz_bl.mpr rfl)⟩
  · cases hg
theorem ob_ne {w : Wd} : OpB w (rNeD w.K) dNe := by
  intro s σ b e x y d vx vy Q S zx zy hg R
  unfold dNe at hg
  split at hg
  · rename_i h
    cases hg
    obtain ⟨k1, k2⟩ := zx.dp S h.1 (by decide)
    obtain ⟨m1, m2⟩ := zy.dp S h.2 (by decide)
    exact ⟨_, _, k1, m1, k2, m2, R.now S (fz_bl.mpr rfl)⟩
  · cases hg

def isN : D → Bool
  | .non => true
  | _ => false
theorem br_isN {w : Wd} {b : Bs} {d : D} {v : V} (h : Br w b d v) : decide (v = .non) = isN d := by
  obtain ⟨l, h, _⟩ := h
  cases d
  case olst => obtain ⟨a, _, _, rfl, _⟩ := own_olst.mp h; rfl
  case odic => obtain ⟨a, _, _, rfl, _⟩ := own_odic.mp h; rfl
  case odix => obtain ⟨a, _, _, rfl, _⟩ := own_odix.mp h; rfl
  case oins => obtain ⟨a, _, _, _, rfl, _⟩ := own_oins.mp h; rfl
  case non => rw [fz_non.mp ((own_fz rfl).mp h).1]; rfl
  case bl => rw [fz_bl.mp ((own_fz rfl).mp h).1]; rfl
  case int => rw [fz_int.mp ((own_fz rfl).mp h).1]; rfl
  case str => rw [(fz_str.mp ((own_fz rfl).mp h).1).1]; rfl
  case tup => obtain ⟨a, _, rfl, _⟩ := fz_tup.mp ((own_fz rfl).mp h).1; rfl
  case tux => obtain ⟨a, _, _, rfl, _⟩ := fz_tux.mp ((own_fz rfl).mp h).1; rfl
  case lst => obtain ⟨a, _, rfl, _⟩ := fz_lst.mp ((own_fz rfl).mp h).1; rfl
  case rol => obtain ⟨a, _, rfl, _⟩ := fz_rol.mp ((own_fz rfl).mp h).1; rfl
  case dic => obtain ⟨a, _, _, rfl, _⟩ := fz_dic.mp ((own_fz rfl).mp h).1; rfl
  case dix => obtain ⟨a, _, _, rfl, _⟩ := fz_dix.mp ((own_fz rfl).mp h).1; rfl
  case ins => obtain ⟨a, _, _, rfl, _⟩ := fz_ins.mp ((own_fz rfl).mp h).1; rfl
  case exn => obtain ⟨a, _, _, rfl, _⟩ := fz_exn.mp ((own_fz rfl).mp h).1; rfl
  case fn => obtain ⟨_, _, _, _, _, rfl, _⟩ := fz_fn.mp ((own_fz rfl).mp h).1; rfl
  case otbl => obtain ⟨_, _, rfl, _⟩ := own_otbl.mp h; rfl
  case otup => obtain ⟨_, _, _, rfl, _⟩ := own_otup.mp h; rfl
  case loc => obtain ⟨a, rfl, _⟩ := fz_loc.mp ((own_fz rfl).mp h).1; rfl
def dIsN : D → D → Option D
  | x, .non => some (.bl (isN x))
  | _, _ => none
def dNotN : D → D → Option D
  | x, .non => some (.bl (!isN x))
  | _, _ => none
theorem ob_isN {w : Wd} : OpB w (fun x y H Q => y = .non ∧ Q (.bl (decide (x = .non))) H) dIsN := by
  intro s σ b e x y d vx vy Q S zx zy hg R
  cases y <;> try cases hg
  rw [br_isN zx]
  exact ⟨zy.non, R.now S (fz_bl.mpr rfl)⟩
theorem ob_notN {w : Wd} : OpB w (fun x y H Q => y = .non ∧ Q (.bl (!decide (x = .non))) H) dNotN := by
  intro s σ b e x y d vx vy Q S zx zy hg R
  cases y <;> try cases hg
  rw [br_isN zx]
  exact ⟨zy.non, R.now S (fz_bl.mpr rfl)⟩

def flat : D → Bool
  | .non => true
  | .bl _ => true
  | .int _ => true
  | .str _ => true
  | _ => false
theorem flat_F {d : D} (f : flat d = true) : isF d = true := by
  cases d <;> first | rfl | cases f
theorem fz_flat {w : Wd} {G : Gs} {d : D} {v : V} (h : Fz w G d v) (f : flat d = true) : flatV v = true := by
  cases d <;> try cases f
  · cases fz_non.mp h; rfl
  · cases fz_bl.mp h; rfl
  · cases fz_int.mp h; rfl
  · obtain ⟨rfl, _⟩ := fz_str.mp h; rfl
theorem fz_eqv {w : Wd} {G : Gs} {d d' : D} {v v' : V} (h : Fz w G d v) (f : flat d = true) (h' : Fz w G d' v') (f' : flat d' = true) : eqV v v' = deq d d' := by
  unfold deq
  cases d <;> try cases f
  · cases fz_non.mp h
    cases d' <;> try cases f'
    · cases fz_non.mp h'; simp [eqV, pd, PyData.eqv]
    · cases fz_bl.mp h'; simp [eqV, pd, PyData.eqv]
    · cases fz_int.mp h'; simp [eqV, pd, PyData.eqv]
    · obtain ⟨rfl, _⟩ := fz_str.mp h'; simp [eqV, pd, PyData.eqv]
  · cases fz_bl.mp h
    cases d' <;> try cases f'
    · cases fz_non.mp h'; simp [eqV, pd, PyData.eqv]
    · cases fz_bl.mp h'; simp [eqV, pd, PyData.eqv]
    · cases fz_int.mp h'; simp [eqV, pd, PyData.eqv]
    · obtain ⟨rfl, _⟩ := fz_str.mp h'; simp [eqV, pd, PyData.eqv]
  · cases fz_int.mp h
    cases d' <;> try cases f'
    · cases fz_non.mp h'; simp [eqV, pd, PyData.eqv]
    · cases fz_bl.mp h'; simp [eqV, pd, PyData.eqv]
    · cases fz_int.mp h'; simp [eqV, pd, PyData.eqv]
    · obtain ⟨rfl, _⟩ := fz_str.mp h'; simp [eqV, pd, PyData.eqv]
  · obtain ⟨rfl, _⟩ := fz_str.mp h
    cases d' <;> try cases f'
    · cases fz_non.mp h'; simp [eqV, pd, PyData.eqv]
    · cases fz_bl.mp h'; simp [eqV, pd, PyData.eqv]
    · cases fz_int.mp h'; simp [eqV, pd, PyData.eqv]
    · obtain ⟨rfl, _⟩ := fz_str.mp h'; simp [eqV, pd, PyData.eqv]
theorem fzl_flat {w : Wd} {G : Gs} : ∀ {ds : List D} {vs : List V}, FzL w G ds vs → ds.all flat = true → vs.all flatV = true
  | [], vs, h, _ => by
    cases fzl_nil.mp h
    rfl
  | d :: ds, vs, h, f => by
    obtain ⟨v, r, rfl, h1, h2⟩ := fzl_cons.mp h
    rw [List.all_cons, Bool.and_eq_true] at f ⊢
    exact ⟨fz_flat h1 f.1, fzl_flat h2 f.2⟩
theorem fzl_inV {w : Wd} {G : Gs} {d : D} {v : V} (h : Fz w G d v) (f : flat d = true) : ∀ {ds : List D} {vs : List V}, FzL w G ds vs → ds.all flat = true → inV v vs = ds.any fun z => deq z d
  | [], vs, g, _ => by
    cases fzl_nil.mp g
    rfl
  | c :: ds, vs, g, fl => by
    obtain ⟨u, r, rfl, h1, h2⟩ := fzl_cons.mp g
    rw [List.all_cons, Bool.and_eq_true] at fl
    show (eqV u v || inV v r) = _
    rw [fz_eqv h1 fl.1 h f, fzl_inV h f h2 fl.2]
    rfl
def inD (x : D) (ys : List D) : Bool := ys.any fun z => deq z x
def dInF (neg : Bool) : D → D → Option D := fun x y => match fitems? y with
  | some ys => if flat x = true ∧ ys.all flat = true then some (.bl (if neg then !inD x ys else inD x ys)) else none
  | none => none
def dInL (neg : Bool) : D → D → Option D := fun x y => match y with
  | .lst ys => if pln DEP x = true ∧ pln DEP y = true then some (.bl (if neg then !inD x ys else inD x ys)) else none
  | .rol ys => if pln DEP x = true ∧ pln DEP y = true then some (.bl (if neg then !inD x ys else inD x ys)) else none
  | .olst ys => if pln DEP x = true ∧ pln DEP y = true then some (.bl (if neg then !inD x ys else inD x ys)) else none
  | _ => none
def inS (i j : Str) : Bool := !(Builtin.Str.occurrences j i 0 j.length 1).isEmpty
def dInS (neg : Bool) : D → D → Option D
  | .str i, .str j => some (.bl (if neg then !inS i j else inS i j))
  | _, _ => none
theorem ob_inF {w : Wd} {neg : Bool} : OpB w (rIn w.K neg) (dInF neg) := by
  intro s σ b e x y d vx vy Q S zx zy hg R
  unfold dInF at hg
  split at hg
  · rename_i ys hy
    split at hg
    · rename_i h
      cases hg
      obtain ⟨a, vs, rfl, h1, h2, h3⟩ := zy.fseq S hy
      have zx' : Fz w b.G x vx := zx.fz (flat_F h.1)
      refine ⟨a, vs, rfl, h1, fz_flat zx' h.1, fzl_flat h3 h.2, R.now S (fz_bl.mpr ?_)⟩
      rw [fzl_inV zx' h.1 h3 h.2]
      rfl
    · cases hg
  · cases hg
theorem pdL_any (x : D) : ∀ ys : List D, ((pdL ys).any fun z => PyData.eqv z (pd x)) = inD x ys
  | [] => by simp [pdL, inD]
  | y :: ys => by
    simp only [pdL, List.any_cons, pdL_any x ys]
    rfl
theorem ob_inL {w : Wd} : OpB w (rInD w.K) (dInL false) := by
  intro s σ b e x y d vx vy Q S zx zy hg R
  cases y <;> try cases hg
  all_goals
    rename_i ys
    unfold dInL at hg
    simp only at hg
    split at hg
    · rename_i h
      cases hg
      obtain ⟨k1, k2⟩ := zx.dp S h.1 (by decide)
      obtain ⟨m1, m2⟩ := zy.dp S h.2 (by decide)
      simp only [pd] at m1 m2
      refine ⟨_, _, k1, m1, k2, m2, ?_⟩
      rw [pdL_any]
      exact R.now S (fz_bl.mpr rfl)
    · cases hg
theorem ob_notInL {w : Wd} : OpB w (rNotInD w.K) (dInL true) := by
  intro s σ b e x y d vx vy Q S zx zy hg R
  cases y <;> try cases hg
  all_goals
    rename_i ys
    unfold dInL at hg
    simp only at hg
    split at hg
    · rename_i h
      cases hg
      obtain ⟨k1, k2⟩ := zx.dp S h.1 (by decide)
      obtain ⟨m1, m2⟩ := zy.dp S h.2 (by decide)
      simp only [pd] at m1 m2
      refine ⟨_, _, k1, m1, k2, m2, ?_⟩
      rw [pdL_any]
      exact R.now S (fz_bl.mpr rfl)
    · cases hg
theorem ob_inS {w : Wd} : OpB w (fun x y H Q => ∃ i j, x = .str i ∧ y = .str j ∧ Q (.bl (!(Builtin.Str.occurrences j i 0 j.length 1).isEmpty)) H) (dInS false) := by
  intro s σ b e x y d vx vy Q S zx zy hg R
  cases x <;> try cases hg
  cases y <;> try cases hg
  obtain ⟨rfl, _⟩ := zx.str
  obtain ⟨rfl, _⟩ := zy.str
  exact ⟨_, _, rfl, rfl, R.now S (fz_bl.mpr rfl)⟩
theorem ob_notInS {w : Wd} : OpB w (fun x y H Q => ∃ i j, x = .str i ∧ y = .str j ∧ Q (.bl (!(!(Builtin.Str.occurrences j i 0 j.length 1).isEmpty))) H) (dInS true) := by
  intro s σ b e x y d vx vy Q S zx zy hg R
  cases x <;> try cases hg
  cases y <;> try cases hg
  obtain ⟨rfl, _⟩ := zx.str
  obtain ⟨rfl, _⟩ := zy.str
  exact ⟨_, _, rfl, rfl, R.now S (fz_bl.mpr rfl)⟩
def dIn := orD (dInF false) (orD (dInL false) (dInS false))
def dNotIn := orD (dInF true) (orD (dInL true) (dInS true))
section
variable {X : Cx} {W : Wx} {s : Bool} {w : Wd} {pos : Pos} {a c : Expr} {fa fb : EM}
theorem rIn_or (hK : X.K = w.K) (hu : X.A.units + 65 < cLine) : OpR X (compareOp .In) (fun x y H Q => rIn w.K false x y H Q ∨ rInD w.K x y H Q ∨ ∃ i j, x = .str i ∧ y = .str j ∧ Q (.bl (!(Builtin.Str.occurrences j i 0 j.length 1).isEmpty)) H) := by
  rw [← hK]
  exact op_in_seq.or ((op_inD hu).or op_in_str)
theorem rNotIn_or (hK : X.K = w.K) (hu : X.A.units + 65 < cLine) : OpR X (compareOp .NotIn) (fun x y H Q => rIn w.K true x y H Q ∨ rNotInD w.K x y H Q ∨ ∃ i j, x = .str i ∧ y = .str j ∧ Q (.bl (!(!(Builtin.Str.occurrences j i 0 j.length 1).isEmpty))) H) := by
  rw [← hK]
  exact op_notIn_seq.or ((op_notInD hu).or op_notIn_str)
theorem ob_in {w : Wd} : OpB w (fun x y H Q => rIn w.K false x y H Q ∨ rInD w.K x y H Q ∨ ∃ i j, x = .str i ∧ y = .str j ∧ Q (.bl (!(Builtin.Str.occurrences j i 0 j.length 1).isEmpty)) H) dIn := ob_inF.or (ob_inL.or ob_inS)
theorem ob_notIn {w : Wd} : OpB w (fun x y H Q => rIn w.K true x y H Q ∨ rNotInD w.K x y H Q ∨ ∃ i j, x = .str i ∧ y = .str j ∧ Q (.bl (!(!(Builtin.Str.occurrences j i 0 j.length 1).isEmpty))) H) dNotIn := ob_inF.or (ob_notInL.or ob_notInS)
structure Okx (w : Wd) (X : Cx) : Prop where
  P : X.prog = w.P
  W : X.w = w.W
  K : X.K = w.K
  u : X.A.units + 65 < cLine
  c : X.calm = true
  N : X.N.Nodup
theorem r_eq (o : Okx w X) : OpR X (compareOp .Eq) (rEqD w.K) := by
  have := o.u
  rw [← o.K]
  exact op_eqD (by omega)
theorem r_ne (o : Okx w X) : OpR X (compareOp .NotEq) (rNeD w.K) := by
  have := o.u
  rw [← o.K]
  exact op_neD (by omega)
theorem r_ix (o : Okx w X) : IxR X (rIx w.K) := by
  rw [← o.K]
  exact ix_seq
theorem r_in (o : Okx w X) : OpR X (compareOp .In) (fun x y H Q => rIn w.K false x y H Q ∨ rInD w.K x y H Q ∨ ∃ i j, x = .str i ∧ y = .str j ∧ Q (.bl (!(Builtin.Str.occurrences j i 0 j.length 1).isEmpty)) H) := rIn_or (X := X) o.K o.u
theorem r_notIn (o : Okx w X) : OpR X (compareOp .NotIn) (fun x y H Q => rIn w.K true x y H Q ∨ rNotInD w.K x y H Q ∨ ∃ i j, x = .str i ∧ y = .str j ∧ Q (.bl (!(!(Builtin.Str.occurrences j i 0 j.length 1).isEmpty))) H) := rNotIn_or (X := X) o.K o.u
theorem r_catT (o : Okx w X) : OpR X (binaryOp .Add) (rCatA w.K) := by
  rw [← o.K]
  exact op_catA
end
end Vm

set_option maxHeartbeats 1000000
namespace Vm
open PySem L2
abbrev OM := En → Rs (Option Int)
def pN : OM := fun e => .ok none e
def pS (f : EM) : OM := fun e => (f e).bind fun x e1 => match x with
  | .int i => .ok (some i) e1
  | _ => .stuck
def tP (w : Wd) (W : Wx) (s : Bool) (f : OM) : TO := fun σ H Q => ∃ b e, H = b.H ∧ Sat w b σ e ∧ PR w W s σ b (f e) fun o b' _ => Q o b'.H
theorem _root_.L2.PO.imp {X : Cx} {e : Option Expr} {t t' : TO} (h : PO X e t) (k : ∀ σ H Q, t' σ H Q → t σ H Q) : PO X e t' := ⟨fun pins s σ H Q I q => h.run pins s σ H Q I (k σ H Q q)⟩
def eSl (g : D → Option Int → Option Int → Option D) (fx : EM) (fl fh : OM) : EM := fun e => (fx e).bind fun x e1 => (fl e1).bind fun l e2 => (fh e2).bind fun h e3 => lift (g x l h) e3
def cutD (xs : List D) (lo hi : Option Int) : List D := (xs.drop (HT.sIx xs.length 0 lo)).take (HT.sIx xs.length xs.length hi - HT.sIx xs.length 0 lo)
def dSlT : D → Option Int → Option Int → Option D
  | .tup xs, l, h => some (.tup (cutD xs l h))
  | _, _, _ => none
def dSlL : D → Option Int → Option Int → Option D := fun x l h => (litems? x).map fun xs => .olst (cutD xs l h)
theorem cutD_length (xs : List D) (lo hi : Option Int) : (cutD xs lo hi).length ≤ xs.length := by
  unfold cutD
  rw [List.length_take, List.length_drop]
  omega
theorem FzL.cut {w : Wd} {G : Gs} {ds : List D} {vs : List V} (h : FzL w G ds vs) (lo hi : Option Int) : FzL w G (cutD ds lo hi) (cutV vs lo hi) := by
  unfold cutD cutV
  rw [h.length]
  exact (h.drop _).take _
theorem cut_whole (xs : List D) (lo hi : Option Int) (h : HT.sIx xs.length 0 lo = 0 ∧ HT.sIx xs.length xs.length hi = xs.length) : cutD xs lo hi = xs := by
  unfold cutD
  rw [h.1, h.2]
  simp
section
variable {X : Cx} {W : Wx} {s : Bool} {w : Wd} {pos p2 : Pos} {x a c : Expr} {lo hi : Option Expr} {fx f fa fb : EM} {fl fh : OM}
theorem zpN : PO X none (tP w W s pN) := po_none.imp fun σ H Q ⟨b, e, he, S, h⟩ => by
  subst he
  exact h b (Gr.refl b) S
theorem zpS (h : PE X x (tZ w W s f)) : PO X (some x) (tP w W s (pS f)) := (po_some h).imp fun σ H Q ⟨b, e, he, S, h⟩ => by
  subst he
  refine ⟨b, e, rfl, S, (PR.bind h).mono fun d b1 e1 g1 S1 h1 v z => ?_⟩
  cases d <;> try exact h1.elim
  exact ⟨_, fz_int.mp z, h1 b1 (Gr.refl _) S1⟩
theorem slT (o : Okx w X) : SlR X (rSlA w.K) := by
  rw [← o.K]
  exact sl_tupA
theorem slL (o : Okx w X) : SlR X (rSlL w.K) := by
  rw [← o.K]
  exact sl_list
end

section
variable {X : Cx} {W : Wx} {s : Bool} {w : Wd} {pos p : Pos} {x : Str} {a c : Expr} {fa fb : EM} {id T : String} {r : List V → Hp → VK → Prop} {g : D → Option D}
theorem c1_z (hr : UnB w (fun v H Q => r [v] H Q) g) {σ : St} {H : Hp} {Q : VK} (h : tZ w W s (un g fa) σ H Q) : tCB r (tCons (tB w W s fa) tNil) σ H Q := by
  obtain ⟨b, e, rfl, S, h⟩ := h
  refine ⟨b, e, rfl, S, (PR.bind h).mono fun x b1 e1 g1 S1 h1 vx zx => ?_⟩
  obtain ⟨d, hd, R⟩ := PR.ret h1
  exact hr S1 zx hd R
theorem c1_v (hr : UnBO w (fun v H Q => r [v] H Q) g) {σ : St} {H : Hp} {Q : VK} (h : tV w W s (un g fa) σ H Q) : tCB r (tCons (tB w W s fa) tNil) σ H Q := by
  obtain ⟨b, e, rfl, S, h⟩ := h
  refine ⟨b, e, rfl, S, (PR.bind h).mono fun x b1 e1 g1 S1 h1 vx zx => ?_⟩
  obtain ⟨d, hd, R⟩ := PR.retV g1 h1
  exact hr S1 zx hd R
theorem zCallB (hr : UnB w (fun v H Q => r [v] H Q) g) (hc : CallR X (.builtin id) r) (hg : Gl X x) (hm : X.mg x = none) (hv : bootBuiltins x = some (.builtin id)) (ha : PE X a (tB w W s fa)) (hn : x ≠ "__name__" := by decide) (hdb : (x == ("__debug__" : Str)) = false := by decide)
    (hs : starEach [a] X.env = (false, eval a X.env) :: starEach [] X.env := by rfl) : PE X (.Call (.Name x p) [a] [] pos) (tZ w W s (un g fa)) := (pe_callB hc hg hm hv (pa_cons ha pa_nil hs) hn hdb hs rfl).imp fun _ _ _ h => c1_z hr h
theorem zCallT (hr : UnB w (fun v H Q => r [v] H Q) g) (hc : CallR X (.type T) r) (hg : Gl X x) (hm : X.mg x = none) (hv : bootBuiltins x = some (.type T)) (ha : PE X a (tB w W s fa)) (hn : x ≠ "__name__" := by decide) (hdb : (x == ("__debug__" : Str)) = false := by decide)
    (hs : starEach [a] X.env = (false, eval a X.env) :: starEach [] X.env := by rfl) : PE X (.Call (.Name x p) [a] [] pos) (tZ w W s (un g fa)) := (pe_callTy hc hg hm hv (pa_cons ha pa_nil hs) hn hdb hs rfl).imp fun _ _ _ h => c1_z hr h
theorem vCallT (hr : UnBO w (fun v H Q => r [v] H Q) g) (hc : CallR X (.type T) r) (hg : Gl X x) (hm : X.mg x = none) (hv : bootBuiltins x = some (.type T)) (ha : PE X a (tB w W s fa)) (hn : x ≠ "__name__" := by decide) (hdb : (x == ("__debug__" : Str)) = false := by decide)
    (hs : starEach [a] X.env = (false, eval a X.env) :: starEach [] X.env := by rfl) : PE X (.Call (.Name x p) [a] [] pos) (tV w W s (un g fa)) := (pe_callTy hc hg hm hv (pa_cons ha pa_nil hs) hn hdb hs rfl).imp fun _ _ _ h => c1_v hr h
end
def dLen : D → Option D := fun d => match d with
  | .str z => if z.length ≤ LIM then some (.int z.length) else none
  | d => (items? d).map fun ds => .int ds.length
def rLen2 (K : PySem.W.Frag) : List V → Hp → VK → Prop := fun xs H Q => (∃ p ys, xs = [.ref p] ∧ (SqL K H p ys ∨ SqT K H p ys) ∧ Q (.int ys.length) H) ∨ ∃ z : Str, xs = [.str z] ∧ z.length ≤ sizeLine ∧ Q (.int z.length) H
theorem c_len {w : Wd} {X : Cx} (o : Okx w X) : CallR X (.builtin "len") (rLen2 w.K) := by
  rw [← o.K]
  exact call_len_seq.or call_len_str
theorem ub_len {w : Wd} : UnB w (fun v H Q => rLen2 w.K [v] H Q) dLen := by
  intro s σ b e x d vx Q S zx hg R
  have k : ∀ ds, items? x = some ds → d = .int ds.length → rLen2 w.K [vx] b.H Q := fun ds hi hd => by
    obtain ⟨a, vs, l, rfl, h1, h2, h3⟩ := zx.seq S hi
    subst hd
    refine .inl ⟨a, vs, rfl, h1, ?_⟩
    rw [h3.length]
    exact R.now S (fz_int.mpr rfl)
  cases x <;> try cases hg
  · rename_i z
    have hg' : (if z.length ≤ LIM then some (D.int z.length) else none) = some d := hg
    split at hg'
    · rename_i hl
      cases hg'
      obtain ⟨rfl, _⟩ := zx.str
      exact .inr ⟨z, rfl, lim_size hl, R.now S (fz_int.mpr rfl)⟩
    · cases hg'
  all_goals exact k _ rfl rfl
def dList : D → Option D := fun d => (fitems? d).map .olst
theorem c_list {w : Wd} {X : Cx} (o : Okx w X) : CallR X (.type "list") (fun xs H Q => ∃ p ys, xs = [.ref p] ∧ (SqL w.K H p ys ∨ SqT w.K H p ys) ∧ ∀ l, H l = none → Q (.ref l) (upd H l (.lst ys))) := by
  rw [← o.K]
  exact call_list_of
theorem ub_list {w : Wd} : UnBO w (fun v H Q => ∃ p ys, [v] = [.ref p] ∧ (SqL w.K H p ys ∨ SqT w.K H p ys) ∧ ∀ l, H l = none → Q (.ref l) (upd H l (.lst ys))) dList := by
  intro s σ b e x d vx Q S zx hg R
  obtain ⟨ds, hi, rfl⟩ := Option.map_eq_some_iff.mp (show (fitems? x).map D.olst = some d from hg)
  obtain ⟨a, vs, rfl, h1, h2, h3⟩ := zx.fseq S hi
  exact ⟨a, vs, rfl, h1, fun p hp => R.lst S hp h2 h3⟩
def dTuple : D → Option D
  | .tup ds => some (.tup ds)
  | .lst ds => some (.tup ds)
  | .rol ds => some (.tup ds)
  | .olst ds => if ds.all isF then some (.tup ds) else none
  | _ => none
theorem c_tuple {w : Wd} {X : Cx} (o : Okx w X) : CallR X (.type "tuple") (fun xs H Q => ∃ p ys, xs = [.ref p] ∧ ((SqL w.K H p ys ∧ ∀ l, H l = none → Q (.ref l) (upd H l (.tup ys))) ∨ (SqT w.K H p ys ∧ Q (.ref p) H))) := by
  rw [← o.K]
  exact call_tuple_of
theorem ub_tuple {w : Wd} : UnB w (fun v H Q => ∃ p ys, [v] = [.ref p] ∧ ((SqL w.K H p ys ∧ ∀ l, H l = none → Q (.ref l) (upd H l (.tup ys))) ∨ (SqT w.K H p ys ∧ Q (.ref p) H))) dTuple := by
  intro s σ b e x d vx Q S zx hg R
  cases x <;> try cases hg
  · obtain ⟨a, vs, rfl, h1, h2, h3⟩ := zx.tup
    exact ⟨a, vs, rfl, .inr ⟨SqT.of (S.ex _ _ h1), R.now S (fz_tup.mpr ⟨a, vs, rfl, h1, h2, h3⟩)⟩⟩
  · obtain ⟨a, vs, rfl, h1, h2, h3⟩ := zx.lst S
    exact ⟨a, vs, rfl, .inl ⟨SqL.of h1, fun p hp => R.tup S hp h2 h3⟩⟩
  · obtain ⟨a, vs, rfl, h1, h2, h3⟩ := zx.rol
    exact ⟨a, vs, rfl, .inl ⟨sat_sqL S h1, fun p hp => R.tup S hp h2 h3⟩⟩
  · rename_i ds
    have hg' : (if ds.all isF then some (D.tup ds) else none) = some d := hg
    split at hg'
    · rename_i hf
      cases hg'
      obtain ⟨a, vs, l, rfl, h1, h2, h3⟩ := zx.olst
      exact ⟨a, vs, rfl, .inl ⟨SqL.of h1, fun p hp => R.tup S hp h2 (h3.fz hf).1⟩⟩
    · cases hg'
def ints? : List D → Option (List Int)
  | [] => some []
  | .int i :: r => (ints? r).map (i :: ·)
  | _ :: _ => none
def rSumA (K : PySem.W.Frag) : List V → Hp → VK → Prop := fun vs H Q => ∃ (a : Addr) (ns : List Int), vs = [V.ref a] ∧ (SqL K H a (ns.map V.int) ∨ SqT K H a (ns.map V.int)) ∧ Q (.int ns.sum) H
def dSum : D → Option D := fun d => (fitems? d).bind fun ds => (ints? ds).map fun ns => .int ns.sum
def minL : Int → List Int → Int
  | m, [] => m
  | m, x :: xs => minL (if x < m then x else m) xs
def dMin : D → Option D := fun d => (litems? d).bind fun ds => match ints? ds with
  | some (n :: ns) => some (.int (minL n ns))
  | _ => none
def dToInt : D → Option D
  | .int i => some (.int i)
  | .bl k => some (.int (if k then 1 else 0))
  | _ => none
theorem ub_int {w : Wd} : UnB w (fun v H Q => (∃ i, [v] = [V.int i] ∧ Q (.int i) H) ∨ ∃ k, [v] = [V.bl k] ∧ Q (.int (if k then 1 else 0)) H) dToInt := by
  intro s σ b e x d vx Q S zx hg R
  cases x <;> try cases hg
  · cases zx.bl
    exact .inr ⟨_, rfl, R.now S (fz_int.mpr rfl)⟩
  · cases zx.int
    exact .inl ⟨_, rfl, R.now S (fz_int.mpr rfl)⟩
def dMax2 : D → D → Option D
  | .int i, .int j => some (.int (if j > i then j else i))
  | _, _ => none
section
variable {X : Cx} {W : Wx} {s : Bool} {w : Wd} {pos p : Pos} {x : Str} {a c : Expr} {fa fb : EM}
theorem zMax2 (o : Okx w X) (hg : Gl X "max") (hm : X.mg "max" = none) (ha : PE X a (tZ w W s fa)) (hb : PE X c (tZ w W s fb)) (hs : starEach [a, c] X.env = (false, eval a X.env) :: starEach [c] X.env := by rfl) (hs2 : starEach [c] X.env = (false, eval c X.env) :: starEach [] X.env := by rfl)
    (hpl : (backTo pos (starEach [c] X.env)).any (·.1) = false := by rfl) : PE X (.Call (.Name "max" p) [a, c] [] pos) (tZ w W s (bin dMax2 fa fb)) := (pe_callB (call_max2 o.c) hg hm PyProof.Rows.boot_max (pa_cons ha (pa_cons hb pa_nil hs2) hs) (by decide) (by decide) hs hpl).imp fun σ H Q ⟨b, e, he, S, h⟩ => by
  subst he
  refine ⟨b, e, rfl, S, (PR.bind h).mono fun x b1 e1 g1 S1 h1 vx zx => ⟨b1, e1, rfl, S1, (PR.bind h1).mono fun y b2 e2 g2 S2 h2 vy zy => ?_⟩⟩
  obtain ⟨d, hd, R⟩ := PR.ret h2
  cases x <;> try cases hd
  cases y <;> try cases hd
  cases fz_int.mp zx
  cases fz_int.mp zy
  exact ⟨_, _, rfl, R.now S2 (fz_int.mpr rfl)⟩
end
def eChain (g g' : D → D → Option D) (fa fb fc : EM) : EM := fun e => (fa e).bind fun x e1 => (fb e1).bind fun y e2 => (lift (g x y) e2).bind fun z e3 => match z with
  | .bl k => if k = true then (fc e3).bind fun u e4 => lift (g' y u) e4 else .ok (.bl false) e3
  | _ => .stuck
section
variable {X : Cx} {W : Wx} {s : Bool} {w : Wd} {pos : Pos} {a c d : Expr} {fa fb fc : EM} {r r' : R2} {g g' : D → D → Option D} {op op' : CmpOp}
end
end Vm

set_option maxHeartbeats 1000000
namespace Vm
open PySem L2
def hold? (i : Nat) (e : En) : Option (Ix × D) := match e.sl[i]? with
  | some (some (.loc n)) => (e.at (.m n)).map fun d => (.m n, d)
  | some (some d) => some (.s i, d)
  | _ => none
def chg (i : Nat) (k : D → Option D) (e : En) : Option En := (hold? i e).bind fun p => (k p.2).map fun d => e.put p.1 (some d)
def nxO (o : Option En) : So := match o with
  | some e => .nx e
  | none => .stuck
def hasL {α : Type} (i : Nat) (e : En) (no : α) (k : α) : α := match hold? i e with
  | some (_, .olst _) => k
  | _ => no
section
variable {w : Wd} {W : Wx} {σ : St} {b b0 : Bs} {e e' : En} {i : Nat} {x : Ix} {d : D} {D' : Ends}
theorem Sat.root (S : Sat w b σ e) (h : hold? i e = some (x, d)) : ∃ v, σ[i]? = some (some v) ∧ rootV b σ x = some v ∧ e.at x = some d ∧ Own w b.G b.H d v (b.o x) := by
  unfold hold? at h
  split at h
  · rename_i n hn
    obtain ⟨d', h1, h2⟩ := Option.map_eq_some_iff.mp h
    cases h2
    obtain ⟨v, k1, k2⟩ := S.slot hn
    obtain ⟨a, rfl, k3⟩ := fz_loc.mp ((own_fz rfl).mp k2).1
    obtain ⟨v', m1, m2⟩ := S.sl (.m n) d h1
    have m1' : (b.G.ρ n).map V.ref = some v' := m1
    rw [k3] at m1'
    cases m1'
    exact ⟨_, k1, m1, h1, m2⟩
  · rename_i d' hne hd
    cases h
    obtain ⟨v, k1, k2⟩ := S.slot hd
    refine ⟨v, k1, ?_, slot_at hd, k2⟩
    show (σ[i]?).getD none = some v
    rw [k1]
    rfl
  · cases h
theorem chg_some {k : D → Option D} (h : chg i k e = some e') : ∃ x d d', hold? i e = some (x, d) ∧ k d = some d' ∧ e' = e.put x (some d') := by
  obtain ⟨⟨x, d⟩, h1, h2⟩ := Option.bind_eq_some_iff.mp h
  obtain ⟨d', h3, rfl⟩ := Option.map_eq_some_iff.mp h2
  exact ⟨x, d, d', h1, h3, rfl⟩
theorem at_ok (h : e.at x = some d) : okIx e x := by
  have := at_lt h
  cases x <;> exact this
theorem Sat.mutL (S : Sat w b σ e) (g : Gr false b0 b) {a : Addr} {ds ds' : List D} {vs vs' : List V} {l l' : List Addr} (hx : e.at x = some (.olst ds)) (hr : rootV b σ x = some (.ref a)) (ho : b.o x = a :: l) (hH : b.H a = some (.lst vs))
    (hl : ds'.length ≤ sizeLine) (z : OwnL w b.G b.H ds' vs' l') (nd : l'.Nodup) (hs : ∀ c ∈ l', c ∈ l ∨ (b.G.F c = none ∧ ¬ b.own c ∧ (b0.H c = none ∨ b0.own c))) :
    ∃ b', b'.H = upd b.H a (.lst vs') ∧ Gr false b0 b' ∧ Sat w b' σ (e.put x (some (.olst ds'))) := by
  have hain : a ∈ b.o x := by rw [ho]; exact List.mem_cons_self ..
  have na : a ∉ l' := fun h => by
    rcases hs a h with k | ⟨_, k, _⟩
    · have := S.nd x
      rw [ho] at this
      exact (List.nodup_cons.mp this).1 k
    · exact k ⟨x, hain⟩
  have := S.hold (σ' := σ) (x := x) (H' := upd b.H a (.lst vs')) (l := a :: l') (d := .olst ds') (v := .ref a) g (at_ok hx) (fun c u h n => by
      have : c ≠ a := fun z => n (z ▸ hain)
      exact (upd_ne this).trans h) (fun c h => by
      by_cases hc : c = a
      · rw [hc, upd_same] at h
        cases h
      · rw [upd_ne hc] at h
        exact h)
    (own_olst.mpr ⟨a, vs', l', rfl, upd_same, hl, z.keep (.refl _) (fun c hc u hu => by
      have : c ≠ a := fun z => na (z ▸ hc)
      exact (upd_ne this).trans hu), rfl⟩) (List.nodup_cons.mpr ⟨na, nd⟩) (fun c hc => by
      rcases List.mem_cons.mp hc with rfl | hc
      · exact ⟨S.fo x _ hain, .inl hain⟩
      · rcases hs c hc with k | ⟨k1, k2, k3⟩
        · have : c ∈ b.o x := by rw [ho]; exact List.mem_cons_of_mem _ k
          exact ⟨S.fo x c this, .inl this⟩
        · exact ⟨k1, .inr ⟨k2, k3⟩⟩) hr (fun _ _ => rfl) rfl
  exact ⟨_, rfl, this.1, this.2⟩
theorem nxO_some {o : Option En} (h : SR w W b (nxO o) D') : ∃ e, o = some e ∧ SR w W b (.nx e) D' := by
  cases o with
  | none => exact h.elim
  | some e => exact ⟨e, rfl, h⟩
theorem hasL_some {k : So} (h : SR w W b (hasL i e .stuck k) D') : ∃ x ds, hold? i e = some (x, .olst ds) ∧ SR w W b k D' := by
  unfold hasL at h
  split at h
  · exact ⟨_, _, by assumption, h⟩
  · exact h.elim
theorem Sat.rootL (S : Sat w b σ e) {ds : List D} (h : hold? i e = some (x, .olst ds)) : ∃ a vs l, σ[i]? = some (some (.ref a)) ∧ rootV b σ x = some (.ref a) ∧ e.at x = some (.olst ds) ∧ b.o x = a :: l ∧ b.H a = some (.lst vs) ∧ ds.length ≤ sizeLine ∧ OwnL w b.G b.H ds vs l := by
  obtain ⟨v, h1, h2, h3, h4⟩ := S.root h
  obtain ⟨a, vs, l', rfl, k1, k2, k3, k4⟩ := own_olst.mp h4
  exact ⟨a, vs, l', h1, h2, h3, k4, k1, k2, k3⟩
end
section
variable {w : Wd} {G : Gs} {H : Hp}
theorem OwnL.append : ∀ {ds ds' : List D} {vs vs' : List V} {l l' : List Addr}, OwnL w G H ds vs l → OwnL w G H ds' vs' l' → OwnL w G H (ds ++ ds') (vs ++ vs') (l ++ l')
  | [], ds', vs, vs', l, l', h, h' => by
    obtain ⟨rfl, rfl⟩ := ownl_nil.mp h
    exact h'
  | d :: ds, ds', vs, vs', l, l', h, h' => by
    obtain ⟨v, r, l1, l2, rfl, h1, h2, rfl⟩ := ownl_cons.mp h
    exact ownl_cons.mpr ⟨v, r ++ vs', l1, l2 ++ l', rfl, h1, OwnL.append h2 h', by rw [List.append_assoc]⟩
theorem OwnL.set : ∀ {ds : List D} {vs : List V} {l : List Addr} (n : Nat) {d : D} {v : V}, OwnL w G H ds vs l → l.Nodup → Fz w G d v → ∃ l', OwnL w G H (ds.set n d) (vs.set n v) l' ∧ l'.Nodup ∧ ∀ a ∈ l', a ∈ l
  | [], vs, l, n, d, v, h, hn, z => by
    obtain ⟨rfl, rfl⟩ := ownl_nil.mp h
    exact ⟨[], by simp [OwnL], List.nodup_nil, fun _ h => h⟩
  | d' :: ds, vs, l, 0, d, v, h, hn, z => by
    obtain ⟨v', r, l1, l2, rfl, h1, h2, rfl⟩ := ownl_cons.mp h
    exact ⟨l2, ownl_cons.mpr ⟨v, r, [], l2, rfl, z.own, h2, rfl⟩, (List.nodup_append.mp hn).2.1, fun a ha => List.mem_append_right _ ha⟩
  | d' :: ds, vs, l, n + 1, d, v, h, hn, z => by
    obtain ⟨v', r, l1, l2, rfl, h1, h2, rfl⟩ := ownl_cons.mp h
    obtain ⟨n1, n2, n3⟩ := List.nodup_append.mp hn
    obtain ⟨l3, k1, k2, k3⟩ := OwnL.set n h2 n2 z
    exact ⟨l1 ++ l3, ownl_cons.mpr ⟨v', r.set n v, l1, l3, rfl, h1, k1, rfl⟩, List.nodup_append.mpr ⟨n1, k2, fun a ha b hb => n3 a ha b (k3 b hb)⟩, fun a ha => (List.mem_append.mp ha).elim (fun h => List.mem_append_left _ h) fun h => List.mem_append_right _ (k3 a h)⟩
end
def kApp (y : D) : D → Option D
  | .olst ds => if ds.length < LIM then some (.olst (ds ++ [y])) else none
  | _ => none
def kExt (xs : List D) : D → Option D
  | .olst ds => if ds.length + xs.length ≤ LIM then some (.olst (ds ++ xs)) else none
  | _ => none
def kSet (j : Int) (y : D) : D → Option D
  | .olst ds => (ixN ds.length j).map fun n => .olst (ds.set n y)
  | _ => none
def sApp (i : Nat) (f : EM) : SM := fun e => hasL i e .stuck (ofE (f e) fun d e1 => nxO (chg i (kApp d) e1))
def sExt (i : Nat) (f : EM) : SM := fun e => hasL i e .stuck (ofE (f e) fun d e1 => match litems? d with
  | some xs => nxO (chg i (kExt xs) e1)
  | none => .stuck)
def sSetIx (i : Nat) (fi fv : EM) : SM := fun e => ofE (fv e) fun d e1 => hasL i e1 .stuck (ofE (fi e1) fun j e2 => match j with
  | .int j => nxO (chg i (kSet j d) e2)
  | _ => .stuck)
section
variable {X : Cx} {W : Wx} {s : Bool} {w : Wd} {pos p ap cp : Pos} {x c : Expr} {f fi fv : EM}
theorem zApp (i : Nat) {y : Str} (hx : PE X x (tV w W false f)) (hN : X.N[i]? = some y := by rfl) (hv : Vis X.env.scope y := by first | exact Or.inl rfl | exact Or.inr (Or.inl rfl) | exact Or.inr (Or.inr rfl)) (hd : (y == ("__debug__" : Str)) = false := by decide)
    (hcd : (y == ("__classdict__" : Str)) = false := by decide)
    (hs : starEach [x] X.env = (false, eval x X.env) :: starEach [] X.env := by rfl)
    (hbase : attributeBase (.Name y p) "append" X.env (eval (.Name y p) X.env) = eval (.Name y p) X.env := by rfl)
    (hfew : ((backTo cp (starEach [x] X.env)).all (fun x => !x.1) && (backToKw cp (keywordEach [] X.env)).all (fun x => x.1.isSome)
      && decide ([x].length + ([] : List Keyword).length + (if ([] : List Keyword).isEmpty then 0 else 1) < 30)) = true := by rfl)
    (hline : (ap.endLine == cp.line) = true := by rfl) (hsw : swapsWith (.Call (.Attribute (.Name y p) "append" ap) [x] [] cp) none pos.line X.env = pure false := by rfl) :
    PS X (.Expr (.Call (.Attribute (.Name y p) "append" ap) [x] [] cp) pos) (tS w W (sApp i f)) :=
  (ps_expr (pe_bm PySem.F.plainAttrs_list PySem.F.slot_list_append PySem.F.type_list_append mt_append (pv i hN hv hd hcd) (pa_cons hx pa_nil hs) hbase hfew hline hs rfl) hsw).imp fun D σ H ⟨b, e, he, S, h⟩ => by
  subst he
  obtain ⟨x0, ds0, h0, h⟩ := hasL_some h
  obtain ⟨a, vs, l, k1, _, _, _, k2, _, _⟩ := S.rootL h0
  refine ⟨_, k1, .inl ⟨rfl, vs, SqL.of k2⟩, b, e, rfl, S, ?_⟩
  cases hf : f e with
  | stuck => rw [hf] at h; exact h
  | exc c x e1 => rw [hf] at h; exact fun b' g S => h b' σ g.weak S
  | ok d e1 =>
    rw [hf] at h
    intro b1 g1 S1 v t
    obtain ⟨e2, h2, h3⟩ := nxO_some (show SR w W b (nxO (chg i (kApp d) e1)) D from h)
    obtain ⟨x1, d1, d2, m1, m2, rfl⟩ := chg_some h2
    cases d1 <;> try cases m2
    rename_i ds
    have m2' : (if ds.length < LIM then some (Vm.D.olst (ds ++ [d])) else none) = some d2 := m2
    split at m2'
    · rename_i hl
      cases m2'
      obtain ⟨a', vs', l', n1, n2, n3, n4, n5, n6, n7⟩ := S1.rootL m1
      rw [k1] at n1
      cases n1
      obtain ⟨lt, t1, t2, t3⟩ := t
      have hnd : l'.Nodup := by
        have := S1.nd x1
        rw [n4] at this
        exact (List.nodup_cons.mp this).2
      obtain ⟨b2, q1, q2, q3⟩ := S1.mutL (ds' := ds ++ [d]) (vs' := vs' ++ [v]) (l' := l' ++ lt) g1 n3 n2 n4 n5 (by rw [List.length_append]; exact lim_size (show ds.length + 1 ≤ LIM from hl))
        (n7.append (ownl_cons.mpr ⟨v, [], lt, [], rfl, t1, ownl_nil.mpr ⟨rfl, rfl⟩, (List.append_nil _).symm⟩)) (List.nodup_append.mpr ⟨hnd, t2, fun c hc c' hc' z => (t3 c' hc').2.1 ⟨x1, by rw [n4, ← z]; exact List.mem_cons_of_mem _ hc⟩⟩)
        (fun c hc => (List.mem_append.mp hc).elim .inl fun hc => .inr (t3 c hc))
      refine ⟨a, vs', v, rfl, rfl, n5, ?_, ?_⟩
      · rw [n7.length]
        exact Nat.lt_of_lt_of_le hl (lim_size (Nat.le_refl _))
      · rw [← q1]
        exact h3 b2 σ q2 q3
    · cases m2'
theorem zExt (i : Nat) {y : Str} (hx : PE X x (tB w W false f)) (hN : X.N[i]? = some y := by rfl) (hv : Vis X.env.scope y := by first | exact Or.inl rfl | exact Or.inr (Or.inl rfl) | exact Or.inr (Or.inr rfl)) (hd : (y == ("__debug__" : Str)) = false := by decide)
    (hcd : (y == ("__classdict__" : Str)) = false := by decide)
    (hs : starEach [x] X.env = (false, eval x X.env) :: starEach [] X.env := by rfl)
    (hbase : attributeBase (.Name y p) "extend" X.env (eval (.Name y p) X.env) = eval (.Name y p) X.env := by rfl)
    (hfew : ((backTo cp (starEach [x] X.env)).all (fun x => !x.1) && (backToKw cp (keywordEach [] X.env)).all (fun x => x.1.isSome)
      && decide ([x].length + ([] : List Keyword).length + (if ([] : List Keyword).isEmpty then 0 else 1) < 30)) = true := by rfl)
    (hline : (ap.endLine == cp.line) = true := by rfl) (hsw : swapsWith (.Call (.Attribute (.Name y p) "extend" ap) [x] [] cp) none pos.line X.env = pure false := by rfl) :
    PS X (.Expr (.Call (.Attribute (.Name y p) "extend" ap) [x] [] cp) pos) (tS w W (sExt i f)) :=
  (ps_expr (pe_bm PySem.F.plainAttrs_list PySem.F.slot_list_extend PySem.F.type_list_extend mt_extend (pv i hN hv hd hcd) (pa_cons hx pa_nil hs) hbase hfew hline hs rfl) hsw).imp fun D σ H ⟨b, e, he, S, h⟩ => by
  subst he
  obtain ⟨x0, ds0, h0, h⟩ := hasL_some h
  obtain ⟨a, vs, l, k1, _, _, _, k2, _, _⟩ := S.rootL h0
  refine ⟨_, k1, .inl ⟨rfl, vs, SqL.of k2⟩, b, e, rfl, S, (SR.ofE h).mono fun d b1 e1 g1 S1 h1 v z => ?_⟩
  split at h1
  · rename_i xs hxs
    obtain ⟨c, zs, rfl, z1, z2, z3⟩ := z.list S1 hxs
    obtain ⟨e2, h2, h3⟩ := nxO_some h1
    obtain ⟨x1, d1, d2, m1, m2, rfl⟩ := chg_some h2
    cases d1 <;> try cases m2
    rename_i ds
    have m2' : (if ds.length + xs.length ≤ LIM then some (Vm.D.olst (ds ++ xs)) else none) = some d2 := m2
    split at m2'
    · rename_i hl
      cases m2'
      obtain ⟨a', vs', l', n1, n2, n3, n4, n5, n6, n7⟩ := S1.rootL m1
      rw [k1] at n1
      cases n1
      have hnd : l'.Nodup := by
        have := S1.nd x1
        rw [n4] at this
        exact (List.nodup_cons.mp this).2
      obtain ⟨b2, q1, q2, q3⟩ := S1.mutL (ds' := ds ++ xs) (vs' := vs' ++ zs) (l' := l' ++ []) (Gr.refl b1) n3 n2 n4 n5 (by rw [List.length_append]; exact lim_size hl) (n7.append z3.own) (by rw [List.append_nil]; exact hnd) (fun c hc => .inl (by simpa using hc))
      refine ⟨a, c, vs', zs, rfl, rfl, n5, z1, ?_, ?_⟩
      · rw [n7.length, z3.length]
        exact lim_size hl
      · rw [← q1]
        exact h3 b2 σ q2 q3
    · cases m2'
  · exact h1.elim
end
end Vm

set_option maxHeartbeats 1000000
namespace Vm
open PySem L2
structure Gi (s : Bool) (b b' : Bs) : Prop where
  g : b.G.le b'.G
  t : s = true → Gr true b b'
theorem Gr.gi {s : Bool} {b b' : Bs} (g : Gr s b b') : Gi s b b' := ⟨g.g, fun h => by subst h; exact g⟩
theorem Gi.weak {s : Bool} {b b' : Bs} (g : Gi s b b') : Gi false b b' := ⟨g.g, fun h => by cases h⟩
structure IsIt (w : Wd) (s : Bool) (b : Bs) (J : It) (ds : List D) : Prop where
  ex : ∃ (G : Hp → Prop) (Y : Nat → Hp → V → Hp → Prop), Walk J ds.length G Y ∧ (∀ b' σ e, Gi s b b' → Sat w b' σ e → G b'.H) ∧
    ∀ b' σ e i x H' d, Gi s b b' → Sat w b' σ e → ds[i]? = some d → Y i b'.H x H' → ∃ b'', H' = b''.H ∧ Gr true b' b'' ∧ Sat w b'' σ e ∧ Fz w b''.G d x
theorem IsIt.soft {w : Wd} {s : Bool} {b : Bs} {J : It} {ds : List D} (h : IsIt w false b J ds) : IsIt w s b J ds := by
  obtain ⟨G, Y, h1, h2, h3⟩ := h.ex
  exact ⟨G, Y, h1, fun b' σ e g S => h2 b' σ e g.weak S, fun b' σ e i x H' d g S => h3 b' σ e i x H' d g.weak S⟩
def tI (w : Wd) (W : Wx) (s : Bool) (it : LM) : TI := fun σ H R => ∃ b e, H = b.H ∧ Sat w b σ e ∧ PR w W s σ b (it e) fun ds b' _ => ∀ J, IsIt w s b' J ds → R J b'.H
theorem _root_.L2.PI.imp {X : Cx} {tg e : Expr} {t t' : TI} (h : PI X tg e t) (k : ∀ σ H Q, t' σ H Q → t σ H Q) : PI X tg e t' := ⟨fun pins s σ H Q I q => h.run pins s σ H Q I (k σ H Q q)⟩
theorem _root_.L2.PI.or {X : Cx} {tg e : Expr} {t t' : TI} (h : PI X tg e t) (h' : PI X tg e t') : PI X tg e (fun σ H Q => t σ H Q ∨ t' σ H Q) := ⟨fun pins s σ H Q I q => q.elim (h.run pins s σ H Q I) (h'.run pins s σ H Q I)⟩
def seqOf (d : D) (e : En) : Rs (List D) := match items? d with
  | some ds => .ok ds e
  | none => .stuck
def itSeq (f : EM) : LM := fun e => (f e).bind seqOf
section
variable {X : Cx} {W : Wx} {s : Bool} {w : Wd} {pos : Pos} {x tg : Expr} {f : EM}
def isT : D → Bool
  | .tup _ => true
  | .tux _ => true
  | _ => false
theorem Fz.seq {w : Wd} {b : Bs} {d : D} {ds : List D} {v : V} (h : Fz w b.G d v) (hi : items? d = some ds) :
    ∃ a vs, v = .ref a ∧ vs.length = ds.length ∧ FzL w b.G ds vs ∧ ((isT d = false ∧ ∀ b' σ e, Gi false b b' → Sat w b' σ e → SqL w.K b'.H a vs) ∨ (isT d = true ∧ ∀ b' σ e, Gi false b b' → Sat w b' σ e → SqT w.K b'.H a vs)) := by
  cases d <;> try cases hi
  · obtain ⟨a, vs, rfl, h1, h2, h3⟩ := fz_tup.mp h
    exact ⟨a, vs, rfl, h3.length, h3, .inr ⟨rfl, fun b' σ e g S' => SqT.of (S'.ex _ _ (g.g.f _ _ h1))⟩⟩
  · obtain ⟨a, o, vs, rfl, h1, _, h2, h3⟩ := fz_tux.mp h
    exact ⟨a, vs, rfl, h3.length, h3, .inr ⟨rfl, fun b' σ e g S' => .inl (.inr ⟨o, S'.ex _ _ (g.g.f _ _ h1)⟩)⟩⟩
  · obtain ⟨a, vs, rfl, h1, h2, h3⟩ := fz_lst.mp h
    exact ⟨a, vs, rfl, h3.length, h3, .inl ⟨rfl, fun b' σ e g S' => SqL.of (S'.ex _ _ (g.g.f _ _ h1))⟩⟩
  · obtain ⟨a, vs, rfl, h1, h2, h3⟩ := fz_rol.mp h
    exact ⟨a, vs, rfl, h3.length, h3, .inl ⟨rfl, fun b' σ e g S' => sat_sqL S' (SqL.mono g.g.f h1)⟩⟩
  all_goals simp [Fz] at h
theorem isIt_list {b : Bs} {a : Addr} {ds : List D} {vs : List V} (z : FzL w b.G ds vs) (h : ∀ b' σ e, Gi false b b' → Sat w b' σ e → SqL w.K b'.H a vs) : IsIt w false b (Itl w.K a) ds :=
  ⟨fun H => SqL w.K H a vs, YAt vs, by rw [← z.length]; exact walk_list, h, fun b' σ e i x H' d g S hd y => by
    obtain ⟨rfl, hy⟩ := y
    obtain ⟨v, hv, zv⟩ := z.get hd
    rw [hy] at hv
    cases hv
    exact ⟨b', rfl, Gr.refl _, S, zv.mono g.g⟩⟩
theorem isIt_tup {b : Bs} {a : Addr} {ds : List D} {vs : List V} (z : FzL w b.G ds vs) (h : ∀ b' σ e, Gi false b b' → Sat w b' σ e → SqT w.K b'.H a vs) : IsIt w false b (Itt w.K a) ds :=
  ⟨fun H => SqT w.K H a vs, YAt vs, by rw [← z.length]; exact walk_tup, h, fun b' σ e i x H' d g S hd y => by
    obtain ⟨rfl, hy⟩ := y
    obtain ⟨v, hv, zv⟩ := z.get hd
    rw [hy] at hv
    cases hv
    exact ⟨b', rfl, Gr.refl _, S, zv.mono g.g⟩⟩
theorem ziSeq (o : Okx w X) (h : PE X x (tZ w W s f)) : PI X tg x (tI w W s (itSeq f)) := ((pi_list (tg := tg) h).or (pi_tup h)).imp fun σ H R ⟨b, e, he, S, q⟩ => by
  subst he
  cases hf : f e with
  | stuck =>
    unfold itSeq at q
    rw [hf] at q
    exact q.elim
  | exc c x e1 =>
    unfold itSeq at q
    rw [hf] at q
    exact .inl ⟨b, e, rfl, S, by rw [hf]; exact q⟩
  | ok d e1 =>
    unfold itSeq at q
    rw [hf] at q
    have q' : PR w W s σ b (seqOf d e1) fun ds b' _ => ∀ J, IsIt w s b' J ds → R J b'.H := q
    unfold seqOf at q'
    split at q'
    · rename_i ds hd
      cases ht : isT d with
      | true =>
        refine .inr ⟨b, e, rfl, S, ?_⟩
        rw [hf]
        intro b' g S' v z
        obtain ⟨a, vs, rfl, h1, h2, ⟨h3, _⟩ | ⟨_, h3⟩⟩ := z.seq hd
        · rw [ht] at h3
          cases h3
        · refine ⟨a, rfl, ⟨vs, ?_⟩, ?_⟩
          · rw [o.K]
            exact h3 b' σ e1 (Gr.refl _).gi S'
          · rw [o.K]
            exact q' b' g S' _ (isIt_tup h2 h3).soft
      | false =>
        refine .inl ⟨b, e, rfl, S, ?_⟩
        rw [hf]
        intro b' g S' v z
        obtain ⟨a, vs, rfl, h1, h2, ⟨_, h3⟩ | ⟨h3, _⟩⟩ := z.seq hd
        · refine ⟨a, rfl, ⟨vs, ?_⟩, ?_⟩
          · rw [o.K]
            exact h3 b' σ e1 (Gr.refl _).gi S'
          · rw [o.K]
            exact q' b' g S' _ (isIt_list h2 h3).soft
        · rw [ht] at h3
          cases h3
    · exact q'.elim
def itOwn (i : Nat) : LM := fun e => match e.sl[i]? with
  | some (some (.olst ds)) => if ds.all isF then .ok ds e else .stuck
  | some (some (.lst ds)) => .ok ds e
  | _ => .stuck
theorem ziOwn (i : Nat) {y : Str} (o : Okx w X) (hN : X.N[i]? = some y := by rfl) (hv : Vis X.env.scope y := by first | exact Or.inl rfl | exact Or.inr (Or.inl rfl) | exact Or.inr (Or.inr rfl)) (hd : (y == ("__debug__" : Str)) = false := by decide)
    (hcd : (y == ("__classdict__" : Str)) = false := by decide) : PI X tg (.Name y pos) (tI w W true (itOwn i)) := (pi_list (tg := tg) (pv i hN hv hd hcd)).imp fun σ H R ⟨b, e, he, S, q⟩ => by
  subst he
  unfold itOwn at q
  split at q
  · rename_i ds hd
    split at q
    · rename_i hf
      obtain ⟨v, h1, h2⟩ := S.slot hd
      obtain ⟨a, vs, l, rfl, k1, k2, k3, k4⟩ := own_olst.mp h2
      obtain ⟨k5, rfl⟩ := k3.fz hf
      have ha : a ∈ b.o (.s i) := by rw [k4]; exact List.mem_cons_self ..
      have st : ∀ b' σ e, Gi true b b' → Sat w b' σ e → SqL w.K b'.H a vs := fun b' σ e g S' => SqL.of ((g.t rfl).k a _ k1 (keeps_t fun n z => nomatch S.ap _ _ a ha z))
      refine ⟨_, h1, a, rfl, ⟨vs, by rw [o.K]; exact SqL.of k1⟩, ?_⟩
      rw [o.K]
      refine q b (Gr.refl b) S _ ⟨fun H => SqL w.K H a vs, YAt vs, by rw [← k5.length]; exact walk_list, st, fun b' σ e i x H' d g S hd y => ?_⟩
      obtain ⟨rfl, hy⟩ := y
      obtain ⟨v, hv, zv⟩ := k5.get hd
      rw [hy] at hv
      cases hv
      exact ⟨b', rfl, Gr.refl _, S, zv.mono g.g⟩
    · exact q.elim
  · rename_i ds hd
    obtain ⟨v, h1, h2⟩ := S.slot hd
    obtain ⟨a, vs, rfl, l1, z, ⟨_, st⟩ | ⟨h3, _⟩⟩ := ((own_fz rfl).mp h2).1.seq (rfl : items? (D.lst ds) = some ds)
    · refine ⟨_, h1, a, rfl, ⟨vs, by rw [o.K]; exact st b σ e (Gr.refl (s := false) _).gi S⟩, ?_⟩
      rw [o.K]
      exact q b (Gr.refl b) S _ (isIt_list z st).soft
    · cases h3
  · exact q.elim
def rngD (n : Int) : List D := (List.range n.toNat).map fun i => D.int (i : Nat)
def itRange (f : EM) : LM := fun e => (f e).bind fun d e1 => match d with
  | .int n => if -1000000 ≤ n ∧ n ≤ 1000000 then .ok (rngD n) e1 else .stuck
  | _ => .stuck
theorem ziRange {p : Pos} (hg : Gl X "range") (hm : X.mg "range" = none) (ha : PE X x (tZ w W s f)) (hs : starEach [x] X.env = [(false, eval x X.env)] := by rfl) (hs2 : starEach [x] X.env = (false, eval x X.env) :: starEach [] X.env := by rfl) : PI X tg (.Call (.Name "range" p) [x] [] pos) (tI w W s (itRange f)) :=
  (pi_range1 hg hm (pa_cons ha pa_nil hs2) hs).imp fun σ H R ⟨b, e, he, S, q⟩ => by
  subst he
  refine ⟨b, e, rfl, S, (PR.bind q).mono fun d b1 e1 g1 S1 h1 v z => ?_⟩
  cases d <;> try exact h1.elim
  rename_i n
  cases fz_int.mp z
  have h1' : PR w W s σ b1 (if -1000000 ≤ n ∧ n ≤ 1000000 then Rs.ok (rngD n) e1 else .stuck) fun ds b' _ => ∀ J, IsIt w s b' J ds → R J b'.H := h1
  split at h1'
  · rename_i hn
    refine ⟨n, rfl, by omega, by omega, h1' b1 (Gr.refl _) S1 _ ⟨fun _ => True, YFn fun i => .int ((0 : Int) + (i : Nat)), ?_, fun _ _ _ _ _ => trivial, fun b' σ e i x H' d g S hd y => ?_⟩⟩
    · have e2 : (rngD n).length = n.toNat := by simp [rngD]
      rw [e2]
      exact walk_range
    · obtain ⟨rfl, rfl⟩ := y
      refine ⟨b', rfl, Gr.refl _, S, ?_⟩
      unfold rngD at hd
      rw [List.getElem?_map] at hd
      obtain ⟨j, hj, rfl⟩ := Option.map_eq_some_iff.mp hd
      have : j = i := by
        rw [List.getElem?_range (by
          have := (List.getElem?_eq_some_iff.mp hj).1
          simpa using this)] at hj
        cases hj
        rfl
      subst this
      show Fz w b'.G (D.int (j : Int)) (V.int (0 + (j : Int)))
      rw [Int.zero_add]
      exact fz_int.mpr rfl
  · exact h1'.elim
end

def forGo (g : GM) (bd : SM) : List D → SM
  | [], e => .nx e
  | d :: ds, e => match g d e with
    | none => .stuck
    | some e1 => match bd e1 with
      | .nx e2 => forGo g bd ds e2
      | .ct e2 => forGo g bd ds e2
      | .bk e2 => .nx e2
      | r => r
def sFor (it : LM) (g : GM) (bd : SM) : SM := fun e => ofE (it e) fun ds e1 => forGo g bd ds e1
section
variable {X : Cx} {W : Wx} {s : Bool} {w : Wd} {pos : Pos} {iter tg : Expr} {body : List Stmt} {it : LM} {g : GM} {bd : SM} {ws : List Nat}
theorem for_z {D : Ends} {σ : St} {H : Hp} (h : tS w W (sFor it g bd) D σ H) : tFor (tI w W false it) (tG w ws g) (tS w W bd) D σ H := by
  obtain ⟨b, e, rfl, S, h⟩ := h
  refine ⟨b, e, rfl, S, (SR.ofE h).mono fun ds b1 e1 g1 S1 h1 J hJ => ?_⟩
  obtain ⟨G, Y, wk, hG, hY⟩ := hJ.ex
  refine for_it wk (fun i σ H => ∃ b' e', H = b'.H ∧ Gr false b1 b' ∧ Sat w b' σ e' ∧ SR w W b' (forGo g bd (ds.drop i) e') D) ⟨b1, e1, rfl, Gr.refl _, S1, h1⟩ ?_ ?_ ?_
  · rintro i σ H _ ⟨b', e', rfl, g2, S2, _⟩
    exact hG b' σ e' g2.gi S2
  · rintro i x σ H H' hi ⟨b', e', rfl, g2, S2, h2⟩ y
    have hd : ds[i]? = some (ds[i]'hi) := List.getElem?_eq_getElem hi
    obtain ⟨b'', rfl, g3, S3, z⟩ := hY b' σ e' i x H' _ g2.gi S2 hd y
    rw [List.drop_eq_getElem_cons hi] at h2
    unfold forGo at h2
    have g23 : Gr false b1 b'' := g2.trans g3.soft
    have h3 : SR w W b'' (match g ds[i] e' with
      | none => So.stuck
      | some e1 => match bd e1 with
        | .nx e2 => forGo g bd (ds.drop (i + 1)) e2
        | .ct e2 => forGo g bd (ds.drop (i + 1)) e2
        | .bk e2 => .nx e2
        | r => r) D := SR.later g3 h2
    cases hg : g ds[i] e' with
    | none =>
      rw [hg] at h3
      exact h3.elim
    | some e2 =>
      rw [hg] at h3
      refine ⟨b'', e', _, e2, rfl, S3, z, hg, fun bt σ2 pt gt S4 _ => ?_⟩
      rw [← pt]
      refine ⟨bt, e2, rfl, S4, ?_⟩
      have g23 := g23.trans gt.weak
      have h3 := SR.later gt h3
      simp only at h3
      cases hb : bd e2 with
      | nx e3 =>
        rw [hb] at h3
        exact fun b4 σ4 g4 S5 => ⟨b4, e3, rfl, g23.trans g4, S5, SR.later g4 h3⟩
      | ct e3 =>
        rw [hb] at h3
        exact fun b4 σ4 g4 S5 => ⟨b4, e3, rfl, g23.trans g4, S5, SR.later g4 h3⟩
      | bk e3 =>
        rw [hb] at h3
        exact h3
      | rt d e3 =>
        rw [hb] at h3
        exact h3
      | exc c x e3 =>
        rw [hb] at h3
        exact h3
      | stuck =>
        rw [hb] at h3
        exact h3
  · rintro σ H ⟨b', e', rfl, g2, S2, h2⟩
    rw [List.drop_length] at h2
    exact h2 b' σ (Gr.refl _) S2
theorem zFor (ws : List Nat) (hp : PassesOwn (model X.prog X.w) X.A X.env X.xe) (o : Okx w X) (hi : PI X tg iter (tI w W false it)) (hg : PG X tg (tG w ws g)) (hb : PSs X body (tS w W bd))
    (hs : ∀ x, foldedSetIterable iter X.env x = pure x := by intro _; rfl) : PS X (.For tg iter body [] pos) (tS w W (sFor it g bd)) := (ps_for hp o.c hi hg hb hs).imp fun _ _ _ h => for_z h
end
def whGo (t : TM) (bd : SM) : Nat → SM
  | 0, _ => .stuck
  | n + 1, e => ofE (t e) fun k e1 => if k = true then (match bd e1 with
      | .nx e2 => whGo t bd n e2
      | .ct e2 => whGo t bd n e2
      | .bk e2 => .nx e2
      | r => r) else .nx e1
section
variable {X : Cx} {W : Wx} {s : Bool} {w : Wd} {pos : Pos} {c : Expr} {body : List Stmt} {t : TM} {bd : SM} {n : Nat}
end
end Vm

set_option maxHeartbeats 1000000
namespace Vm
open PySem L2
def wipeS (e : List (Option D)) : List Nat → List (Option D)
  | [] => e
  | v :: vs => (wipeS e vs).set v none
def wipeE (e : En) (vs : List Nat) : En := ⟨wipeS e.sl vs, e.mu⟩
def backS (e1 : List (Option D)) : List Nat → List (Option D) → List (Option D)
  | [], e => e
  | v :: vs, e => (backS e1 vs e).set v (e1[v]?.getD none)
def back (e1 : En) (vs : List Nat) (e : En) : En := ⟨backS e1.sl vs e.sl, e.mu⟩
def clear (e : En) (vs : List Nat) : Bool := vs.all fun v => match e.sl[v]? with
  | some (some d) => isF d
  | _ => true
def Rs.nox {α : Type} (r : Rs α) : Rs α := match r with
  | .exc _ _ _ => .stuck
  | r => r
def lcGo (g : GM) (tt : TM) (te : EM) (vs : List Nat) : List D → List D → En → Rs (List D)
  | [], acc, e => .ok acc e
  | d :: ds, acc, e => match g d e with
    | none => .stuck
    | some e1 => (tt e1).nox.bind fun k e2 => if k = true then (te e2).nox.bind fun y e3 => if acc.length < LIM then lcGo g tt te vs ds (acc ++ [y]) (wipeE e3 vs) else .stuck
      else lcGo g tt te vs ds acc (wipeE e2 vs)
def eLc (it : LM) (g : GM) (tt : TM) (te : EM) (vs : List Nat) : EM := fun e => (it e).bind fun ds e1 => if clear e1 vs = false then .stuck else (lcGo g tt te vs ds [] (wipeE e1 vs)).bind fun rs e2 => lift (mkLst rs) (back e1 vs e2)
def tYesD : TM := fun e => .ok true e
section
variable {w : Wd} {σ : St} {b : Bs} {e : En} {i : Nat}
theorem wipe_get {σ : St} {i : Nat} : ∀ {vs : List Nat}, i ∉ vs → (wipe σ vs)[i]? = σ[i]?
  | [], _ => rfl
  | v :: vs, h => by
    unfold wipe
    rw [List.getElem?_set_ne fun z => h (by rw [z]; exact List.mem_cons_self ..)]
    exact wipe_get fun z => h (List.mem_cons_of_mem _ z)
theorem wipe_in {σ : St} {i : Nat} : ∀ {vs : List Nat}, i ∈ vs → i < σ.length → (wipe σ vs)[i]? = some none
  | [], h, _ => by cases h
  | v :: vs, h, hl => by
    unfold wipe
    by_cases hv : v = i
    · subst hv
      rw [List.getElem?_set_self (by rw [wipe_length]; exact hl)]
    · rw [List.getElem?_set_ne hv]
      exact wipe_in ((List.mem_cons.mp h).resolve_left fun z => hv z.symm) hl
theorem wipe_idem (σ : St) (vs : List Nat) : wipe (wipe σ vs) vs = wipe σ vs := by
  apply List.ext_getElem?
  intro i
  by_cases hi : i ∈ vs
  · by_cases hl : i < σ.length
    · rw [wipe_in hi (by rw [wipe_length]; exact hl), wipe_in hi hl]
    · rw [List.getElem?_eq_none (by rw [wipe_length, wipe_length]; omega), List.getElem?_eq_none (by rw [wipe_length]; omega)]
  · rw [wipe_get hi]
theorem wipeS_len (e : List (Option D)) : ∀ vs, (wipeS e vs).length = e.length
  | [] => rfl
  | v :: vs => by
    unfold wipeS
    rw [List.length_set, wipeS_len e vs]
theorem wipeS_get {e : List (Option D)} {i : Nat} : ∀ {vs : List Nat}, i ∉ vs → (wipeS e vs)[i]? = e[i]?
  | [], _ => rfl
  | v :: vs, h => by
    unfold wipeS
    rw [List.getElem?_set_ne fun z => h (by rw [z]; exact List.mem_cons_self ..)]
    exact wipeS_get fun z => h (List.mem_cons_of_mem _ z)
theorem wipeS_in {e : List (Option D)} {i : Nat} : ∀ {vs : List Nat}, i ∈ vs → ((wipeS e vs)[i]?).getD none = none
  | [], h => by cases h
  | v :: vs, h => by
    unfold wipeS
    by_cases hv : v = i
    · subst hv
      by_cases hl : v < (wipeS e vs).length
      · rw [List.getElem?_set_self hl]
        rfl
      · rw [List.getElem?_eq_none (by rw [List.length_set]; omega)]
        rfl
    · rw [List.getElem?_set_ne hv]
      exact wipeS_in ((List.mem_cons.mp h).resolve_left fun z => hv z.symm)
theorem back_len (e1 : List (Option D)) : ∀ (vs : List Nat) (e : List (Option D)), (backS e1 vs e).length = e.length
  | [], e => rfl
  | v :: vs, e => by
    unfold backS
    rw [List.length_set, back_len e1 vs e]
theorem back_out (e1 : List (Option D)) {i : Nat} : ∀ (vs : List Nat) (e : List (Option D)), i ∉ vs → (backS e1 vs e)[i]? = e[i]?
  | [], e, _ => rfl
  | v :: vs, e, h => by
    unfold backS
    rw [List.getElem?_set_ne fun z => h (by rw [z]; exact List.mem_cons_self ..)]
    exact back_out e1 vs e fun z => h (List.mem_cons_of_mem _ z)
theorem back_in (e1 : List (Option D)) {i : Nat} : ∀ (vs : List Nat) (e : List (Option D)), i ∈ vs → i < e.length → (backS e1 vs e)[i]? = some (e1[i]?.getD none)
  | [], e, h, _ => by cases h
  | v :: vs, e, h, hl => by
    unfold backS
    by_cases hv : v = i
    · subst hv
      rw [List.getElem?_set_self (by rw [back_len]; exact hl)]
    · rw [List.getElem?_set_ne hv]
      exact back_in e1 vs e ((List.mem_cons.mp h).resolve_left fun z => hv z.symm) hl
def Bs.free (b : Bs) (vs : List Nat) : Bs := ⟨b.G, b.H, fun y => match y with
  | .s i => if i ∈ vs then [] else b.o (.s i)
  | .m n => b.o (.m n)⟩
theorem free_sub {vs : List Nat} {y : Ix} {a : Addr} (h : a ∈ (b.free vs).o y) : a ∈ b.o y ∧ ∀ i, y = .s i → i ∉ vs := by
  cases y with
  | s i =>
    have h' : a ∈ (if i ∈ vs then [] else b.o (.s i)) := h
    split at h'
    · cases h'
    · exact ⟨h', fun j e => by cases e; assumption⟩
  | m n => exact ⟨h, fun j e => nomatch e⟩
theorem Gr.free {s : Bool} {vs : List Nat} : Gr s b (b.free vs) := ⟨.refl _, fun _ _ h _ => h, fun _ h => .inl h, fun a ⟨y, h⟩ => .inl ⟨y, (free_sub h).1⟩, fun _ n a h => .inl ⟨n, h⟩, fun _ h => h⟩
theorem Sat.wipe (S : Sat w b σ e) (vs : List Nat) : Sat w (b.free vs) (L2.wipe σ vs) (wipeE e vs) := by
  refine ⟨S.ex, by show (wipeS e.sl vs).length = _; rw [wipeS_len, wipe_length]; exact S.le, S.lm, fun y d h => ?_, fun y h => ?_, fun y z a h1 h2 => S.ap y z a (free_sub h1).1 (free_sub h2).1, fun y => ?_, fun y a h => S.fo y a (free_sub h).1⟩
  · cases y with
    | s i =>
      have h' : ((wipeS e.sl vs)[i]?).getD none = some d := h
      by_cases hi : i ∈ vs
      · rw [wipeS_in hi] at h'
        cases h'
      · rw [wipeS_get hi] at h'
        obtain ⟨v, k1, k2⟩ := S.sl (.s i) d h'
        refine ⟨v, ?_, ?_⟩
        · show ((L2.wipe σ vs)[i]?).getD none = some v
          rw [wipe_get hi]
          exact k1
        · have : (b.free vs).o (.s i) = b.o (.s i) := if_neg hi
          rw [this]
          exact k2
    | m n => exact S.sl (.m n) d h
  · cases y with
    | s i =>
      show (if i ∈ vs then [] else b.o (.s i)) = []
      split
      · rfl
      · rename_i hi
        have h' : ((wipeS e.sl vs)[i]?).getD none = none := h
        rw [wipeS_get hi] at h'
        exact S.em (.s i) h'
    | m n => exact S.em (.m n) h
  · cases y with
    | s i =>
      show (if i ∈ vs then [] else b.o (.s i)).Nodup
      split
      · exact List.nodup_nil
      · exact S.nd _
    | m n => exact S.nd (.m n)
theorem clear_at {vs : List Nat} (h : clear e vs = true) {i : Nat} (hi : i ∈ vs) {d : D} (hd : e.sl[i]?.getD none = some d) : isF d = true := by
  have := List.all_eq_true.mp h i hi
  cases q : e.sl[i]? with
  | none => rw [q] at hd; cases hd
  | some o =>
    rw [q] at hd this
    have : o = some d := hd
    subst this
    assumption
theorem Sat.back {s : Bool} {b1 : Bs} {e1 : En} {vs : List Nat} (S1 : Sat w b1 σ e1) (hc : clear e1 vs = true) (g : Gr s b1 b) (S : Sat w b (L2.wipe σ vs) e) : Sat w (b.free vs) σ (Vm.back e1 vs e) := by
  refine ⟨S.ex, by show (backS e1.sl vs e.sl).length = _; rw [back_len]; rw [S.le, wipe_length], S.lm, fun y d h => ?_, fun y h => ?_, fun y z a h1 h2 => S.ap y z a (free_sub h1).1 (free_sub h2).1, fun y => ?_, fun y a h => S.fo y a (free_sub h).1⟩
  · cases y with
    | s i =>
      have h' : ((backS e1.sl vs e.sl)[i]?).getD none = some d := h
      have hil : i < e.sl.length := by
        cases q : (backS e1.sl vs e.sl)[i]? with
        | none => rw [q] at h'; cases h'
        | some _ =>
          have := (List.getElem?_eq_some_iff.mp q).1
          rw [back_len] at this
          exact this
      by_cases hi : i ∈ vs
      · rw [back_in e1.sl vs e.sl hi hil] at h'
        have h2 : e1.sl[i]?.getD none = some d := h'
        obtain ⟨v, k1, k2⟩ := S1.sl (.s i) d h2
        have hf := clear_at hc hi h2
        refine ⟨v, k1, ?_⟩
        have : (b.free vs).o (.s i) = [] := if_pos hi
        rw [this]
        exact (((own_fz hf).mp k2).1.mono g.g).own
      · rw [back_out e1.sl vs e.sl hi] at h'
        obtain ⟨v, k1, k2⟩ := S.sl (.s i) d h'
        refine ⟨v, ?_, ?_⟩
        · have k1' : ((L2.wipe σ vs)[i]?).getD none = some v := k1
          rw [wipe_get hi] at k1'
          exact k1'
        · have : (b.free vs).o (.s i) = b.o (.s i) := if_neg hi
          rw [this]
          exact k2
    | m n => exact S.sl (.m n) d h
  · cases y with
    | s i =>
      show (if i ∈ vs then [] else b.o (.s i)) = []
      split
      · rfl
      · rename_i hi
        have h' : ((backS e1.sl vs e.sl)[i]?).getD none = none := h
        rw [back_out e1.sl vs e.sl hi] at h'
        exact S.em (.s i) h'
    | m n => exact S.em (.m n) h
  · cases y with
    | s i =>
      show (if i ∈ vs then [] else b.o (.s i)).Nodup
      split
      · exact List.nodup_nil
      · exact S.nd _
    | m n => exact S.nd (.m n)
end
theorem _root_.L2.PTs.imp {X : Cx} {e : List Expr} {t t' : TT} (h : PTs X e t) (k : ∀ σ H Q, t' σ H Q → t σ H Q) : PTs X e t' := ⟨fun pins s σ H Q I q => h.run pins s σ H Q I (k σ H Q q)⟩
section
variable {X : Cx} {W : Wx} {s : Bool} {w : Wd} {pos : Pos} {c : Expr} {t : TM}
theorem ztNil : PTs X [] (tT w W s tYesD) := pts_nil.imp fun σ H Q ⟨b, e, he, S, h⟩ => by
  subst he
  exact h b (Gr.refl _) S
theorem ztOne (h : PT X c (tT w W s t)) : PTs X [c] (tT w W s t) := pts_one h
theorem Okx.blk (o : Okx w X) {S : Shared} {H : Hp} {scope : Scope} {cenv : Env} {fp : List Addr} : Okx w (X.blk S H scope cenv fp) := ⟨o.P, o.W, o.K, o.u, o.c, o.N⟩
end
theorem lcGo_noexc {g : GM} {tt : TM} {te : EM} {vs : List Nat} : ∀ {ds acc : List D} {e : En} {c : Nat} {x : Option D} {e' : En}, lcGo g tt te vs ds acc e ≠ .exc c x e'
  | [], acc, e, c, x, e', h => by cases h
  | d :: ds, acc, e, c, x, e', h => by
    unfold lcGo at h
    split at h
    · cases h
    · rename_i e1 _
      cases h1 : tt e1 with
      | stuck => rw [h1] at h; cases h
      | exc _ _ _ => rw [h1] at h; cases h
      | ok k e2 =>
        rw [h1] at h
        have h : (if k = true then (te e2).nox.bind fun y e3 => if acc.length < LIM then lcGo g tt te vs ds (acc ++ [y]) (wipeE e3 vs) else .stuck
          else lcGo g tt te vs ds acc (wipeE e2 vs)) = Rs.exc c x e' := h
        split at h
        · cases h2 : te e2 with
          | stuck => rw [h2] at h; cases h
          | exc _ _ _ => rw [h2] at h; cases h
          | ok y e3 =>
            rw [h2] at h
            have h : (if acc.length < LIM then lcGo g tt te vs ds (acc ++ [y]) (wipeE e3 vs) else .stuck) = Rs.exc c x e' := h
            split at h
            · exact lcGo_noexc h
            · cases h
        · exact lcGo_noexc h
structure Made (w : Wd) (b0 b : Bs) (D : Addr) (acc : List Vm.D) (av : List V) (l : List Addr) : Prop where
  H : b.H D = some (.lst av)
  F : b.G.F D = none
  n : ¬ b.own D
  z : OwnL w b.G b.H acc av l
  d : (D :: l).Nodup
  s : ∀ a ∈ l, b.G.F a = none ∧ ¬ b.own a ∧ (b0.H a = none ∨ b0.own a)
theorem Made.keep {w : Wd} {s : Bool} {b0 b b' : Bs} {D : Addr} {acc : List Vm.D} {av : List V} {l : List Addr} (M : Made w b0 b D acc av l) (g : Gr s b b') : Made w b0 b' D acc av l := by
  have nn : ∀ a, ¬ b.own a → (∃ u, b.H a = some u) → b.G.F a = none → b'.G.F a = none ∧ ¬ b'.own a := fun a no ⟨u, hu⟩ hF => by
    refine ⟨?_, fun z => (g.p a z).elim no fun z => by rw [hu] at z; cases z⟩
    cases q : b'.G.F a with
    | none => rfl
    | some u' =>
      rcases g.n a (by rw [q]; intro z; cases z) with z | z | z
      · exact absurd hF z
      · exact absurd z no
      · rw [hu] at z; cases z
  refine ⟨g.k D _ M.H (keeps_no M.n), (nn D M.n ⟨_, M.H⟩ M.F).1, (nn D M.n ⟨_, M.H⟩ M.F).2, M.z.keep g.g fun a ha u hu => g.k a u hu (keeps_no (M.s a ha).2.1), M.d, fun a ha => ?_⟩
  obtain ⟨k1, k2, k3⟩ := M.s a ha
  obtain ⟨m1, m2⟩ := nn a k2 (M.z.there a ha) k1
  exact ⟨m1, m2, k3⟩
theorem Sat.side {w : Wd} {b : Bs} {σ : St} {e : En} {p : Addr} {u : HO} (S : Sat w b σ e) (hF : b.G.F p = none) (ho : ¬ b.own p) : Sat w (b.lay p u) σ e :=
  S.grow (.refl _) (fun _ => rfl) rfl (fun a v h => by
    have ne : a ≠ p := fun z => by
      have h' : b.G.F a = some v := h
      rw [z, hF] at h'
      cases h'
    exact (upd_ne ne).trans (S.ex a v h)) (fun a v h1 h2 => by
    have ne : a ≠ p := fun z => ho (z ▸ h1)
    exact (upd_ne ne).trans h2) fun a h => (S.there h).1
section
variable {W : Wx} {s : Bool} {w : Wd} {it : LM} {g : GM} {tt : TM} {te : EM} {vs : List Nat}
theorem lc_v {σ : St} {H : Hp} {Q : VK} (h : tV w W s (eLc it g tt te vs) σ H Q) : tLc (tI w W s it) (tG w vs g) (tT w W0 s tt) (tV w W0 s te) vs σ H Q := by
  obtain ⟨b0, e0, rfl, S0, h⟩ := h
  refine ⟨b0, e0, rfl, S0, (PR.bind h).mono fun ds b1 e1 g1 S1 h1 J hJ D hD => ?_⟩
  obtain ⟨G, Y, wk, hG, hY⟩ := hJ.ex
  split at h1
  · exact h1.elim
  rename_i hc
  have hc : clear e1 vs = true := by simpa using hc
  cases hl : lcGo g tt te vs ds [] (wipeE e1 vs) with
  | stuck =>
    rw [hl] at h1
    exact h1.elim
  | exc c x e' => exact absurd hl lcGo_noexc
  | ok rs e2 =>
    rw [hl] at h1
    have h1 : PR w W s σ b1 (lift (mkLst rs) (Vm.back e1 vs e2)) fun d b' _ => ∀ v, Tmp w b0 b' d v → Q v b'.H := h1
    have hDF : b1.G.F D = none := S1.fresh_F hD
    have hDo := S1.fresh_own hD
    have nofree : ∀ {b : Bs} {a : Addr}, ¬ b.own a → ¬ (b.free vs).own a := fun h ⟨y, hy⟩ => h ⟨y, (free_sub hy).1⟩
    refine lc_it wk (fun i H => ∃ b' e' acc av l, H = b'.H ∧ Gr s b1 b' ∧ Sat w b' (wipe σ vs) e' ∧ Made w b1 b' D acc av l ∧ acc.length ≤ LIM ∧ lcGo g tt te vs (ds.drop i) acc e' = .ok rs e2) ?_ ?_ ?_ ?_
    · have S2 := (S1.wipe vs).side (u := .lst []) hDF (nofree hDo)
      exact ⟨(b1.free vs).lay D (.lst []), wipeE e1 vs, [], [], [], rfl, Gr.free.trans (Gr.lay hD), S2, ⟨upd_same, hDF, nofree hDo, ownl_nil.mpr ⟨rfl, rfl⟩, by simp, fun a ha => nomatch ha⟩, Nat.zero_le _, hl⟩
    · rintro i H _ ⟨b', e', acc, av, l, rfl, g2, S2, _⟩
      exact hG b' _ e' g2.gi S2
    · rintro i x H H' hi ⟨b', e', acc, av, l, rfl, g2, S2, M, k5, k6⟩ y
      have hd : ds[i]? = some (ds[i]'hi) := List.getElem?_eq_getElem hi
      obtain ⟨b2, rfl, g3, S3, z⟩ := hY b' _ e' i x H' _ g2.gi S2 hd y
      rw [List.drop_eq_getElem_cons hi] at k6
      unfold lcGo at k6
      cases hg : g ds[i] e' with
      | none =>
        rw [hg] at k6
        cases k6
      | some e3 =>
        rw [hg] at k6
        simp only at k6
        refine ⟨b2, e', _, e3, rfl, S3, z, hg, fun bt σ2 pt gt S4 hw => ?_⟩
        rw [← pt]
        have hw' : wipe σ2 vs = wipe σ vs := by rw [hw]; exact (wipe_idem σ vs)
        refine ⟨hw', ?_⟩
        cases ht : tt e3 with
        | stuck => rw [ht] at k6; cases k6
        | exc _ _ _ => rw [ht] at k6; cases k6
        | ok k e4 =>
          rw [ht] at k6
          refine ⟨bt, e3, rfl, S4, ?_⟩
          rw [ht]
          intro b3 g4 S5
          have g24 : Gr s b' b3 := ((g3.soft (s := s)).trans gt.soft).trans g4
          cases k with
          | false =>
            have k6 : lcGo g tt te vs (ds.drop (i + 1)) acc (wipeE e4 vs) = .ok rs e2 := k6
            have S6 := S5.wipe vs
            rw [hw'] at S6
            have gx := g24.trans (Gr.free (vs := vs))
            exact ⟨b3.free vs, wipeE e4 vs, acc, av, l, rfl, g2.trans gx, S6, M.keep gx, k5, k6⟩
          | true =>
            have k6 : ((te e4).nox.bind fun y e3 => if acc.length < LIM then lcGo g tt te vs (ds.drop (i + 1)) (acc ++ [y]) (wipeE e3 vs) else .stuck) = .ok rs e2 := k6
            cases he : te e4 with
            | stuck => rw [he] at k6; cases k6
            | exc _ _ _ => rw [he] at k6; cases k6
            | ok y5 e5 =>
              rw [he] at k6
              have k6 : (if acc.length < LIM then lcGo g tt te vs (ds.drop (i + 1)) (acc ++ [y5]) (wipeE e5 vs) else .stuck) = .ok rs e2 := k6
              split at k6
              · rename_i hlt
                refine ⟨b3, e4, rfl, S5, ?_⟩
                rw [he]
                intro b4 g5 S6 v5 t5
                have gy := g24.trans g5
                have M2 := M.keep gy
                have M3 := M.keep g24
                obtain ⟨lt, t1, t2, t3⟩ := t5
                have S7 := S6.wipe vs
                rw [hw'] at S7
                -- what the new item owns is apart from the list and the other items
                have apt : ∀ c ∈ lt, c ∉ D :: l := fun c hcl hm => by
                  have hno : ¬ b3.own c ∧ ∃ u, b3.H c = some u := by
                    rcases List.mem_cons.mp hm with rfl | hm
                    · exact ⟨M3.n, _, M3.H⟩
                    · exact ⟨(M3.s c hm).2.1, M3.z.there c hm⟩
                  obtain ⟨n1, u, hu⟩ := hno
                  rcases (t3 c hcl).2.2 with q | q
                  · rw [hu] at q; cases q
                  · exact n1 q
                have hl4 : av.length = acc.length := M2.z.length
                have nD : ∀ c, c ∈ l ++ lt → c ≠ D := fun c hcm hcd => by
                  subst hcd
                  rcases List.mem_append.mp hcm with q | q
                  · exact (List.nodup_cons.mp M2.d).1 q
                  · exact apt c q (List.mem_cons_self ..)
                have g6 : Gr s b4 (b4.free vs) := Gr.free
                refine ⟨av, M2.H, by rw [hl4]; exact Nat.lt_of_lt_of_le hlt (lim_size (Nat.le_refl _)), (b4.free vs).lay D (.lst (av ++ [v5])), wipeE e5 vs, acc ++ [y5], av ++ [v5], l ++ lt, rfl, ?_, S7.side M2.F (nofree M2.n), ⟨upd_same, M2.F, nofree M2.n, ?_, ?_, fun a ha => ?_⟩, by rw [List.length_append]; exact hlt, k6⟩
                · have gg := (g2.trans gy).trans g6
                  refine ⟨gg.g, fun a u q n => ?_, gg.n, gg.p, gg.q, fun a q => ?_⟩
                  · exact (upd_ne (ne_of_none q hD)).trans (gg.k a u q n)
                  · have q' : upd (b4.free vs).H D (.lst (av ++ [v5])) a = none := q
                    by_cases ha : a = D
                    · rw [ha]
                      exact hD
                    · rw [upd_ne ha] at q'
                      exact gg.h a q'
                · have := M2.z.append (ownl_cons.mpr ⟨v5, [], lt, [], rfl, t1, ownl_nil.mpr ⟨rfl, rfl⟩, (List.append_nil _).symm⟩)
                  exact this.keep (.refl _) fun a ha u hu => (upd_ne (nD a ha)).trans hu
                · refine List.nodup_cons.mpr ⟨fun h => nD D h rfl, List.nodup_append.mpr ⟨(List.nodup_cons.mp M2.d).2, t2, fun a ha c hc q => apt c hc (List.mem_cons_of_mem _ (q ▸ ha))⟩⟩
                · rcases List.mem_append.mp ha with q | q
                  · obtain ⟨m1, m2, m3⟩ := M2.s a q
                    exact ⟨m1, nofree m2, m3⟩
                  · obtain ⟨m1, m2, m3⟩ := t3 a q
                    refine ⟨m1, nofree m2, ?_⟩
                    rcases m3 with m3 | m3
                    · exact .inl ((g2.trans g24).h a m3)
                    · exact ((g2.trans g24).p a m3).symm
              · cases k6
    · rintro H ⟨b', e', acc, av, l, rfl, g2, S2, M, k5, k6⟩
      rw [List.drop_length] at k6
      cases k6
      have hm : mkLst rs = some (.olst rs) := if_pos k5
      rw [hm] at h1
      refine h1 (b'.free vs) (g2.trans Gr.free) (S1.back hc g2 S2) (.ref D) ⟨D :: l, own_olst.mpr ⟨D, av, l, rfl, M.H, lim_size k5, M.z, rfl⟩, M.d, fun a ha => ?_⟩
      rcases List.mem_cons.mp ha with rfl | ha
      · exact ⟨M.F, nofree M.n, .inl (g1.h _ hD)⟩
      · obtain ⟨m1, m2, m3⟩ := M.s a ha
        refine ⟨m1, nofree m2, ?_⟩
        rcases m3 with m3 | m3
        · exact .inl (g1.h a m3)
        · exact (g1.p a m3).symm
end
section
variable {X : Cx} {W : Wx} {s : Bool} {w : Wd} {pos spos py : Pos} {x elt tg iter : Expr} {ifs : List Expr} {scope : Scope} {own : List (Str × Nat)} {it : LM} {g : GM} {tt : TM} {te f : EM}
theorem vSoft (h : PE X x (tV w W true f)) : PE X x (tV w W s f) := h.imp fun σ H Q ⟨b, e, he, S, q⟩ => ⟨b, e, he, S, PR.soften q⟩
theorem oLc (own : List (Str × Nat)) (o : Okx w X) (hi : PI X tg iter (tI w W s it)) (ok : BlkOk X.N X.env.scope scope own)
    (hg : ∀ (s : Shared) (H : Hp) (C : Addr) (cl : List (Str × Addr)) (fp : List Addr), PG (X.blk s H scope (compEnvC scope cl C X.env) fp) tg (tG w (own.map (·.2)) g)) (ht : ∀ (s0 : Shared) (H : Hp) (C : Addr) (cl : List (Str × Addr)) (fp : List Addr), PTs (X.blk s0 H scope (compEnvC scope cl C X.env) fp) ifs (tT w W0 s tt))
    (he : ∀ (s0 : Shared) (H : Hp) (C : Addr) (cl : List (Str × Addr)) (fp : List Addr), PE (X.blk s0 H scope (compEnvC scope cl C X.env) fp) elt (tV w W0 s te)) (hs : ∀ x, foldedSetIterable iter X.env x = pure x := by intro _; rfl) :
    PE X (.ListComp elt [⟨tg, iter, ifs, 0⟩] scope pos) (tV w W s (eLc it g tt te (own.map (·.2)))) := (pe_lc (own := own) o.c o.N hi ok hg ht he hs).imp fun _ _ _ h => lc_v h
theorem zSetLc (i : Nat) (own : List (Str × Nat)) {y : Str} (o : Okx w X) (hi : PI X tg iter (tI w W s it)) (ok : BlkOk X.N X.env.scope scope own)
    (hg : ∀ (s : Shared) (H : Hp) (C : Addr) (cl : List (Str × Addr)) (fp : List Addr), PG (X.blk s H scope (compEnvC scope cl C X.env) fp) tg (tG w (own.map (·.2)) g)) (ht : ∀ (s0 : Shared) (H : Hp) (C : Addr) (cl : List (Str × Addr)) (fp : List Addr), PTs (X.blk s0 H scope (compEnvC scope cl C X.env) fp) ifs (tT w W0 s tt))
    (he : ∀ (s0 : Shared) (H : Hp) (C : Addr) (cl : List (Str × Addr)) (fp : List Addr), PE (X.blk s0 H scope (compEnvC scope cl C X.env) fp) elt (tV w W0 s te))
    (hy : X.N[i]? = some y := by rfl) (hyl : X.env.scope.names.lookup y = some .local := by rfl)
    (hsw : swapsWith (.ListComp elt [⟨tg, iter, ifs, 0⟩] scope pos) (some (.Name y py)) spos.line X.env = pure true := by exact sw_true rfl rfl rfl rfl)
    (hs : ∀ x, foldedSetIterable iter X.env x = pure x := by intro _; rfl) :
    PS X (.Assign [.Name y py] (.ListComp elt [⟨tg, iter, ifs, 0⟩] scope pos) spos) (tS w W (sAsg (frzE (eLc it g tt te (own.map (·.2)))) (gN i))) :=
  (ps_setLc (own := own) o.c o.N hy hyl hsw hi ok hg ht he hs).len.imp fun D σ H h hl => by
    refine lc_v (tV_frz ?_)
    obtain ⟨b, e, rfl, S, h⟩ := h
    refine ⟨b, e, rfl, S, (SR.ofE h).mono fun d b1 e1 g1 S1 h1 v z => ?_⟩
    obtain ⟨b', p, _, g', S'⟩ := S1.setZ (s := false) (by rw [hl]; exact (List.getElem?_eq_some_iff.mp hy).1) z
    show D.nx _ b1.H
    rw [← p]
    exact h1 b' _ g' S'
end
end Vm

set_option maxHeartbeats 1000000
namespace Vm
open PySem L2 PyProof.Rows
inductive Ro where
  | ok (d : D) (mu : Mu) | exc (c : Nat) (x : Option D) (mu : Mu) | stuck
abbrev FV := Mu → List D → Ro
def spF (w : Wd) (f : FV) : Sp := fun vs H Q _ => ∃ b mu ds, H = b.H ∧ Sat w b [] ⟨[], mu⟩ ∧ FzL w b.G ds vs ∧ match f mu ds with
  | .ok d mu' => ∀ v b', Gr false b b' → Sat w b' [] ⟨[], mu'⟩ → Tmp w b b' d v → Q v b'.H
  | _ => False
def runB (n : Nat) (bd : SM) : FV := fun mu ds => match bd ⟨ds.map some ++ List.replicate n none, mu⟩ with
  | .rt d e => .ok d e.mu
  | .nx e => .ok .non e.mu
  | .exc c x e => .exc c x e.mu
  | _ => .stuck
@[irreducible] def runF (m n : Nat) (bd : SM) : FV := fun mu ds => if ds.length = m then runB n bd mu ds else .stuck
section
variable {w : Wd} {b : Bs} {σ : L2.St} {e : En}
def Bs.top (b : Bs) : Bs := ⟨b.G, b.H, fun y => match y with
  | .s _ => []
  | .m n => b.o (.m n)⟩
theorem top_sub {y : Ix} {a : Addr} (h : a ∈ b.top.o y) : a ∈ b.o y ∧ ∃ n, y = .m n := by
  cases y with
  | s i => cases h
  | m n => exact ⟨h, n, rfl⟩
theorem Gr.top {s : Bool} : Gr s b b.top := ⟨.refl _, fun _ _ h _ => h, fun _ h => .inl h, fun a ⟨y, h⟩ => .inl ⟨y, (top_sub h).1⟩, fun _ n a h => .inl ⟨n, h⟩, fun _ h => h⟩
theorem Sat.top (S : Sat w b σ e) : Sat w b.top [] ⟨[], e.mu⟩ := by
  refine ⟨S.ex, rfl, S.lm, fun y d h => ?_, fun y h => ?_, fun y z a h1 h2 => S.ap y z a (top_sub h1).1 (top_sub h2).1, fun y => ?_, fun y a h => S.fo y a (top_sub h).1⟩
  · cases y with
    | s i =>
      have h' : (([] : List (Option D))[i]?).getD none = some d := h
      simp at h'
    | m n => exact S.sl (.m n) d h
  · cases y with
    | s i => rfl
    | m n => exact S.em (.m n) h
  · cases y with
    | s i => exact List.nodup_nil
    | m n => exact S.nd (.m n)
theorem Sat.start {mu : Mu} {vs : List V} {ds : List D} {n : Nat} (S : Sat w b [] ⟨[], mu⟩) (z : FzL w b.G ds vs) : Sat w b (vs.map some ++ List.replicate n none) ⟨ds.map some ++ List.replicate n none, mu⟩ := by
  have em : ∀ i, b.o (.s i) = [] := fun i => S.em (.s i) (by show (([] : List (Option D))[i]?).getD none = none; simp)
  refine ⟨S.ex, by simp [z.length], S.lm, fun y d h => ?_, fun y h => ?_, S.ap, S.nd, S.fo⟩
  · cases y with
    | s i =>
      have h' : ((ds.map some ++ List.replicate n none)[i]?).getD none = some d := h
      have hi : ds[i]? = some d := by
        by_cases hlt : i < ds.length
        · rw [List.getElem?_append_left (by simpa using hlt), List.getElem?_map] at h'
          cases q : ds[i]? with
          | none => rw [q] at h'; simp at h'
          | some d' => rw [q] at h'; simpa using h'
        · rw [List.getElem?_append_right (by simp; omega)] at h'
          cases q : (List.replicate n (none : Option D))[i - (ds.map some).length]? with
          | none => rw [q] at h'; simp at h'
          | some o =>
            rw [q] at h'
            have := List.getElem?_eq_some_iff.mp q
            obtain ⟨_, q2⟩ := this
            simp at q2
            rw [← q2] at h'
            cases h'
      obtain ⟨v, hv, zv⟩ := z.get hi
      refine ⟨v, ?_, ?_⟩
      · show ((vs.map some ++ List.replicate n none)[i]?).getD none = some v
        have hlt : i < vs.length := (List.getElem?_eq_some_iff.mp hv).1
        rw [List.getElem?_append_left (by simpa using hlt), List.getElem?_map, hv]
        rfl
      · rw [em i]
        exact zv.own
    | m k => exact S.sl (.m k) d h
  · cases y with
    | s i => exact em i
    | m k => exact S.em (.m k) h
end
theorem fn_v {P : Program} {w : World} {W : Wd} {K : PySem.W.Frag} {mg : Str → Option Value} {base : Heap} {x qual : Str} {params : Arguments} {body : List Stmt} {scope : Scope} {dvs : List V} {kws : List (Str × V)} {f : Addr} {fd : FuncData}
    {N ps : List Str} {k m n : Nat} {bd : SM} (F : FunD K x qual params body scope dvs kws f fd) (S : FnScope N ps scope) (hps : ps.length = m) (hls : N.length - ps.length = n)
    (hb : ∀ (cdv : Value) (A : Around) (outer : List Env) (s : Shared) (H : Hp) (vs : List V) (E : XK), Room k (A.deeper (envOfC qual scope s.heap.objs.size f cdv)) →
      PSs (cxOf CX0 P w K mg base N qual scope f cdv A outer s H E).nox body (tS W W0 bd)) :
    FnOk P w K mg base CX0 (k + 1) f fd ps (spF W (runF m n bd)) := by
  have len : ∀ vs H Q E, spF W (runF m n bd) vs H Q E → vs.length = m := fun vs H Q E ⟨b, mu, ds, _, S0, z, h⟩ => by
    rw [z.length]
    unfold runF at h
    by_cases hl : ds.length = m
    · exact hl
    · rw [if_neg hl] at h
      exact h.elim
  refine F.ok S (fun vs H Q E h => by rw [len vs H Q E h, hps]) fun cdv A outer s H vs Q E hr h => ⟨_, (hb cdv A outer s H vs E hr).nox, ?_⟩
  have hl := len vs H Q E h
  obtain ⟨b, mu, ds, rfl, S0, z, h⟩ := h
  have e1 : L2.start N vs = vs.map some ++ List.replicate n none := by
    unfold L2.start
    rw [hl, ← hps, hls]
  rw [e1]
  refine ⟨b, _, rfl, S0.start z, ?_⟩
  unfold runF at h
  rw [if_pos (by rw [← z.length]; exact hl)] at h
  unfold runB at h
  cases hbd : bd ⟨ds.map some ++ List.replicate n none, mu⟩ with
  | rt d' e' =>
    rw [hbd] at h
    exact fun b' σ' v g S' t => h v b'.top (g.trans Gr.top) S'.top (t.stay (Gr.top (s := false)))
  | nx e' =>
    rw [hbd] at h
    exact fun b' σ' g S' => h .non b'.top (g.trans Gr.top) S'.top (Fz.tmp (fz_non.mpr rfl))
  | bk e' => rw [hbd] at h; exact h.elim
  | ct e' => rw [hbd] at h; exact h.elim
  | exc _ _ e' => rw [hbd] at h; exact h.elim
  | stuck => rw [hbd] at h; exact h.elim

def callF (F : FV) (ds : List D) (e : En) : Rs D := match F e.mu ds with
  | .ok d mu => .ok d ⟨e.sl, mu⟩
  | _ => .stuck
def eCall (F : FV) (ar : LM) : EM := fun e => (ar e).bind fun ds e1 => callF F ds e1
def Bs.aft (b b' : Bs) : Bs := ⟨b'.G, b'.H, fun y => match y with
  | .s i => b.o (.s i)
  | .m n => b'.o (.m n)⟩
section
variable {w : Wd} {W : Wx} {s : Bool} {σ : L2.St} {b b' b0 : Bs} {e : En} {mu : Mu} {d : D} {v : V}
theorem top_own {a : Addr} (h : b.top.own a) : ∃ n, a ∈ b.o (.m n) := by
  obtain ⟨y, hy⟩ := h
  obtain ⟨h1, n, rfl⟩ := top_sub hy
  exact ⟨n, h1⟩
theorem aft_gr (g : Gr false b.top b') : Gr s b (b.aft b') := by
  have key : ∀ a, b.top.own a → b.own a := fun a h => let ⟨n, h⟩ := top_own h; ⟨_, h⟩
  refine Gr.soft ⟨g.g, fun a u h n => g.k a u h (keeps_no fun z => ?_), fun a h => (g.n a h).imp id fun z => z.imp (key a) id, fun a ⟨y, h⟩ => ?_, fun _ n a h => ?_, g.h⟩
  · obtain ⟨m, z⟩ := top_own z
    have n' : ∀ n, a ∉ b.o (.m n) := by simpa [keeps] using n
    exact n' m z
  · cases y with
    | s i => exact .inl ⟨.s i, h⟩
    | m n => exact (g.p a ⟨.m n, h⟩).imp (key a) id
  · rcases g.p a ⟨.m n, h⟩ with z | z
    · exact .inl (top_own z)
    · exact .inr z
theorem Sat.aft (S : Sat w b σ e) (g : Gr false b.top b') (S' : Sat w b' [] ⟨[], mu⟩) : Sat w (b.aft b') σ ⟨e.sl, mu⟩ := by
  -- the caller's slots stand apart from what the callee could reach
  have apart : ∀ i a, a ∈ b.o (.s i) → ¬ b.top.own a ∧ ∃ u, b.H a = some u := fun i a h => by
    refine ⟨fun z => ?_, (S.there ⟨_, h⟩).2⟩
    obtain ⟨n, z⟩ := top_own z
    cases S.ap _ _ a h z
  have noc : ∀ i a n, a ∈ b.o (.s i) → a ∉ b'.o (.m n) := fun i a n h z => by
    obtain ⟨h1, u, hu⟩ := apart i a h
    rcases g.p a ⟨.m n, z⟩ with q | q
    · exact h1 q
    · have q' : b.H a = none := q
      rw [hu] at q'
      cases q'
  refine ⟨S'.ex, S.le, S'.lm, fun y d h => ?_, fun y h => ?_, fun y z a h1 h2 => ?_, fun y => ?_, fun y a h => ?_⟩
  · cases y with
    | s i =>
      obtain ⟨v, k1, k2⟩ := S.sl (.s i) d h
      exact ⟨v, k1, k2.keep g.g fun a ha u hu => g.k a u hu (keeps_no (apart i a ha).1)⟩
    | m n => exact S'.sl (.m n) d h
  · cases y with
    | s i => exact S.em (.s i) h
    | m n => exact S'.em (.m n) h
  · cases y with
    | s i =>
      cases z with
      | s j => exact S.ap _ _ a h1 h2
      | m n => exact absurd h2 (noc i a n h1)
    | m n =>
      cases z with
      | s j => exact absurd h1 (noc j a n h2)
      | m k => exact S'.ap _ _ a h1 h2
  · cases y with
    | s i => exact S.nd (.s i)
    | m n => exact S'.nd (.m n)
  · cases y with
    | s i =>
      obtain ⟨h1, u, hu⟩ := apart i a h
      cases q : b'.G.F a with
      | none => exact q
      | some u' =>
        rcases g.n a (by rw [q]; intro z; cases z) with z | z | z
        · exact absurd (S.fo _ a h) z
        · exact absurd z h1
        · have z' : b.H a = none := z
          rw [hu] at z'
          cases z'
    | m n => exact S'.fo (.m n) a h
theorem Tmp.aft (S : Sat w b σ e) (t : Tmp w b.top b' d v) : Tmp w b (b.aft b') d v := by
  obtain ⟨l, t1, t2, t3⟩ := t
  refine ⟨l, t1, t2, fun a ha => ?_⟩
  obtain ⟨k1, k2, k3⟩ := t3 a ha
  refine ⟨k1, fun ⟨y, hy⟩ => ?_, k3.imp id fun z => let ⟨n, z⟩ := top_own z; ⟨_, z⟩⟩
  cases y with
  | s i =>
    have hy' : a ∈ b.o (.s i) := hy
    rcases k3 with z | z
    · obtain ⟨_, u, hu⟩ := S.there ⟨_, hy'⟩
      have z' : b.H a = none := z
      rw [hu] at z'
      cases z'
    · obtain ⟨n, z⟩ := top_own z
      cases S.ap _ _ a hy' z
  | m n => exact k2 ⟨.m n, hy⟩
theorem call_sp {ds : List D} {vs : List V} {F : FV} {Q : VK} {E : XK} (S : Sat w b σ e) (g0 : Gr s b0 b) (z : FzL w b.G ds vs) (h : PR w W s σ b (callF F ds e) fun d b' _ => ∀ v, Tmp w b0 b' d v → Q v b'.H) : spF w F vs b.H Q E := by
  refine ⟨b.top, e.mu, ds, rfl, S.top, z, ?_⟩
  unfold callF at h
  cases hf : F e.mu ds with
  | ok d mu' =>
    rw [hf] at h
    exact fun v b' g S' t => h (b.aft b') (aft_gr g) (S.aft g S') v ((Tmp.aft S t).back g0)
  | exc c x mu' =>
    rw [hf] at h
    exact h.elim
  | stuck => rw [hf] at h; exact h.elim
end
section
variable {X : Cx} {W : Wx} {s : Bool} {w : Wd} {pos p apos : Pos} {x m : Str} {a o : Expr} {es : List Expr} {F : FV} {ar : LM} {f : Addr} {fd : FuncData} {ps : List Str} {k : Nat}
theorem tcall_v {σ : L2.St} {H : Hp} {Q : VK} (h : tV w W s (eCall F ar) σ H Q) : tCall (spF w F) [] E0 (tA w W s ar) σ H Q := by
  obtain ⟨b, e, rfl, S, h⟩ := h
  refine ⟨b, e, rfl, S, (PR.bind h).mono fun ds b1 e1 g1 S1 h1 vs zs => ?_⟩
  show spF w F (vs ++ []) b1.H Q E0
  rw [List.append_nil]
  exact call_sp S1 g1 zs h1
theorem u65 {A : Around} {k : Nat} (r : Room k A) : A.units + 65 < cLine := by
  have := r.un
  omega
structure Fn (P : Program) (w : World) (K : PySem.W.Frag) (mg : Str → Option Value) (base : Heap) (k : Nat) (x : Str) (sp : Sp) : Prop where
  ex : ∃ (f : Addr) (fd : FuncData) (ps : List Str), FnOk P w K mg base CX0 k f fd ps sp ∧ mg x = some (.ref f) ∧ PySem.W.keepIn K (.ref f) = true ∧ Binds K fd ps []
theorem vCall (F0 : Fn X.prog X.w X.K X.mg X.base k x (spF w F)) (hr : Room k X.A) (ha : PA X (a :: es) (tA w W s ar)) (hg : Gl X x := by rfl) (hdb : (x == ("__debug__" : Str)) = false := by decide)
    (he : starEach (a :: es) X.env = (false, eval a X.env) :: starEach es X.env := by rfl) (hpl : (backTo pos (starEach es X.env)).any (·.1) = false := by rfl) : PE X (.Call (.Name x p) (a :: es) [] pos) (tV w W s (eCall F ar)) := by
  obtain ⟨f, fd, ps, h1, h2, h3, h4⟩ := F0.ex
  exact (pe_call h1 hr hg h2 h3 h4 .nil pass0 ha hdb he hpl).imp fun _ _ _ h => tcall_v h
end
def eFld (c j : Nat) (f : EM) : EM := fun e => (f e).bind fun d e1 => match d with
  | .ins c' ds => if c' = c then lift ds[j]? e1 else .stuck
  | _ => .stuck
theorem lookup_zip {f : Str} {v : V} : ∀ {fs : List Str} {vs : List V} {j : Nat}, fs.Nodup → fs[j]? = some f → vs[j]? = some v → (fs.zip vs).lookup f = some v
  | [], vs, j, _, h, _ => by simp at h
  | g :: fs, [], j, _, _, h => by simp at h
  | g :: fs, u :: vs, j, nd, h1, h2 => by
    obtain ⟨n1, n2⟩ := List.nodup_cons.mp nd
    cases j with
    | zero =>
      simp at h1 h2
      subst h1 h2
      simp [List.lookup_cons]
    | succ j =>
      have hm : f ∈ fs := List.mem_of_getElem? (by simpa using h1)
      have ne : (f == g) = false := by
        apply beq_eq_false_iff_ne.mpr
        intro e
        exact n1 (e ▸ hm)
      rw [List.zip_cons_cons, List.lookup_cons, ne]
      exact lookup_zip n2 (by simpa using h1) (by simpa using h2)
theorem lookup_zip_none {f : Str} : ∀ {fs : List Str} {vs : List V}, f ∉ fs → (fs.zip vs).lookup f = none
  | [], vs, _ => rfl
  | g :: fs, [], _ => rfl
  | g :: fs, u :: vs, h => by
    have ne : (f == g) = false := beq_eq_false_iff_ne.mpr fun e => h (by rw [e]; exact List.mem_cons_self ..)
    rw [List.zip_cons_cons, List.lookup_cons, ne]
    exact lookup_zip_none fun z => h (List.mem_cons_of_mem _ z)
section
variable {X : Cx} {W : Wx} {s : Bool} {w : Wd} {pos p apos : Pos} {x c : Expr} {es : List Expr} {f : EM}
theorem zFld (c j : Nat) {fn : Str} (o : Okx w X) (cl : Cls w.K (w.cls c)) (na : NoAttr w.K (w.cls c) fn) (nd : (w.flds c).Nodup) (h : PE X x (tZ w W s f)) (hf : (w.flds c)[j]? = some fn := by rfl) (hb : attributeBase x fn X.env (eval x X.env) = eval x X.env := by rfl) :
    PE X (.Attribute x fn pos) (tZ w W s (eFld c j f)) := (pe_fld h hb).imp fun σ H Q ⟨b, e, he, S, h⟩ => by
  subst he
  refine ⟨b, e, rfl, S, (PR.bind h).mono fun d b1 e1 g1 S1 h1 v z => ?_⟩
  cases d <;> try exact h1.elim
  rename_i c' ds
  have h5 : PR w W s σ b1 (if c' = c then lift ds[j]? e1 else .stuck) fun d b' _ => ∀ v, Fz w b'.G d v → Q v b'.H := h1
  split at h5
  · rename_i hc
    subst hc
    obtain ⟨t, ht, R⟩ := PR.ret h5
    obtain ⟨a, dx, vs, rfl, k1, k2, k3⟩ := fz_ins.mp z
    obtain ⟨u, hu, zu⟩ := k3.get ht
    refine ⟨a, w.cls c', dx, _, u, rfl, S1.ex _ _ k1, ?_, ?_, lookup_zip nd hf hu, R.now S1 zu⟩
    · rw [o.K]; exact cl
    · rw [o.K]; exact na
  · exact h5.elim
structure Mt (P : Program) (w : World) (K : PySem.W.Frag) (mg : Str → Option Value) (base : Heap) (k : Nat) (C : Addr) (m : Str) (sp : Sp) : Prop where
  ex : ∃ (f : Addr) (fd : FuncData) (ps : List Str), Cls K C ∧ Meth K C m f ∧ FnOk P w K mg base CX0 k f fd ps sp ∧ Binds K fd ps []
def eMeth (c : Nat) (F : FV) (fo : EM) (ar : LM) : EM := fun e => (fo e).bind fun d e1 => match d with
  | .ins c' ds => if c' = c then (ar e1).bind fun as e2 => callF F (.ins c' ds :: as) e2 else .stuck
  | _ => .stuck
section
variable {F : FV} {ar : LM} {m : Str} {k : Nat} {a ob : Expr} {fo : EM} {c : Nat}
end
end
structure Def1 (K : PySem.W.Frag) (mg : Str → Option Value) (x qual : Str) (st : Stmt) : Prop where
  ex : ∃ f fd, mg x = some (.ref f) ∧ FunD K x qual (defArgs st) (defBody st) (defScope st) [] [] f fd
theorem Def1.fn {P : Program} {w : World} {K : PySem.W.Frag} {mg : Str → Option Value} {base : Heap} {x qual : Str} {st : Stmt} {k : Nat} {sp : Sp} {ps : List Str} (D : Def1 K mg x qual st) (hb : ∀ f fd, FunD K x qual (defArgs st) (defBody st) (defScope st) [] [] f fd → Binds K fd ps [])
    (h : ∀ f fd, FunD K x qual (defArgs st) (defBody st) (defScope st) [] [] f fd → FnOk P w K mg base CX0 k f fd ps sp) : Fn P w K mg base k x sp := by
  obtain ⟨f, fd, h1, h2⟩ := D.ex
  exact ⟨f, fd, ps, h f fd h2, h1, h2.kp, hb f fd h2⟩
structure IntC (mg : Str → Option Value) (x : Str) (i : Int) : Prop where
  ex : ∃ t, mg x = some (.int i t)
structure StrC (mg : Str → Option Value) (x : Str) (i : Str) : Prop where
  ex : ∃ t, mg x = some (.str i t)
structure Met1 (K : PySem.W.Frag) (C : Addr) (x qual : Str) (st : Stmt) : Prop where
  ex : ∃ f fd, Cls K C ∧ Meth K C x f ∧ FunD K x qual (defArgs st) (defBody st) (defScope st) [] [] f fd
theorem Met1.fn {P : Program} {w : World} {K : PySem.W.Frag} {mg : Str → Option Value} {base : Heap} {C : Addr} {x qual : Str} {st : Stmt} {k : Nat} {sp : Sp} {ps : List Str} (D : Met1 K C x qual st) (hb : ∀ f fd, FunD K x qual (defArgs st) (defBody st) (defScope st) [] [] f fd → Binds K fd ps [])
    (h : ∀ f fd, FunD K x qual (defArgs st) (defBody st) (defScope st) [] [] f fd → FnOk P w K mg base CX0 k f fd ps sp) : Mt P w K mg base k C x sp := by
  obtain ⟨f, fd, h1, h2, h3⟩ := D.ex
  exact ⟨f, fd, ps, h1, h2, h f fd h3, hb f fd h3⟩
end Vm

set_option maxHeartbeats 1000000
namespace Vm
open PySem L2
def CPowW (i j : Int) : Prop := 0 ≤ j ∧ (Builtin.Int.intBits i : Int) * j ≤ 2 ^ 27
theorem op_powW {X : Cx} : OpR X (binaryOp .Pow) (rI CPowW fun i j => .int (i ^ j.toNat)) := opI fun _ _ _ _ _ _ _ hc q => PyProof.Rows.pow_int hc.1 hc.2 q
def gPow (i j : Int) : Option Int := if 0 ≤ j ∧ (Builtin.Int.intBits i : Int) * j ≤ 2 ^ 27 then some (i ^ j.toNat) else none
def dPow := dInt gPow
theorem ob_pow {w : Wd} : OpB w (rI CPowW fun i j => .int (i ^ j.toNat)) dPow := ob_int fun i j k h => by
  unfold gPow at h
  split at h
  · cases h
    exact ⟨by assumption, rfl⟩
  · cases h
def dBitLen : D → Option D
  | .int i => some (.int (Builtin.Int.intBits i : Nat))
  | _ => none
section
variable {X : Cx} {W : Wx} {s : Bool} {w : Wd} {pos p apos : Pos} {x c : Expr} {es : List Expr} {f fa fb : EM}
theorem zBitLen (o : Okx w X) (h : PE X x (tZ w W s f)) (hbase : attributeBase x "bit_length" X.env (eval x X.env) = eval x X.env := by rfl) (hline : (apos.endLine == pos.line) = true := by rfl) : PE X (.Call (.Attribute x "bit_length" apos) [] [] pos) (tZ w W s (un dBitLen f)) := (pe_bits h hbase hline).imp fun σ H Q ⟨b, e, he, S, h⟩ => by
  subst he
  refine ⟨b, e, rfl, S, (PR.bind h).mono fun x b1 e1 g1 S1 h1 vx zx => ?_⟩
  obtain ⟨d, hd, R⟩ := PR.ret h1
  cases x <;> try cases hd
  cases fz_int.mp zx
  exact ⟨_, rfl, R.now S1 (fz_int.mpr rfl)⟩
def eStar2 (fa fb : EM) : EM := fun e => (fa e).bind fun x e1 => (fb e1).bind fun y e2 => match fitems? y with
  | some ys => lift (mkTup (x :: ys)) e2
  | none => .stuck
def firstEq (x : D) : List D → Nat → Option Nat
  | [], _ => none
  | y :: ys, n => if deq y x = true then some n else firstEq x ys (n + 1)
end
theorem firstEq_spec {x : D} : ∀ {ys : List D} {n j : Nat}, firstEq x ys n = some j → ∃ m, j = n + m ∧ (∃ y, ys[m]? = some y ∧ deq y x = true) ∧ ∀ k y, k < m → ys[k]? = some y → deq y x = false
  | [], n, j, h => by cases h
  | y :: ys, n, j, h => by
    unfold firstEq at h
    split at h
    · rename_i hy
      cases h
      exact ⟨0, rfl, ⟨y, rfl, hy⟩, fun k _ hk => absurd hk (Nat.not_lt_zero _)⟩
    · rename_i hy
      obtain ⟨m, rfl, ⟨z, h1, h2⟩, h3⟩ := firstEq_spec h
      refine ⟨m + 1, by omega, ⟨z, by simpa using h1, h2⟩, fun k u hk hu => ?_⟩
      cases k with
      | zero =>
        simp at hu
        subst hu
        simpa using hy
      | succ k => exact h3 k u (by omega) (by simpa using hu)
def strs? : List D → Option (List Str)
  | [] => some []
  | .str x :: r => (strs? r).map (x :: ·)
  | _ :: _ => none
theorem fzl_strs {w : Wd} {G : Gs} : ∀ {ds : List D} {vs : List V} {ns : List Str}, FzL w G ds vs → strs? ds = some ns → vs = ns.map V.str ∧ ds = ns.map D.str
  | [], vs, ns, h, e => by
    cases fzl_nil.mp h
    cases e
    exact ⟨rfl, rfl⟩
  | d :: ds, vs, ns, h, e => by
    obtain ⟨v, r, rfl, h1, h2⟩ := fzl_cons.mp h
    cases d <;> try cases e
    obtain ⟨ms, hm, rfl⟩ := Option.map_eq_some_iff.mp (show (strs? ds).map _ = some ns from e)
    obtain ⟨rfl, _⟩ := fz_str.mp h1
    obtain ⟨k1, k2⟩ := fzl_strs h2 hm
    rw [k1, k2]
    exact ⟨rfl, rfl⟩
theorem deq_str (a b : Str) : deq (.str a) (.str b) = decide (a = b) := by
  unfold deq
  simp only [pd, PyData.eqv]
  by_cases h : a = b
  · simp [h]
  · simp [h]
def binG (ok : D → Bool) (g : D → D → Option D) (fa fb : EM) : EM := fun e => (fa e).bind fun x e1 => if ok x = true then (fb e1).bind fun y e2 => lift (g x y) e2 else .stuck
def isTux : D → Bool
  | .tux _ => true
  | _ => false
def isLst : D → Bool
  | .lst _ => true
  | _ => false
def dIndexT : D → D → Option D
  | .tux ds, .str z => match strs? ds with
    | some _ => (firstEq (.str z) ds 0).map fun j => .int (j : Nat)
    | none => none
  | _, _ => none
def dIndexL : D → D → Option D
  | .lst ds, .str z => match strs? ds with
    | some _ => (firstEq (.str z) ds 0).map fun j => .int (j : Nat)
    | none => none
  | _, _ => none
section
variable {X : Cx} {W : Wx} {s : Bool} {w : Wd} {pos p apos : Pos} {x c : Expr} {es : List Expr} {f fa fb : EM}
def tBMx (T : String) (K : PySem.W.Frag) (r : V → List V → Hp → VK → Prop) (to : TE) (t : TA) : TE := fun σ H Q => to σ H fun x H1 => (tyV K T x H1 ∨ (T = "tuple" ∧ ∃ a o vs, x = .ref a ∧ H1 a = some (.frz o (.tup vs)) ∧ o.dict = none)) ∧ t σ H1 fun xs H2 => r x xs H2 Q
theorem firstEq_strs {z : Str} {ns : List Str} {j : Nat} (h : firstEq (.str z) (ns.map D.str) 0 = some j) : ns[j]? = some z ∧ ∀ m, m < j → ns[m]? ≠ some z := by
  obtain ⟨m, e, ⟨y, h1, h2⟩, h3⟩ := firstEq_spec h
  have e : j = m := by omega
  subst e
  rw [List.getElem?_map] at h1
  obtain ⟨u, h4, rfl⟩ := Option.map_eq_some_iff.mp h1
  rw [deq_str] at h2
  have := of_decide_eq_true h2
  subst this
  refine ⟨h4, fun m hm q => ?_⟩
  have := h3 m (.str u) hm (by rw [List.getElem?_map, q]; rfl)
  rw [deq_str, decide_eq_true rfl] at this
  cases this
end
def eLstRg (f : EM) : EM := fun e => (f e).bind fun d e1 => match d with
  | .int n => if 0 ≤ n ∧ n ≤ 1000000 then .ok (.olst (rngD n)) e1 else .stuck
  | _ => .stuck
section
variable {X : Cx} {W : Wx} {s : Bool} {w : Wd} {pos p p2 pos2 : Pos} {x : Expr} {f : EM}
end
end Vm

set_option maxHeartbeats 1000000
namespace Vm
section
open PySem L2 PySem.Spec PyProof.Rows
theorem tuple_mul1 (l : Addr) (items : Array Value) (n : Nat) (dd : Option Addr) (sl : Array (Option Value)) (u : Tok) :
    Meets (Builtin.«tuple.__mul__» ⟨[.ref l, .int 1 u], []⟩) (fun _ R s => s.heap.get? l = some { cls := .type "tuple", dict := dd, data := .seq items n, slots := sl } ∧
      R (.ok (.ret (Value.ref l))) s) :=
  .of_wp fun prog w A R s h => by
    obtain ⟨hp, g, d, tk, os⟩ := s
    obtain ⟨hl, h⟩ := h
    have f1 := AutoSeq1.idx_int
    wp_walk using wpAny_loadPart' hl
    exact ⟨_, rfl, h⟩
def rRep1 (K : PySem.W.Frag) : R2 := fun x y H Q => ∃ l xs, x = .ref l ∧ y = .int 1 ∧ SqT K H l xs ∧ Q (.ref l) H
theorem op_rep1 {X : Cx} : OpR X (binaryOp .Mult) (rRep1 X.K) := by
  intro pins s σ H x y v u Q I rx ry h
  obtain ⟨l, xs, rfl, rfl, hT, q⟩ := h
  cases rx
  obtain ⟨t, rfl⟩ := ry
  obtain ⟨its, r, ⟨⟨cls, dd, data, sl⟩, ho, hc, n, hd⟩, hs⟩ := I.tuple hT
  simp only at hc hd
  subst hc hd
  refine wpAny_binaryOp_repeat_ref (T := "tuple") (U := "int") (by decide) ⟨_, ho, rfl⟩ (fun s' => typeIs_int s' 1 t) noFill_tuple_mul F.fills_int_mul F.slot_int_rmul repeat_tuple F.slot_int_index.lookup
    (call_meets F.slot_int_rmul (typeIs_int s 1 t) F.entry_int_rmul (F.args_int_rmul_2 _ _) (int_rmul_tuple 1 t l its.toArray n dd sl)
      ⟨ho, rfl, ⟨_, ho, rfl⟩, call_meets F.slot_tuple_mul ⟨_, ho, rfl⟩ F.entry_tuple_mul (F.args_tuple_mul_2 _ _) (tuple_mul1 l its.toArray n dd sl t) ⟨ho, ?_⟩⟩)
  exact ⟨.ref l, H, I, rfl, q⟩
def dRepT : D → D → Option D
  | .tup xs, .int k => if k = 1 then some (.tup xs) else if 2 ≤ k ∧ k ≤ 1000 ∧ xs.length ≤ 1000 ∧ xs.length ≠ 0 then some (.tup (List.replicate k.toNat xs).flatten) else none
  | _, _ => none
def rRepA (K : PySem.W.Frag) : R2 := fun x y H Q => rRep1 K x y H Q ∨ rRepT K x y H Q
theorem r_repT {w : Wd} {X : Cx} (o : Okx w X) : OpR X (binaryOp .Mult) (rRepA w.K) := by
  rw [← o.K]
  exact op_rep1.or op_repT
theorem ob_repT {w : Wd} : OpB w (rRepA w.K) dRepT := by
  intro s σ b e x y d vx vy Q S zx zy hg R
  cases x <;> try cases hg
  cases y <;> try cases hg
  rename_i xs k
  have hg' : (if k = 1 then some (D.tup xs) else if 2 ≤ k ∧ k ≤ 1000 ∧ xs.length ≤ 1000 ∧ xs.length ≠ 0 then some (.tup (List.replicate k.toNat xs).flatten) else none) = some d := hg
  obtain ⟨a, vs, rfl, h1, h2, h3⟩ := zx.tup
  cases zy.int
  split at hg'
  · rename_i hk
    cases hg'
    subst hk
    exact .inl ⟨a, vs, rfl, rfl, SqT.of (S.ex _ _ h1), R.now S (fz_tup.mpr ⟨a, vs, rfl, h1, h2, h3⟩)⟩
  · split at hg'
    · rename_i hk
      cases hg'
      refine .inr ⟨a, k, vs, rfl, rfl, SqT.of (S.ex _ _ h1), fun z => hk.2.2.2 (by rw [← h3.length, z]; rfl), hk.1, hk.2.1, by rw [h3.length]; exact hk.2.2.1, fun p hp => R.tup S hp (lim_size (rep_le (by omega) hk.2.2.1)) (h3.rep _)⟩
    · cases hg'
end
open PySem L2
def tyN : D → Option String
  | .non => some "NoneType"
  | .bl _ => some "bool"
  | .int _ => some "int"
  | .str _ => some "str"
  | .tup _ => some "tuple"
  | .tux _ => some "tuple"
  | .lst _ => some "list"
  | .olst _ => some "list"
  | _ => none
def dIsi (T : String) : D → Option D := fun d => (tyN d).bind fun t => (kitB t T).map D.bl
theorem br_tyX {w : Wd} {b : Bs} {σ : St} {e : En} {d : D} {v : V} {t : String} (S : Sat w b σ e) (z : Br w b d v) (h : tyN d = some t) (hn : t ≠ "NoneType") : TyX w.K b.H v (.type t) := by
  cases d <;> try cases h
  · exact absurd rfl hn
  · cases z.bl
    exact .base (.bl _)
  · cases z.int
    exact .base (.int _)
  · obtain ⟨rfl, _⟩ := z.str
    exact .base (.str _)
  · obtain ⟨a, vs, rfl, h1, _, _⟩ := z.tup
    exact .base (.tup (S.ex _ _ h1))
  · obtain ⟨a, o, vs, rfl, h1, _⟩ := z.tux
    exact .fTuple (S.ex _ _ h1)
  · obtain ⟨a, vs, rfl, h1, _⟩ := z.lst S
    exact .base (.lst h1)
  · obtain ⟨a, vs, l, rfl, h1, _⟩ := z.olst
    exact .base (.lst h1)
def dIsiN (T : String) : D → Option D := fun d => match d with
  | .non => some (.bl false)
  | d => dIsi T d
theorem zIsi {X : Cx} {W : Wx} {s : Bool} {w : Wd} {pos p p2 : Pos} {x : Str} {a : Expr} {fa : EM} (T : String) (o : Okx w X) (hg : Gl X "isinstance") (hm : X.mg "isinstance" = none) (hg2 : Gl X x) (hm2 : X.mg x = none) (hv : bootBuiltins x = some (.type T)) (hT : kitB "NoneType" T = some false)
    (ha : PE X a (tB w W s fa)) (hn : x ≠ "__name__" := by decide) (hdb : (x == ("__debug__" : Str)) = false := by decide) (hs : starEach [a, .Name x p2] X.env = (false, eval a X.env) :: starEach [.Name x p2] X.env := by rfl)
    (hs2 : starEach [.Name x p2] X.env = (false, eval (.Name x p2) X.env) :: starEach [] X.env := by rfl) (hpl : (backTo pos (starEach [.Name x p2] X.env)).any (·.1) = false := by rfl) :
    PE X (.Call (.Name "isinstance" p) [a, .Name x p2] [] pos) (tZ w W s (un (dIsiN T) fa)) :=
  (pe_callB call_isi hg hm PyProof.Rows.boot_isinstance (pa_cons ha (pa_cons (pe_bltn (v := .ty T) hg2 hm2 hv rfl hn hdb) pa_nil hs2) hs) (by decide) (by decide) hs hpl).imp fun σ H Q ⟨b, e, he, S, h⟩ => by
  subst he
  refine ⟨b, e, rfl, S, (PR.bind h).mono fun d b1 e1 g1 S1 h1 v z => ?_⟩
  obtain ⟨t, ht, R⟩ := PR.ret h1
  have fin : ∀ (tn : String) (k : Bool), kitB tn T = some k → TyX w.K b1.H v (.type tn) → t = .bl k → rIsi X.K [v, .ty T] b1.H Q := fun tn k h2 h3 h4 => by
    rw [h4] at R
    rw [o.K]
    exact ⟨v, .ty T, .type tn, .type T, k, rfl, .ty T, h3, kit_ty h2, R.now S1 (fz_bl.mpr rfl)⟩
  have go : ∀ tn, tyN d = some tn → tn ≠ "NoneType" → dIsi T d = some t → rIsi X.K [v, .ty T] b1.H Q := fun tn h2 h3 h4 => by
    unfold dIsi at h4
    rw [h2] at h4
    obtain ⟨k, h5, h6⟩ := Option.map_eq_some_iff.mp (show (kitB tn T).map D.bl = some t from h4)
    exact fin tn k h5 (br_tyX S1 z h2 h3) h6.symm
  cases d
  case non =>
    cases ht
    rw [z.non] at fin ⊢
    exact fin "NoneType" false hT (.base .non) rfl
  case bl => exact go _ rfl (by decide) ht
  case int => exact go _ rfl (by decide) ht
  case str => exact go _ rfl (by decide) ht
  case tup => exact go _ rfl (by decide) ht
  case tux => exact go _ rfl (by decide) ht
  case lst => exact go _ rfl (by decide) ht
  case olst => exact go _ rfl (by decide) ht
  all_goals cases ht
end Vm

set_option maxHeartbeats 1000000
namespace Vm
open PySem L2
def TmpL (w : Wd) (b0 b : Bs) (ds : List D) (vs : List V) : Prop := ∃ l, OwnL w b.G b.H ds vs l ∧ l.Nodup ∧ ∀ a ∈ l, b.G.F a = none ∧ ¬ b.own a ∧ (b0.H a = none ∨ b0.own a)
section
variable {w : Wd} {b0 b b1 : Bs} {d : D} {v : V} {ds : List D} {vs : List V} {s : Bool}
theorem TmpL.nil : TmpL w b0 b [] [] := ⟨[], ownl_nil.mpr ⟨rfl, rfl⟩, List.nodup_nil, fun a ha => nomatch ha⟩
theorem TmpL.len (h : TmpL w b0 b ds vs) : vs.length = ds.length := let ⟨_, h1, _⟩ := h; h1.length
theorem TmpL.back (g : Gr s b0 b1) (h : TmpL w b1 b ds vs) : TmpL w b0 b ds vs := by
  obtain ⟨l, h1, h2, h3⟩ := h
  refine ⟨l, h1, h2, fun a ha => ?_⟩
  obtain ⟨k1, k2, k3⟩ := h3 a ha
  exact ⟨k1, k2, k3.elim (fun z => .inl (g.h a z)) fun z => (g.p a z).symm⟩
theorem TmpL.stay (g : Gr s b b1) (h : TmpL w b0 b ds vs) : TmpL w b0 b1 ds vs := by
  obtain ⟨l, h1, h2, h3⟩ := h
  refine ⟨l, h1.keep g.g fun a ha u hu => g.k a u hu (keeps_no (h3 a ha).2.1), h2, fun a ha => ?_⟩
  obtain ⟨k1, k2, k3⟩ := h3 a ha
  obtain ⟨u, hu⟩ := h1.there a ha
  refine ⟨?_, fun z => (g.p a z).elim k2 fun z => (by rw [hu] at z; cases z), k3⟩
  cases q : b1.G.F a with
  | none => rfl
  | some u' =>
    rcases g.n a (by rw [q]; intro z; cases z) with z | z | z
    · exact absurd k1 z
    · exact absurd z k2
    · rw [hu] at z; cases z
theorem TmpL.cons (g : Gr s b0 b1) (t : Tmp w b0 b1 d v) (g2 : Gr s b1 b) (h : TmpL w b1 b ds vs) : TmpL w b0 b (d :: ds) (v :: vs) := by
  obtain ⟨l1, t1, t2, t3⟩ := t
  have tl : TmpL w b0 b1 [d] [v] := ⟨l1, ownl_cons.mpr ⟨v, [], l1, [], rfl, t1, ownl_nil.mpr ⟨rfl, rfl⟩, (List.append_nil _).symm⟩, t2, t3⟩
  obtain ⟨l2, h1, h2, h3⟩ := h
  have own1 : Own w b.G b.H d v l1 := t1.keep g2.g fun a ha u hu => g2.k a u hu (keeps_no (t3 a ha).2.1)
  have no : ∀ a ∈ l1, b.G.F a = none ∧ ¬ b.own a := fun a ha => by
    obtain ⟨k1, k2, _⟩ := t3 a ha
    obtain ⟨u, hu⟩ := t1.there a ha
    refine ⟨?_, fun z => (g2.p a z).elim k2 fun z => by rw [hu] at z; cases z⟩
    cases q : b.G.F a with
    | none => rfl
    | some u' =>
      rcases g2.n a (by rw [q]; intro z; cases z) with z | z | z
      · exact absurd k1 z
      · exact absurd z k2
      · rw [hu] at z; cases z
  refine ⟨l1 ++ l2, ownl_cons.mpr ⟨v, vs, l1, l2, rfl, own1, h1, rfl⟩, List.nodup_append.mpr ⟨t2, h2, fun a ha c hc q => ?_⟩, fun a ha => ?_⟩
  · subst q
    obtain ⟨u, hu⟩ := t1.there a ha
    rcases (h3 a hc).2.2 with z | z
    · rw [hu] at z; cases z
    · exact (t3 a ha).2.1 z
  · rcases List.mem_append.mp ha with ha | ha
    · exact ⟨(no a ha).1, (no a ha).2, (t3 a ha).2.2⟩
    · obtain ⟨k1, k2, k3⟩ := h3 a ha
      exact ⟨k1, k2, k3.elim (fun z => .inl (g.h a z)) fun z => (g.p a z).symm⟩
end
def tL (w : Wd) (W : Wx) (s : Bool) (f : LM) : TA := fun σ H Q => ∃ b e, H = b.H ∧ Sat w b σ e ∧ PR w W s σ b (f e) fun ds b' _ => ∀ vs, TmpL w b b' ds vs → Q vs b'.H
section
variable {X : Cx} {W : Wx} {s : Bool} {w : Wd} {pos : Pos} {x : Expr} {es : List Expr} {f : EM} {g : LM}
end

abbrev Mx := Nat × EM
def mxEv : List Mx → LM
  | [], e => .ok [] e
  | m :: r, e => (m.2 e).bind fun d e1 => (mxEv r e1).bind fun ds e2 => .ok (d :: ds) e2
def mxSet : List Mx → List D → En → Option En
  | [], [], e => some e
  | m :: r, d :: ds, e => mxSet r ds ⟨e.sl.set m.1 (some d), e.mu⟩
  | _, _, _ => none
def sMix (ms : List Mx) : SM := fun e => ofE (mxEv ms e) fun ds e1 => if ds.length ≤ LIM then nxO (mxSet ms ds e1) else .stuck
def mxσ : List Mx → List V → St → St
  | m :: r, v :: vs, σ => mxσ r vs (σ.set m.1 (some v))
  | _, _, σ => σ
section
variable {w : Wd} {b0 : Bs}
theorem mx_sets : ∀ {ms : List Mx} {ds : List D} {vs : List V} {b : Bs} {σ : St} {e e' : En}, (∀ m ∈ ms, m.1 < σ.length) → Gr false b0 b → Sat w b σ e → TmpL w b0 b ds vs → mxSet ms ds e = some e' → ∃ b', b'.H = b.H ∧ Gr false b0 b' ∧ Sat w b' (mxσ ms vs σ) e'
  | [], [], vs, b, σ, e, e', _, g, S, h, hs => by
    cases hs
    have : vs = [] := List.eq_nil_of_length_eq_zero (by rw [h.len]; rfl)
    subst this
    exact ⟨b, rfl, g, S⟩
  | [], _ :: _, _, _, _, _, _, _, _, _, _, hs => by cases hs
  | _ :: _, [], _, _, _, _, _, _, _, _, _, hs => by cases hs
  | m :: ms, d :: ds, vs, b, σ, e, e', hm, g, S, h, hs => by
    obtain ⟨l, h1, h2, h3⟩ := h
    obtain ⟨v, r, l1, l2, rfl, k1, k2, rfl⟩ := ownl_cons.mp h1
    obtain ⟨n1, n2, n3⟩ := List.nodup_append.mp h2
    have hi : m.1 < σ.length := hm m (List.mem_cons_self ..)
    have := S.hold (σ' := σ.set m.1 (some v)) (x := .s m.1) (H' := b.H) (l := l1) g (by show m.1 < e.sl.length; rw [S.le]; exact hi) (fun a u h _ => h) (fun a h => h) k1 n1 (fun a ha => ⟨(h3 a (List.mem_append_left _ ha)).1, .inr (h3 a (List.mem_append_left _ ha)).2⟩)
      (by show ((σ.set m.1 (some v))[m.1]?).getD none = some v; rw [List.getElem?_set_self hi]; rfl)
      (fun y hy => by
        cases y with
        | s j =>
          have : m.1 ≠ j := fun z => hy (by rw [z])
          show ((σ.set m.1 (some v))[j]?).getD none = (σ[j]?).getD none
          rw [List.getElem?_set_ne this]
        | m n => rfl) (by rw [List.length_set])
    obtain ⟨g1, S1⟩ := this
    have rest : TmpL w b0 (b.give b.H (.s m.1) l1) ds r := ⟨l2, k2, n2, fun a ha => by
      obtain ⟨q1, q2, q3⟩ := h3 a (List.mem_append_right _ ha)
      refine ⟨q1, fun ⟨y, hy⟩ => ?_, q3⟩
      by_cases hyx : y = .s m.1
      · subst hyx
        rw [give_same] at hy
        exact n3 a hy a ha rfl
      · rw [give_ne hyx] at hy
        exact q2 ⟨y, hy⟩⟩
    obtain ⟨b', p1, p2, p3⟩ := mx_sets (ms := ms) (fun m' hm' => by rw [List.length_set]; exact hm m' (List.mem_cons_of_mem _ hm')) g1 S1 rest (show mxSet ms ds ⟨e.sl.set m.1 (some d), e.mu⟩ = some e' from hs)
    exact ⟨b', p1, p2, p3⟩
end
def tGm (w : Wd) (ms : List Mx) : TGs := fun vs σ H Q => ∃ b0 b e ds e', H = b.H ∧ Gr false b0 b ∧ Sat w b σ e ∧ TmpL w b0 b ds vs ∧ mxSet ms ds e = some e' ∧ ∀ b' σ', b'.H = b.H → Gr false b0 b' → Sat w b' σ' e' → Q σ' b.H
def tMx (w : Wd) (W : Wx) (ms : List Mx) : TA := tL w W false (mxEv ms)
structure Mix (X : Cx) (w : Wd) (W : Wx) (ts es : List Expr) (ms : List Mx) : Prop where
  a : PA X es (tMx w W ms)
  g : PGs X ts (tGm w ms)
theorem _root_.L2.PGs.len {X : Cx} {e : List Expr} {t : TGs} (h : PGs X e t) : PGs X e fun v σ H Q => σ.length = X.N.length → t v σ H Q := ⟨fun pins s σ H v u Q I r q => h.run pins s σ H v u Q I r (q I.len)⟩
section
variable {X : Cx} {W : Wx} {w : Wd} {pos tp : Pos} {x : Expr} {ts es : List Expr} {ms : List Mx} {f : EM}
theorem zmNil : Mix X w W [] [] [] where
  a := pa_nil.imp fun σ H Q ⟨b, e, he, S, h⟩ => by
    subst he
    exact h b (Gr.refl b) S [] .nil
  g := pgs_nil.imp fun vs σ H Q ⟨b0, b, e, ds, e', he, g, S, h, hs, q⟩ => by
    subst he
    cases ds with
    | nil =>
      cases hs
      exact ⟨List.eq_nil_of_length_eq_zero (by rw [h.len]; rfl), q b σ rfl g S⟩
    | cons _ _ => cases hs
theorem zmV (i : Nat) {y : Str} (hN : X.N.Nodup) (hx : PE X x (tV w W false f)) (r : Mix X w W ts es ms) (hi : X.N[i]? = some y := by rfl) (hl : Loc X.env.scope y := by first | exact Or.inl rfl | exact Or.inr rfl)
    (hf : X.fn y = true ∨ X.env.scope.names.lookup y = some .local := by first | exact .inl rfl | exact .inr rfl | assumption) (hs : starEach (x :: es) X.env = (false, eval x X.env) :: starEach es X.env := by rfl)
    (hs2 : (assignEach (.Name y tp :: ts) X.env).map (·.2) = assign (.Name y tp) X.env :: (assignEach ts X.env).map (·.2) := by rfl) : Mix X w W (.Name y tp :: ts) (x :: es) ((i, f) :: ms) where
  a := (pa_cons hx r.a hs).imp fun σ H Q ⟨b, e, he, S, h⟩ => by
    subst he
    refine ⟨b, e, rfl, S, (PR.bind h).mono fun d b1 e1 g1 S1 h1 v t => ⟨b1, e1, rfl, S1, (PR.bind h1).mono fun ds b2 e2 g2 S2 h2 vs zs => ?_⟩⟩
    exact h2 b2 (Gr.refl b2) S2 (v :: vs) (TmpL.cons g1 t g2 zs)
  g := (pgs_cons (pg_name hN hi hl hf) r.g hs2).len.imp fun vs σ H Q ⟨b0, b, e, ds, e', he, g, S, h, hs, q⟩ hlen => by
    subst he
    cases ds with
    | nil => cases hs
    | cons d ds =>
      obtain ⟨l, h1, h2, h3⟩ := h
      obtain ⟨v, r, l1, l2, rfl, k1, k2, rfl⟩ := ownl_cons.mp h1
      obtain ⟨n1, n2, n3⟩ := List.nodup_append.mp h2
      have hil : i < σ.length := by rw [hlen]; exact (List.getElem?_eq_some_iff.mp hi).1
      obtain ⟨g1, S1⟩ := S.hold (σ' := σ.set i (some v)) (x := .s i) (H' := b.H) (l := l1) g (by show i < e.sl.length; rw [S.le]; exact hil) (fun a u h _ => h) (fun a h => h) k1 n1 (fun a ha => ⟨(h3 a (List.mem_append_left _ ha)).1, .inr (h3 a (List.mem_append_left _ ha)).2⟩)
        (by show ((σ.set i (some v))[i]?).getD none = some v; rw [List.getElem?_set_self hil]; rfl)
        (fun y hy => by
          cases y with
          | s j =>
            have : i ≠ j := fun z => hy (by rw [z])
            show ((σ.set i (some v))[j]?).getD none = (σ[j]?).getD none
            rw [List.getElem?_set_ne this]
          | m n => rfl) (by rw [List.length_set])
      have rest : TmpL w b0 (b.give b.H (.s i) l1) ds r := ⟨l2, k2, n2, fun a ha => by
        obtain ⟨q1, q2, q3⟩ := h3 a (List.mem_append_right _ ha)
        refine ⟨q1, fun ⟨y, hy⟩ => ?_, q3⟩
        by_cases hyx : y = .s i
        · subst hyx
          rw [give_same] at hy
          exact n3 a hy a ha rfl
        · rw [give_ne hyx] at hy
          exact q2 ⟨y, hy⟩⟩
      exact ⟨v, r, rfl, b0, b.give b.H (.s i) l1, _, ds, e', rfl, g1, S1, rest, hs, q⟩
end
section
variable {X : Cx} {W : Wx} {s : Bool} {w : Wd} {pos : Pos} {ts es : List Expr} {ms : List Mx}
theorem par_mx {D : Ends} {σ : St} {H : Hp} (hk : ∀ m ∈ ms, m.1 < σ.length) (h : tS w W (sMix ms) D σ H) : tMx w W ms σ H fun vs H1 => vs.length = ms.length ∧ D.nx (mxσ ms vs σ) H1 := by
  obtain ⟨b, e, rfl, S, h⟩ := h
  refine ⟨b, e, rfl, S, ?_⟩
  unfold sMix at h
  cases hf : mxEv ms e with
  | stuck => rw [hf] at h; exact h
  | exc c x e1 => rw [hf] at h; exact fun b' g S => h b' σ g.weak S
  | ok ds e1 =>
    rw [hf] at h
    intro b1 g1 S1 vs zs
    have h2 : SR w W b (if ds.length ≤ LIM then nxO (mxSet ms ds e1) else .stuck) D := h
    split at h2
    · obtain ⟨e2, h3, h4⟩ := nxO_some h2
      obtain ⟨b2, q1, q2, q3⟩ := mx_sets hk g1 S1 zs h3
      have hlen : vs.length = ms.length := by
        rw [zs.len]
        have : ∀ {ms : List Mx} {ds : List Vm.D} {e e' : En}, mxSet ms ds e = some e' → ds.length = ms.length := by
          intro ms
          induction ms with
          | nil => intro ds e e' h; cases ds with
            | nil => rfl
            | cons _ _ => cases h
          | cons m ms ih => intro ds e e' h; cases ds with
            | nil => cases h
            | cons d ds => simp [ih (show mxSet ms ds _ = some e' from h)]
        exact this h3
      refine ⟨hlen, ?_⟩
      rw [← q1]
      exact h4 b2 _ q2 q3
    · exact h2.elim
theorem zPar2 {m1 m2 : Mx} {x y : Str} {a c : Expr} {px py pt : Pos} {kt k2 pt2} (o : Okx w X) (m : Mix X w W [.Name x px, .Name y py] [a, c] [m1, m2]) (hw : swappedStores [.Tuple [.Name x px, .Name y py] kt pt] (.Tuple [a, c] k2 pt2) X.env = pure (some [x, y]) := by rfl)
    (hi : X.N[m1.1]? = some x := by rfl) (hj : X.N[m2.1]? = some y := by rfl) (hij : m1.1 ≠ m2.1 := by decide)
    (hx : X.env.scope.names.lookup x = some .local := by rfl) (hy : X.env.scope.names.lookup y = some .local := by rfl)
    (hs : swapsWithSole [.Tuple [.Name x px, .Name y py] kt pt] (.Tuple [a, c] k2 pt2) pos.line X.env = pure false := by rfl) :
    PS X (.Assign [.Tuple [.Name x px, .Name y py] kt pt] (.Tuple [a, c] k2 pt2) pos) (tS w W (sMix [m1, m2])) := (ps_par o.c o.N hi hj hij hx hy m.a hw hs).len.imp fun D σ H h hl => by
  have hk : ∀ m ∈ [m1, m2], m.1 < σ.length := fun m hm => by
    rw [hl]
    rcases List.mem_cons.mp hm with rfl | hm
    · exact (List.getElem?_eq_some_iff.mp hi).1
    · have : m = m2 := by simpa using hm
      subst this
      exact (List.getElem?_eq_some_iff.mp hj).1
  obtain ⟨b, e, he, S, q⟩ := par_mx hk h
  refine ⟨b, e, he, S, q.mono fun ds b' e' g S' k vs z => ?_⟩
  obtain ⟨l, k⟩ := k vs z
  match vs, l with
  | [v, u], _ => exact ⟨v, u, rfl, k⟩
theorem zPar3 {m1 m2 m3 : Mx} {x y z : Str} {a c d : Expr} {px py pz pt : Pos} {kt k2 pt2} (o : Okx w X) (m : Mix X w W [.Name x px, .Name y py, .Name z pz] [a, c, d] [m1, m2, m3]) (hw : swappedStores [.Tuple [.Name x px, .Name y py, .Name z pz] kt pt] (.Tuple [a, c, d] k2 pt2) X.env = pure (some [x, y, z]) := by rfl)
    (hi : X.N[m1.1]? = some x := by rfl) (hj : X.N[m2.1]? = some y := by rfl) (hl : X.N[m3.1]? = some z := by rfl) (hij : m1.1 ≠ m2.1 := by decide) (hil : m1.1 ≠ m3.1 := by decide) (hjl : m2.1 ≠ m3.1 := by decide)
    (hx : X.env.scope.names.lookup x = some .local := by rfl) (hy : X.env.scope.names.lookup y = some .local := by rfl) (hz : X.env.scope.names.lookup z = some .local := by rfl)
    (hs : swapsWithSole [.Tuple [.Name x px, .Name y py, .Name z pz] kt pt] (.Tuple [a, c, d] k2 pt2) pos.line X.env = pure false := by rfl) :
    PS X (.Assign [.Tuple [.Name x px, .Name y py, .Name z pz] kt pt] (.Tuple [a, c, d] k2 pt2) pos) (tS w W (sMix [m1, m2, m3])) := (ps_par3 o.c o.N hi hj hl hij hil hjl hx hy hz m.a hw hs).len.imp fun D σ H h hlen => by
  have hk : ∀ m ∈ [m1, m2, m3], m.1 < σ.length := fun m hm => by
    rw [hlen]
    rcases List.mem_cons.mp hm with rfl | hm
    · exact (List.getElem?_eq_some_iff.mp hi).1
    · rcases List.mem_cons.mp hm with rfl | hm
      · exact (List.getElem?_eq_some_iff.mp hj).1
      · have : m = m3 := by simpa using hm
        subst this
        exact (List.getElem?_eq_some_iff.mp hl).1
  obtain ⟨b, e, he, S, q⟩ := par_mx hk h
  refine ⟨b, e, he, S, q.mono fun ds b' e' g S' k vs zz => ?_⟩
  obtain ⟨l, k⟩ := k vs zz
  match vs, l with
  | [v, u, t], _ => exact ⟨v, u, t, rfl, k⟩
end
section
variable {X : Cx} {W : Wx} {s : Bool} {w : Wd} {pos : Pos} {a c : Expr} {fa fb f : EM} {r : R2} {g : D → D → Option D}
theorem test_z {σ : St} {H : Hp} {Q : Bool → Hp → Prop} (h : tT w W s (eTest f) σ H Q) : tZ w W s f σ H fun x H' => ∃ k, x = .bl k ∧ Q k H' := by
  obtain ⟨b, e, rfl, S, h⟩ := h
  refine ⟨b, e, rfl, S, (PR.bind h).mono fun x b1 e1 g1 S1 h1 v z => ?_⟩
  cases x <;> first
    | exact h1.elim
    | exact ⟨_, fz_bl.mp z, h1 b1 (Gr.refl _) S1⟩
theorem fCmpT {op : CmpOp} (hr : OpB w r g) (ho : OpR X (compareOp op) r) (ha : PE X a (tZ w W s fa)) (hb : PE X c (tB w W s fb)) (hm : behindInMarks op c = false := by rfl) : PT X (.Compare a [op] [c] pos) (tT w W s (eTest (bin g fa fb))) :=
  (pt_cmpR ho ha hb hm).imp fun _ _ _ h => tOp_f hr (test_z h)
end
end Vm

set_option maxHeartbeats 1000000
namespace Vm
open PySem L2
def Bs.cell (b : Bs) (n : Nat) (a : Addr) (l : List Addr) : Bs := ⟨⟨b.G.F, fun m => if m = n then some a else b.G.ρ m⟩, b.H, fun y => if y = .m n then l else b.o y⟩
section
variable {w : Wd} {b b0 : Bs} {σ : St} {e : En} {d : D} {a : Addr}
theorem Sat.alloc (S : Sat w b σ e) (g : Gr false b0 b) (t : Tmp w b0 b d (.ref a)) : ∃ b', b'.H = b.H ∧ Gr false b0 b' ∧ Sat w b' σ ⟨e.sl, e.mu ++ [some d]⟩ ∧ Fz w b'.G (.loc e.mu.length) (.ref a) := by
  obtain ⟨l, t1, t2, t3⟩ := t
  have hn : b.G.ρ e.mu.length = none := (S.lm _).mpr (Nat.le_refl _)
  have hle : b.G.le (b.cell e.mu.length a l).G := ⟨fun _ _ h => h, fun m c h => by
    show (if m = e.mu.length then some a else b.G.ρ m) = some c
    rw [if_neg (fun z => by rw [z, hn] at h; cases h)]
    exact h⟩
  have os : ∀ y, y ≠ .m e.mu.length → (b.cell e.mu.length a l).o y = b.o y := fun y h => if_neg h
  have on : (b.cell e.mu.length a l).o (.m e.mu.length) = l := if_pos rfl
  have none_o : b.o (.m e.mu.length) = [] := S.em _ (by show (e.mu[e.mu.length]?).getD none = none; simp)
  have sub : ∀ y c, c ∈ (b.cell e.mu.length a l).o y → (y = .m e.mu.length ∧ c ∈ l) ∨ (y ≠ .m e.mu.length ∧ c ∈ b.o y) := fun y c h => by
    by_cases hy : y = .m e.mu.length
    · subst hy
      rw [on] at h
      exact .inl ⟨rfl, h⟩
    · rw [os y hy] at h
      exact .inr ⟨hy, h⟩
  refine ⟨b.cell e.mu.length a l, rfl, ⟨g.g.trans hle, g.k, g.n, fun c ⟨y, h⟩ => ?_, (fun h => by cases h), g.h⟩, ⟨S.ex, S.le, fun m => ?_, fun y d' h => ?_, fun y h => ?_, fun y z c h1 h2 => ?_, fun y => ?_, fun y c h => ?_⟩, ?_⟩
  · rcases sub y c h with ⟨_, z⟩ | ⟨_, z⟩
    · exact (t3 c z).2.2.symm
    · exact g.p c ⟨y, z⟩
  · show (if m = e.mu.length then some a else b.G.ρ m) = none ↔ (e.mu ++ [some d]).length ≤ m
    rw [List.length_append]
    by_cases hm : m = e.mu.length
    · subst hm
      rw [if_pos rfl]
      simp
    · rw [if_neg hm, S.lm m]
      simp
      omega
  · by_cases hy : y = .m e.mu.length
    · subst hy
      have h' : ((e.mu ++ [some d])[e.mu.length]?).getD none = some d' := h
      rw [List.getElem?_append_right (Nat.le_refl _)] at h'
      simp at h'
      subst h'
      refine ⟨.ref a, ?_, ?_⟩
      · show (if e.mu.length = e.mu.length then some a else b.G.ρ e.mu.length).map V.ref = _
        rw [if_pos rfl]
        rfl
      · rw [on]
        exact t1.keep hle fun _ _ _ h => h
    · have h' : e.at y = some d' := by
        cases y with
        | s i => exact h
        | m k =>
          have hk : k ≠ e.mu.length := fun z => hy (by rw [z])
          have h2 : ((e.mu ++ [some d])[k]?).getD none = some d' := h
          show (e.mu[k]?).getD none = some d'
          by_cases hlt : k < e.mu.length
          · rw [List.getElem?_append_left hlt] at h2
            exact h2
          · rw [List.getElem?_eq_none (by rw [List.length_append]; simp; omega)] at h2
            cases h2
      obtain ⟨v, k1, k2⟩ := S.sl y d' h'
      refine ⟨v, ?_, ?_⟩
      · cases y with
        | s i => exact k1
        | m k =>
          have hk : k ≠ e.mu.length := fun z => hy (by rw [z])
          show (if k = e.mu.length then some a else b.G.ρ k).map V.ref = some v
          rw [if_neg hk]
          exact k1
      · rw [os y hy]
        exact k2.keep hle fun _ _ _ h => h
  · by_cases hy : y = .m e.mu.length
    · subst hy
      have h' : ((e.mu ++ [some d])[e.mu.length]?).getD none = none := h
      rw [List.getElem?_append_right (Nat.le_refl _)] at h'
      simp at h'
    · rw [os y hy]
      cases y with
      | s i => exact S.em (.s i) h
      | m k =>
        have hk : k ≠ e.mu.length := fun z => hy (by rw [z])
        refine S.em (.m k) ?_
        have h2 : ((e.mu ++ [some d])[k]?).getD none = none := h
        show (e.mu[k]?).getD none = none
        by_cases hlt : k < e.mu.length
        · rw [List.getElem?_append_left hlt] at h2
          exact h2
        · rw [List.getElem?_eq_none (by omega)]
          rfl
  · rcases sub y c h1 with ⟨rfl, k1⟩ | ⟨n1, k1⟩
    · rcases sub z c h2 with ⟨rfl, k2⟩ | ⟨n2, k2⟩
      · rfl
      · exact absurd ⟨z, k2⟩ (t3 c k1).2.1
    · rcases sub z c h2 with ⟨rfl, k2⟩ | ⟨n2, k2⟩
      · exact absurd ⟨y, k1⟩ (t3 c k2).2.1
      · exact S.ap y z c k1 k2
  · by_cases hy : y = .m e.mu.length
    · rw [hy, on]
      exact t2
    · rw [os y hy]
      exact S.nd y
  · rcases sub y c h with ⟨_, k1⟩ | ⟨_, k1⟩
    · exact (t3 c k1).1
    · exact S.fo y c k1
  · refine fz_loc.mpr ⟨a, rfl, ?_⟩
    show (if e.mu.length = e.mu.length then some a else b.G.ρ e.mu.length) = some a
    rw [if_pos rfl]
theorem Own.ref {G : Gs} {H : Hp} {d : D} {v : V} {l : List Addr} (h : Own w G H d v l) (f : isF d = false) : ∃ a, v = .ref a := by
  cases d <;> try cases f
  · obtain ⟨a, _, _, rfl, _⟩ := own_olst.mp h; exact ⟨a, rfl⟩
  · obtain ⟨a, _, _, rfl, _⟩ := own_odic.mp h; exact ⟨a, rfl⟩
  · obtain ⟨a, _, _, rfl, _⟩ := own_odix.mp h; exact ⟨a, rfl⟩
  · obtain ⟨a, _, _, _, rfl, _⟩ := own_oins.mp h; exact ⟨a, rfl⟩
  · obtain ⟨a, _, rfl, _⟩ := own_otbl.mp h; exact ⟨a, rfl⟩
  · obtain ⟨a, _, _, rfl, _⟩ := own_otup.mp h; exact ⟨a, rfl⟩
end
def gNew (i : Nat) : GM := fun d e => if isF d then none else some ⟨e.sl.set i (some (.loc e.mu.length)), e.mu ++ [some d]⟩
section
variable {X : Cx} {W : Wx} {s : Bool} {w : Wd} {pos p ap cp : Pos} {x : Expr} {f : EM}
theorem set_new {i : Nat} {D : Ends} {σ : St} {H : Hp} (hi : i < σ.length) (h : tS w W (sAsg f (gNew i)) D σ H) : tAsg (tV w W s f) (gName i) D σ H := by
  obtain ⟨b, e, rfl, S, h⟩ := h
  refine ⟨b, e, rfl, S, ?_⟩
  unfold sAsg at h
  cases hf : f e with
  | stuck =>
    rw [hf] at h
    exact h
  | exc c x e1 =>
    rw [hf] at h
    exact fun b' g S => h b' σ g.weak S
  | ok d e1 =>
    rw [hf] at h
    intro b1 g1 S1 v t
    have h : SR w W b (match gNew i d e1 with
      | some e2 => .nx e2
      | none => .stuck) D := h
    unfold gNew at h
    split at h
    · rename_i e2 he2
      split at he2
      · cases he2
      · rename_i hnf
        cases he2
        have hnf : isF d = false := by simpa using hnf
        obtain ⟨a, rfl⟩ : ∃ a, v = .ref a := let ⟨l, t1, _⟩ := t; t1.ref hnf
        obtain ⟨b2, q1, q2, q3, q4⟩ := S1.alloc g1.weak t
        obtain ⟨b3, m1, _, m2, m3⟩ := q3.setZ (s := false) hi q4
        show D.nx _ b1.H
        rw [← q1, ← m1]
        exact h b3 _ (q2.trans m2) m3
    · exact h.elim
theorem nSet (i : Nat) {y : Str} {pos' : Pos} (hN : X.N.Nodup) (he : PE X x (tV w W s f)) (hi : X.N[i]? = some y := by rfl) (hx : Loc X.env.scope y := by first | exact Or.inl rfl | exact Or.inr rfl)
    (hs : swapsWith x (some (.Name y pos')) pos.line X.env = pure false := by rfl) (hf : X.fn y = true ∨ X.env.scope.names.lookup y = some .local := by first | exact .inl rfl | exact .inr rfl | assumption) : PS X (.Assign [.Name y pos'] x pos) (tS w W (sAsg f (gNew i))) :=
  (ps_set hN hi hx he hs hf).len.imp fun D σ H h hl => set_new (by rw [hl]; exact (List.getElem?_eq_some_iff.mp hi).1) h
def eIxL (i : Nat) (k : Int) : EM := fun e => match hold? i e with
  | some (_, .olst ds) => lift ((atI ds k).bind fun d => if isF d then some d else none) e
  | _ => .stuck
theorem zIxL (o : Okx w X) (i : Nat) (k : Int) {y : Str} {j cpos} (hN : X.N[i]? = some y := by rfl) (hv : Vis X.env.scope y := by first | exact Or.inl rfl | exact Or.inr (Or.inl rfl) | exact Or.inr (Or.inr rfl)) (hd : (y == ("__debug__" : Str)) = false := by decide)
    (hcd : (y == ("__classdict__" : Str)) = false := by decide) : PE X (.Subscript (.Name y p) (.Constant (.int k) j cpos) pos) (tZ w W s (eIxL i k)) :=
  (pe_ix (r_ix o) (pv i hN hv hd hcd) pe_int (fun _ _ => rfl)).imp fun σ H Q ⟨b, e, he, S, h⟩ => by
  subst he
  unfold eIxL at h
  split at h
  · rename_i x0 ds h0
    obtain ⟨a, vs, l, k1, k2, k3, k4, k5, k6, k7⟩ := S.rootL h0
    obtain ⟨d, hd, R⟩ := PR.ret h
    obtain ⟨d', hd', hq⟩ := Option.bind_eq_some_iff.mp hd
    split at hq
    · rename_i hf
      cases hq
      obtain ⟨v, l', hv, z, _⟩ := k7.atI hd'
      exact ⟨_, k1, .inl ⟨a, vs, k, v, rfl, rfl, SqL.of k5, hv, R.now S ((own_fz hf).mp z).1⟩⟩
    · cases hq
  · exact h.elim
def ePop0 (i : Nat) : EM := fun e => match hold? i e with
  | some (x, .olst (d :: ds)) => if isF d then .ok d (e.put x (some (.olst ds))) else .stuck
  | _ => .stuck
def ePop (i : Nat) : EM := fun e => match hold? i e with
  | some (x, .olst ds) => match ds.getLast? with
    | some d => if ds.all isF then .ok d (e.put x (some (.olst ds.dropLast))) else .stuck
    | none => .stuck
  | _ => .stuck
end
end Vm

set_option maxHeartbeats 4000000
namespace PySem
open Sem (wp)
abbrev IsZipS (h : Heap) (z TI TO : Addr) (f0 : Value) : Prop :=
  h.get? z = some { cls := .type "zip", dict := none, data := .fields #[f0, .bool false, .bool true, .ref TI, .ref TO], slots := #[] }
namespace F
end F
abbrev gzS2 (h : Heap) (o1 o2 : Obj) : Heap := (gzO2 h o1 o2).push { cls := .type "zip", data := .fields #[.none, .bool false, .bool true, .ref ((h.push o1).push o2).objs.size, .ref (gzT2 h o1 o2).objs.size] }
section
variable {prog : Program} {w : World} {A : Around} {E : Value → Shared → Prop} {s : Shared}
variable {z TI TO i1 i2 : Addr} {fp1 fp2 : List Addr} {n1 n2 i : Nat} {P1 P2 : Nat → Value → Prop} {St1 St2 : Nat → Heap → Prop} {a1 a2 : Value}
theorem meets_enumerate_newB1 {v : Value} {o : Obj} {H : Heap → Prop} (B : Begins v o H) :
    Meets (Builtin.«enumerate.__new__» ⟨[.type "enumerate", v], []⟩) (fun _ R s => H s.heap ∧
      R (.ok (.ret (.ref (s.heap.push o).objs.size))) { s with heap := (s.heap.push o).push { cls := .type "enumerate", data := .fields #[.none, .bool false, .ref s.heap.objs.size, rawInt 0, .none, .none] } }) :=
  .of_wp fun prog w A R s h => by
    obtain ⟨hp, g, d, tk, os⟩ := s; obtain ⟨h1, h⟩ := h
    have hsub := sub_enumerate
    have q1 : ∀ {A' : Around} {E : Value → Shared → Prop} {Q : Value → Shared → Prop}, Q (.ref hp.objs.size) ⟨hp.push o, g, d, tk, os⟩ → wpAny (model prog w) A' (pyIter v) Q E ⟨hp, g, d, tk, os⟩ :=
      fun q => B.iter prog w _ _ ⟨hp, g, d, tk, os⟩ _ h1 q
    wp_walk using q1
    refine wpAny_stack_any fun st => wpAny_pure ?_
    split
    · rename_i c _ _ _ _ _
      cases (c == Value.type "enumerate")
      · wp_walk using q1
        exact ⟨_, rfl, h⟩
      · wp_walk using q1
        exact ⟨_, rfl, h⟩
    · wp_walk using q1
      exact ⟨_, rfl, h⟩
theorem enum_begins1 {v : Value} {o : Obj} {H : Heap → Prop} {Q : Value → Shared → Prop} (B : Begins v o H) (h1 : H s.heap)
    (h : ∀ h', IsEnum h' (s.heap.objs.size + 1) s.heap.objs.size 0 .none → h'.get? s.heap.objs.size = some o → h'.objs.size = s.heap.objs.size + 2 →
      (∀ b o, s.heap.get? b = some o → h'.get? b = some o) → Q (.ref (s.heap.objs.size + 1)) { s with heap := h' }) :
    wpAny (model prog w) A (call (.type "enumerate") [v]) Q E s := by
  refine callType_new F.called_enumerate (by decide) (F.typeCall_enumerate_1 _) (F.newCall_enumerate_1 _) (fun obj => F.args_object_init_2 obj _) F.entry_enumerate_new
    (meets_enumerate_newB1 B) ⟨h1, ?_⟩
  have hz : (s.heap.push o).objs.size = s.heap.objs.size + 1 := Heap.size_push ..
  show _ ∧ _
  rw [hz]
  have he : IsEnum ((s.heap.push o).push { cls := .type "enumerate", data := .fields #[.none, .bool false, .ref s.heap.objs.size, rawInt 0, .none, .none] }) (s.heap.objs.size + 1) s.heap.objs.size 0 .none := by
    have := Heap.get?_push_size (s.heap.push o) (o := { cls := .type "enumerate", data := .fields #[.none, .bool false, .ref s.heap.objs.size, rawInt 0, .none, .none] }) rfl
    rw [hz] at this; exact this
  refine ⟨⟨_, he, rfl⟩, h _ he (Heap.get?_push_of_some _ (Heap.get?_push_size _ B.free)) (by rw [Heap.size_push, hz]) fun b o x => Heap.get?_push_of_some _ (Heap.get?_push_of_some _ x)⟩
end
end PySem

set_option maxHeartbeats 1000000
namespace Vm
open PySem L2
def Sq (K : PySem.W.Frag) (k : Bool) (H : Hp) (a : Addr) (xs : List V) : Prop := if k = true then SqT K H a xs else SqL K H a xs
def IterAt (k : Bool) (h : Heap) (it a : Addr) (i : Nat) : Prop := if k = true then h.IsTupleIter it a i else h.IsListIter it a i
def SeqIs (k : Bool) (h : Heap) (a : Addr) (xs : Array Value) : Prop := if k = true then h.IsTuple a xs else h.IsList a xs
def iterObj (k : Bool) (a : Addr) : Obj := if k = true then { cls := .type "tuple_iterator", data := .fields #[.ref a, .int 0 0] } else { cls := .type "list_iterator", data := .fields #[.ref a, .int 0 0] }
section
variable {X : Cx} {pins : List (Addr × Obj)} {σ : St} {H : Hp} {s : Shared} {k : Bool} {a it : Addr} {xs ys : List V} {i : Nat}
theorem sq_src (I : Inv X pins σ H s) (h : Sq X.K k H a xs) : ∃ its, Vals xs its ∧ SeqIs k s.heap a its.toArray := by
  cases k with
  | true => obtain ⟨its, r, p, _⟩ := I.tuple h; exact ⟨its, r, p⟩
  | false => obtain ⟨its, r, p, _⟩ := I.list h; exact ⟨its, r, p.isList⟩
theorem sq_inj (I : Inv X pins σ H s) (h : Sq X.K k H a xs) (h' : Sq X.K k H a ys) : xs = ys := by
  cases k with
  | true => exact I.tuple_inj h h'
  | false => exact I.list_inj h h'
theorem draws_k {prog : Program} {w : World} {A : Around} (hh : A.handled = none) (k : Bool) (it a : Addr) (hne : a ≠ it) (items : Array Value) : Draws prog w A it [it, a] items.size (fun i v => items[i]? = some v) (fun i h => IterAt k h it a i ∧ SeqIs k h a items) := by
  cases k with
  | true => exact Draws.tuple hh it a hne items
  | false => exact Draws.list hh it a hne items
theorem begins_k (k : Bool) (a : Addr) (items : Array Value) : Begins (.ref a) (iterObj k a) fun h => SeqIs k h a items := by
  cases k with
  | true => exact begins_tuple a items
  | false => exact begins_list a items
theorem iterAt_obj {h : Heap} (x : IterAt k h it a i) : ∃ o, h.get? it = some o ∧ ∀ v, o.data ≠ .cell v := by
  cases k with
  | true => obtain ⟨o, e, _, d⟩ := (show h.IsTupleIter it a i from x); exact ⟨o, e, fun v q => by rw [d] at q; cases q⟩
  | false => obtain ⟨o, e, _, d⟩ := (show h.IsListIter it a i from x); exact ⟨o, e, fun v q => by rw [d] at q; cases q⟩
theorem iterAt_new {h : Heap} (e : h.get? it = some (iterObj k a)) : IterAt k h it a 0 := by
  cases k with
  | true => exact ⟨_, e, rfl, rfl⟩
  | false => exact ⟨_, e, rfl, rfl⟩
theorem IterAt.at {h h' : Heap} (x : IterAt k h it a i) (e : ∀ o, h.get? it = some o → h'.get? it = some o) : IterAt k h' it a i := by
  cases k with
  | true => obtain ⟨o, q, r⟩ := (show h.IsTupleIter it a i from x); exact ⟨o, e o q, r⟩
  | false => obtain ⟨o, q, r⟩ := (show h.IsListIter it a i from x); exact ⟨o, e o q, r⟩
theorem iter_ne {h : Heap} {xs : Array Value} (x : IterAt k h it a i) (y : SeqIs k h a xs) : a ≠ it := fun e => by
  subst e
  cases k with
  | true =>
    obtain ⟨o', e1, c1, _⟩ := (show h.IsTuple a xs from y)
    obtain ⟨o2, e2, c2, _⟩ := (show h.IsTupleIter a a i from x)
    rw [e1] at e2
    cases e2
    rw [c1] at c2
    injection c2 with c3
    exact absurd c3 (by decide)
  | false =>
    obtain ⟨o', e1, c1, _⟩ := (show h.IsList a xs from y)
    obtain ⟨o2, e2, c2, _⟩ := (show h.IsListIter a a i from x)
    rw [e1] at e2
    cases e2
    rw [c1] at c2
    injection c2 with c3
    exact absurd c3 (by decide)
theorem SeqIs.lt {h : Heap} {xs : Array Value} (x : SeqIs k h a xs) : a < h.objs.size := by
  cases k with
  | true => obtain ⟨o, q, _⟩ := (show h.IsTuple a xs from x); exact Heap.lt_size q
  | false => obtain ⟨o, q, _⟩ := (show h.IsList a xs from x); exact Heap.lt_size q
end
def ItzS (K : PySem.W.Frag) (k : Bool) (a : Addr) (m : Bool) (b : Addr) : It :=
  ⟨fun i H => ∃ (xs ys : List V) (x y : V), Sq K k H a xs ∧ Sq K m H b ys ∧ xs[i]? = some x ∧ ys[i]? = some y,
    fun i H v H' => ∃ T x y, v = .ref T ∧ H T = none ∧ H' = upd H T (.tup [x, y]) ∧ (∀ xs, Sq K k H a xs → xs[i]? = some x) ∧ ∀ ys, Sq K m H b ys → ys[i]? = some y,
    fun i H => ∃ xs ys : List V, Sq K k H a xs ∧ Sq K m H b ys ∧ xs.length = i ∧ ys.length = i⟩
section
variable {M : Model} {A : Around} {E : Value → Shared → Prop} {s : Shared} {env : Env}
end
def iZipS (K : PySem.W.Frag) (ta : TA) : TI := fun σ H R => ta σ H fun vs H1 => ∃ k a m b xs ys, vs = [.ref a, .ref b] ∧ Sq K k H1 a xs ∧ Sq K m H1 b ys ∧ R (ItzS K k a m b) H1
def IteS (K : PySem.W.Frag) (k : Bool) (a : Addr) : It :=
  ⟨fun i H => ∃ (xs : List V) (x : V), Sq K k H a xs ∧ xs[i]? = some x, fun i H v H' => ∃ T x, v = .ref T ∧ H T = none ∧ H' = upd H T (.tup [.int (i : Nat), x]) ∧ ∀ xs, Sq K k H a xs → xs[i]? = some x, fun i H => ∃ xs : List V, Sq K k H a xs ∧ xs.length = i⟩
theorem turn_enumS {P : Program} {w : World} {K : PySem.W.Frag} {elts : List Expr} {kk : Nat} {tpos : Pos} (k : Bool) (a e it : Addr) (hne : e ≠ it) (hea : e ≠ a) :
    Turn P w K (.Tuple elts kk tpos) (IteS K k a) [e, it] e (fun i h => (∃ old, IsEnum h e it ((i : Nat) : Int) old) ∧ IterAt k h it a i) where
  mem := by simp
  obj := fun i h st b hb => by
    obtain ⟨⟨old, he⟩, h1⟩ := st
    have e' : b = e ∨ b = it := by simpa using hb
    rcases e' with z | z
    · rw [z]; exact ⟨_, he, fun v q => nomatch q⟩
    · rw [z]; exact iterAt_obj h1
  keep := fun i h h' st k => let ⟨⟨old, he⟩, hi⟩ := st; ⟨⟨old, k e (by simp) _ he⟩, hi.at fun o q => k it (by simp) o q⟩
  item := by
    intro X hP hw hK hc i pins s σ H E I hf st hg
    subst hP hw hK
    obtain ⟨⟨old, he⟩, hit⟩ := st
    obtain ⟨xs, x, hq, hx⟩ := hg
    obtain ⟨its, rv, p⟩ := sq_src I hq
    obtain ⟨u, hu, ru⟩ := rv.get hx
    have hel : e < s.heap.objs.size := Heap.lt_size he
    have hil : it < s.heap.objs.size := by obtain ⟨_, q, _⟩ := iterAt_obj hit; exact Heap.lt_size q
    have ai : a ≠ it := iter_ne hit p
    have l1 : i < its.toArray.size := by
      have := (List.getElem?_eq_some_iff.mp hu).1
      simpa using this
    refine wpAny_pyNext_enum_itemC (draws_k (A := X.A.in1) (I.ok.hd hc) k it a ai its.toArray) he ⟨hit, p⟩ l1 hne (by simp [hne, hea]) fun x1 h' tk e1 ho st1 hT hsz hk => ?_
    have ex1 : x1 = u := by
      have : its.toArray[i]? = some u := by simpa using hu
      rw [this] at e1; cases e1; rfl
    subst ex1
    refine ⟨_, rfl, wpAny_letOwnedTupleGo_enum (s := { s with heap := h', toks := tk + 1 }) ho fun h'' he' sb => ?_⟩
    have hT2 : h''.get? s.heap.objs.size = some { cls := .type "tuple", data := .seq #[.int i tk, x1] } := (sb.2 _ (Nat.ne_of_gt hel)).trans hT
    have new : ObjOk X.prog X.w (upd H s.heap.objs.size (.tup [.int (i : Nat), x])) h'' s.heap.objs.size (.tup [.int (i : Nat), x]) :=
      ⟨by show 2 ≤ sizeLine; decide, [.int i tk, x1], .cons ⟨_, rfl⟩ (.cons ru .nil), ⟨_, hT2, rfl, _, rfl⟩⟩
    have I1 : Inv X pins σ (upd H s.heap.objs.size (.tup [.int (i : Nat), x])) { s with heap := h'', toks := tk + 1 } :=
      I.turnedNew (ch := [e, it]) (fun b ob hb q => (sb.2 b (fun z => hb (by simp [z]))).trans (hk b ob (fun z => hb (by simp [z])) (fun z => hb (by simp [z])) q)) hf (Nat.le_refl _) new
    refine ⟨.ref s.heap.objs.size, _, I1, rfl, ⟨_, x, rfl, I.hok.fresh (Nat.le_refl _), rfl, fun ys hy => by rw [sq_inj I hy hq]; exact hx⟩, ⟨⟨x1, ?_⟩, st1.1.at fun o q => (sb.2 it (Ne.symm hne)).trans q⟩, fun b hb => ?_⟩
    · have e1 : ((i + 1 : Nat) : Int) = (i : Int) + 1 := by omega
      rw [e1]; exact he'
    · have hb' : b < s.heap.objs.size := by
        have e' : b = e ∨ b = it := by simpa using hb
        rcases e' with z | z
        · rw [z]; exact hel
        · rw [z]; exact hil
      rw [upd_ne (Nat.ne_of_lt hb')]
      exact (hf b hb).1
  done := by
    intro X hP hw hK hc i pins s σ H E I hf st hg
    subst hP hw hK
    obtain ⟨⟨old, he⟩, hit⟩ := st
    obtain ⟨xs, hq, hx⟩ := hg
    obtain ⟨its, rv, p⟩ := sq_src I hq
    obtain ⟨f0, f1, f2, f3, f4, f5⟩ := hf it (by simp)
    have hl := rv.length
    have ai : a ≠ it := iter_ne hit p
    refine wpAny_pyNext_enum_endD (draws_k (A := X.A.in1) (I.ok.hd hc) k it a ai its.toArray) he ?_ fun h' eb => ⟨rfl, I.turned (t' := s.toks) (fun b o hb q => eb b o hb q) f0 f1 f3 f4 f5⟩
    have e : its.toArray.size = i := by simp; omega
    rw [e]
    exact ⟨hit, p⟩
  self := fun A i s Q E st h => let ⟨⟨_, he⟩, _⟩ := st; wpAny_pyIter_enum he h
def iEnumS (K : PySem.W.Frag) (ta : TA) : TI := fun σ H R => ta σ H fun vs H1 => ∃ k a xs, vs = [.ref a] ∧ Sq K k H1 a xs ∧ R (IteS K k a) H1
theorem pi_enumS {X : Cx} {e : Expr} {ta : TA} {p pos tpos : Pos} {elts : List Expr} {kk : Nat} (hg : Gl X "enumerate") (hm : X.mg "enumerate" = none) (ha : PA X [e] ta) (hs : starEach [e] X.env = [(false, eval e X.env)] := by rfl) :
    PI X (.Tuple elts kk tpos) (.Call (.Name "enumerate" p) [e] [] pos) (iEnumS X.K ta) := by
  refine ⟨fun pins s σ H R I h => ?_⟩
  refine PyProof.Rows.Call_ (ld_blt I hg hm PyProof.Rows.boot_enumerate (PyProof.Rows.callWith_type1 (thn (ha.run pos pins s σ H _ I h) fun us s1 ⟨vs, H1, I1, r1, q1⟩ => ?_) hs rfl))
  obtain ⟨k, a, xs, ex, hq, q⟩ := q1
  subst ex
  cases r1 with
  | cons r rr =>
    cases rr
    cases r
    obtain ⟨its, rv, p'⟩ := sq_src I1 hq
    have la : a < s1.heap.objs.size := p'.lt
    refine enum_begins1 (begins_k k a its.toArray) p' fun h' he hit hsz hk => wpAny_pyIter_enum he ?_
    have I2 : Inv X pins σ H1 { s1 with heap := h' } := I1.kept (t' := s1.toks) hk
    refine ⟨s1.heap.objs.size + 1, [s1.heap.objs.size + 1, s1.heap.objs.size], _, _, H1, rfl, I2, turn_enumS k a (s1.heap.objs.size + 1) s1.heap.objs.size (Nat.succ_ne_self _) (Nat.ne_of_gt (Nat.lt_succ_of_lt la)), ⟨⟨.none, he⟩, iterAt_new hit⟩, fun b hb => ?_, q⟩
    have e' : b = s1.heap.objs.size + 1 ∨ b = s1.heap.objs.size := by simpa using hb
    have hle : s1.heap.objs.size ≤ b := by
      rcases e' with z | z
      · rw [z]; exact Nat.le_add_right _ _
      · rw [z]; exact Nat.le_refl _
    exact I1.fpOk hle (I1.hok.fresh hle)
def tup2 (p : D × D) : D := .tup [p.1, p.2]
def itZipS (f g : EM) : LM := fun e => (f e).bind fun x e1 => (g e1).bind fun y e2 => match items? x, items? y with
  | some xs, some ys => if xs.length = ys.length then .ok ((xs.zip ys).map tup2) e2 else .stuck
  | _, _ => .stuck
def enumD : Nat → List D → List D
  | _, [] => []
  | n, x :: xs => .tup [.int (n : Nat), x] :: enumD (n + 1) xs
def itEnum (f : EM) : LM := fun e => (f e).bind fun x e1 => match items? x with
  | some xs => .ok (enumD 0 xs) e1
  | none => .stuck
theorem enumD_len : ∀ (n : Nat) (xs : List D), (enumD n xs).length = xs.length
  | _, [] => rfl
  | n, x :: xs => by simp [enumD, enumD_len (n + 1) xs]
theorem enumD_get : ∀ (n : Nat) (xs : List D) (i : Nat) (d : D), (enumD n xs)[i]? = some d → ∃ x, xs[i]? = some x ∧ d = .tup [.int ((n + i : Nat) : Int), x]
  | n, [], i, d, h => by simp [enumD] at h
  | n, x :: xs, 0, d, h => by
    simp [enumD] at h
    exact ⟨x, rfl, h.symm⟩
  | n, x :: xs, i + 1, d, h => by
    obtain ⟨y, h1, h2⟩ := enumD_get (n + 1) xs i d (by simpa [enumD] using h)
    exact ⟨y, by simpa using h1, by rw [h2]; congr 3; simp; omega⟩
theorem isT_sq {w : Wd} {b : Bs} {d : D} {ds : List D} {v : V} (h : Fz w b.G d v) (hi : items? d = some ds) :
    ∃ a vs, v = .ref a ∧ FzL w b.G ds vs ∧ ∀ b' σ e, Gi false b b' → Sat w b' σ e → Sq w.K (isT d) b'.H a vs := by
  obtain ⟨a, vs, rfl, _, h2, h3⟩ := h.seq hi
  refine ⟨a, vs, rfl, h2, fun b' σ e g S => ?_⟩
  rcases h3 with ⟨q, h3⟩ | ⟨q, h3⟩
  · rw [q]; exact h3 b' σ e g S
  · rw [q]; exact h3 b' σ e g S
section
variable {X : Cx} {W : Wx} {s : Bool} {w : Wd} {pos p tpos kpos cpos : Pos} {x c : Expr} {elts : List Expr} {f g : EM} {kk j : Nat}
theorem ziEnum (o : Okx w X) (hg : Gl X "enumerate") (hm : X.mg "enumerate" = none) (ha : PE X x (tZ w W s f)) (hs : starEach [x] X.env = [(false, eval x X.env)] := by rfl) (hs2 : starEach [x] X.env = (false, eval x X.env) :: starEach [] X.env := by rfl) :
    PI X (.Tuple elts kk tpos) (.Call (.Name "enumerate" p) [x] [] pos) (tI w W s (itEnum f)) :=
  (pi_enumS hg hm (pa_cons ha pa_nil hs2) hs).imp fun σ H R ⟨b, e, he, S, q⟩ => by
  subst he
  refine ⟨b, e, rfl, S, (PR.bind q).mono fun d b1 e1 g1 S1 h1 v z => ?_⟩
  split at h1
  · rename_i xs hx
    obtain ⟨a, vs, rfl, zl, ha⟩ := isT_sq z hx
    refine ⟨isT d, a, vs, rfl, by rw [o.K]; exact ha b1 σ e1 (Gr.refl _).gi S1, ?_⟩
    rw [o.K]
    have l1 := zl.length
    refine h1 b1 (Gr.refl _) S1 _ (IsIt.soft ⟨fun H => Sq w.K (isT d) H a vs, fun i H v H' => ∃ T x, v = .ref T ∧ H T = none ∧ H' = upd H T (.tup [.int (i : Nat), x]) ∧ vs[i]? = some x, ⟨fun i H hi p1 => ?_, fun H p1 => ?_, fun i H x H' hi p1 ⟨T, u, q1, q2, q3, q4⟩ => ⟨T, u, q1, q2, q3, q4 _ p1⟩⟩, ha, fun b' σ e i x H' dd gr S hd y => ?_⟩)
    · have hi' : i < vs.length := by rw [enumD_len] at hi; omega
      exact ⟨vs, vs[i]'hi', p1, by simp [hi']⟩
    · exact ⟨vs, p1, by rw [enumD_len]; omega⟩
    · obtain ⟨T, u, rfl, hT, rfl, hu⟩ := y
      obtain ⟨d1, hd1, rfl⟩ := enumD_get 0 xs i dd hd
      obtain ⟨v1, hv1, z1⟩ := zl.get hd1
      rw [hu] at hv1; cases hv1
      have gn := Gr.new (s := true) (u := .tup [.int (i : Nat), u]) (S.fresh_F hT) hT
      refine ⟨b'.new T (.tup [.int (i : Nat), u]), rfl, gn, S.new hT, fz_tup.mpr ⟨T, [.int (i : Nat), u], rfl, upd_same, by show 2 ≤ sizeLine; decide, ?_⟩⟩
      rw [Nat.zero_add]
      exact fzl_cons.mpr ⟨_, [u], rfl, fz_int.mpr rfl, fzl_cons.mpr ⟨u, [], rfl, (z1.mono gr.g).mono gn.g, fzl_nil.mpr rfl⟩⟩
  · exact h1.elim
end
end Vm

set_option maxHeartbeats 1000000
namespace Vm
open PySem L2
def kq (a b : D) : Bool := match dnest a, dnest b with
  | some x, some y => NestedKey.beq x y
  | _, _ => false
def lkD : List (D × D) → D → Option D
  | [], _ => none
  | (k, d) :: r, y => if kq k y then some d else lkD r y
def putD (kvs : List (D × D)) (y x : D) : List (D × D) := if kvs.any (fun p => kq p.1 y) then kvs.map (fun p => if kq p.1 y then (p.1, x) else p) else kvs ++ [(y, x)]
def delD : List (D × D) → D → List (D × D)
  | [], _ => []
  | (k, d) :: r, y => if kq k y then r else (k, d) :: delD r y
theorem dkey_nest {k : D} {x : Key} (h : dkey k = some x) : dnest k = some (match x with | .inl i => .num i | .inr s => .text s) := by
  cases k <;> try cases h
  · rfl
  · rename_i s
    have h' : (if PyData.strOk s then some (Sum.inr s) else none) = some x := h
    split at h'
    · cases h'; rfl
    · cases h'
theorem kq_dkey {a b : D} {x y : Key} (h : dkey a = some x) (h' : dkey b = some y) : kq a b = decide (x = y) := by
  unfold kq
  rw [dkey_nest h, dkey_nest h']
  cases x <;> cases y <;> simp [NestedKey.beq]
theorem kq_nest {a b : D} {x y : NestedKey} (h : dnest a = some x) (h' : dnest b = some y) : kq a b = decide (x = y) := by
  unfold kq
  rw [h, h']
  exact (NestedKey.decide_eq x y).symm
theorem length_putD (y x : D) (kvs : List (D × D)) : (putD kvs y x).length ≤ kvs.length + 1 := by
  unfold putD
  split
  · rw [List.length_map]; omega
  · simp
theorem dkey_kV {w : Wd} {G : Gs} {k : D} {x : Key} {v : V} (h : Fz w G k v) (e : dkey k = some x) : v = kV x := by
  cases k <;> try cases e
  · exact fz_int.mp h
  · rename_i s
    have h' : (if PyData.strOk s then some (Sum.inr s) else none) = some x := e
    split at h'
    · cases h'; exact (fz_str.mp h).1
    · cases h'
section
variable {w : Wd} {G : Gs} {H : Hp}
theorem OwnK.lk {y : D} {ky : Key} (hy : dkey y = some ky) : ∀ {kvs : List (D × D)} {ks : List (Key × V)} {l : List Addr}, OwnK w G H kvs ks l →
    (lkD kvs y = none ∧ valV ks ky = none) ∨ ∃ d v l', lkD kvs y = some d ∧ valV ks ky = some v ∧ Own w G H d v l' ∧ ∀ a ∈ l', a ∈ l
  | [], ks, l, h => by
    obtain ⟨rfl, rfl⟩ := ownk_nil.mp h
    exact .inl ⟨rfl, rfl⟩
  | (k, d) :: r, ks, l, h => by
    obtain ⟨key, v, t, l1, l2, rfl, h0, h1, h2, rfl⟩ := ownk_cons.mp h
    unfold lkD
    rw [kq_dkey h0 hy]
    by_cases e : key = ky
    · rw [decide_eq_true e, if_pos rfl]
      exact .inr ⟨d, v, l1, rfl, valV_pos e, h1, fun a ha => List.mem_append_left _ ha⟩
    · rw [decide_eq_false e, if_neg (by decide), valV_neg e]
      rcases OwnK.lk hy h2 with h | ⟨d', v', l', k1, k2, k3, k4⟩
      · exact .inl h
      · exact .inr ⟨d', v', l', k1, k2, k3, fun a ha => List.mem_append_right _ (k4 a ha)⟩
theorem OwnK.append : ∀ {ds ds' : List (D × D)} {vs vs' : List (Key × V)} {l l' : List Addr}, OwnK w G H ds vs l → OwnK w G H ds' vs' l' → OwnK w G H (ds ++ ds') (vs ++ vs') (l ++ l')
  | [], ds', vs, vs', l, l', h, h' => by
    obtain ⟨rfl, rfl⟩ := ownk_nil.mp h
    exact h'
  | (k, d) :: ds, ds', vs, vs', l, l', h, h' => by
    obtain ⟨key, v, r, l1, l2, rfl, h0, h1, h2, rfl⟩ := ownk_cons.mp h
    exact ownk_cons.mpr ⟨key, v, r ++ vs', l1, l2 ++ l', rfl, h0, h1, OwnK.append h2 h', by rw [List.append_assoc]⟩
theorem OwnK.any {y : D} {ky : Key} (hy : dkey y = some ky) : ∀ {kvs : List (D × D)} {ks : List (Key × V)} {l : List Addr}, OwnK w G H kvs ks l → (kvs.any fun p => kq p.1 y) = ks.any fun p => decide (p.1 = ky)
  | [], ks, l, h => by
    obtain ⟨rfl, rfl⟩ := ownk_nil.mp h
    rfl
  | (k, d) :: r, ks, l, h => by
    obtain ⟨key, v, t, l1, l2, rfl, h0, h1, h2, rfl⟩ := ownk_cons.mp h
    simp only [List.any_cons, kq_dkey h0 hy, OwnK.any hy h2]
theorem OwnK.mapP {y x : D} {v : V} {ky : Key} (hy : dkey y = some ky) (z : Fz w G x v) : ∀ {kvs : List (D × D)} {ks : List (Key × V)} {l : List Addr}, OwnK w G H kvs ks l → l.Nodup →
    ∃ l', OwnK w G H (kvs.map fun p => if kq p.1 y then (p.1, x) else p) (ks.map fun p => if p.1 = ky then (p.1, v) else p) l' ∧ l'.Nodup ∧ ∀ a ∈ l', a ∈ l
  | [], ks, l, h, hn => by
    obtain ⟨rfl, rfl⟩ := ownk_nil.mp h
    exact ⟨[], ownk_nil.mpr ⟨rfl, rfl⟩, List.nodup_nil, fun _ h => h⟩
  | (k, d) :: r, ks, l, h, hn => by
    obtain ⟨key, u, t, l1, l2, rfl, h0, h1, h2, rfl⟩ := ownk_cons.mp h
    obtain ⟨n1, n2, n3⟩ := List.nodup_append.mp hn
    obtain ⟨l', k1, k2, k3⟩ := OwnK.mapP hy z h2 n2
    simp only [List.map_cons]
    rw [kq_dkey h0 hy]
    by_cases e : key = ky
    · rw [decide_eq_true e, if_pos rfl, if_pos e]
      exact ⟨l', ownk_cons.mpr ⟨key, v, _, [], l', rfl, h0, z.own, k1, rfl⟩, k2, fun a ha => List.mem_append_right _ (k3 a ha)⟩
    · rw [decide_eq_false e, if_neg (by decide), if_neg e]
      exact ⟨l1 ++ l', ownk_cons.mpr ⟨key, u, _, l1, l', rfl, h0, h1, k1, rfl⟩, List.nodup_append.mpr ⟨n1, k2, fun a ha c hc => n3 a ha c (k3 c hc)⟩, fun a ha => (List.mem_append.mp ha).elim (fun h => List.mem_append_left _ h) fun h => List.mem_append_right _ (k3 a h)⟩
theorem OwnK.put {y x : D} {v : V} {ky : Key} (hy : dkey y = some ky) (z : Fz w G x v) {kvs : List (D × D)} {ks : List (Key × V)} {l : List Addr} (h : OwnK w G H kvs ks l) (hn : l.Nodup) :
    ∃ l', OwnK w G H (putD kvs y x) (putK ks ky v) l' ∧ l'.Nodup ∧ ∀ a ∈ l', a ∈ l := by
  unfold putD putK
  rw [h.any hy]
  split
  · exact h.mapP hy z hn
  · refine ⟨l ++ [], h.append (ownk_cons.mpr ⟨ky, v, [], [], [], rfl, hy, z.own, ownk_nil.mpr ⟨rfl, rfl⟩, rfl⟩), ?_⟩
    rw [List.append_nil]
    exact ⟨hn, fun _ h => h⟩
end
def dkvs? : D → Option (List (D × D))
  | .dic kvs => some kvs
  | .odic kvs => some kvs
  | _ => none
theorem Br.dict {w : Wd} {b : Bs} {σ : St} {e : En} {d : D} {v : V} {kvs : List (D × D)} (S : Sat w b σ e) (z : Br w b d v) (h : dkvs? d = some kvs) : ∃ a ks l, v = .ref a ∧ Rd b.H a (.dK ks) ∧ OwnK w b.G b.H kvs ks l := by
  obtain ⟨l, z, _⟩ := z
  cases d <;> try cases h
  · obtain ⟨a, o, ks, rfl, h1, _, h2⟩ := fz_dic.mp ((own_fz rfl).mp z).1
    exact ⟨a, ks, [], rfl, .inr ⟨o, S.ex _ _ h1⟩, h2.own⟩
  · obtain ⟨a, ks, l', rfl, h1, _, h2, _⟩ := own_odic.mp z
    exact ⟨a, ks, l', rfl, .inl h1, h2⟩
def rDIn (neg : Bool) : R2 := fun y x H Q => ∃ a o, x = .ref a ∧ DGet H a y o ∧ Q (.bl (if neg then !o.isSome else o.isSome)) H
def rDGet : R2 := fun x y H Q => ∃ a v, x = .ref a ∧ DGet H a y (some v) ∧ Q v H
section
variable {X : Cx}
theorem op_dkIn (hu : X.A.units + 1 < cLine) : OpR X (compareOp .In) (rDIn false) := by
  intro pins s σ H x y v u Q I rx ry ⟨a, o, ey, g, q⟩
  subst ey
  obtain rfl : u = Value.ref a := ry
  exact d_in hu I g rx fun s3 I3 => ⟨.bl o.isSome, H, I3, rfl, q⟩
theorem op_dkNotIn (hu : X.A.units + 1 < cLine) : OpR X (compareOp .NotIn) (rDIn true) := by
  intro pins s σ H x y v u Q I rx ry ⟨a, o, ey, g, q⟩
  subst ey
  obtain rfl : u = Value.ref a := ry
  exact d_notIn hu I g rx fun s3 I3 => ⟨.bl (!o.isSome), H, I3, rfl, q⟩
theorem ix_dk (hu : X.A.units + 1 < cLine) : IxR X rDGet := by
  intro value slice pins s σ H x y v u Q I rx ry ⟨a, w', ex, g, q⟩ hs
  subst ex
  obtain rfl : v = Value.ref a := rx
  exact PyProof.Rows.tail_any (dict_typeIs I g) PySem.F.slot_dict_getitem.lookup (d_getItem hu I g ry fun w' s3 I3 rw' => ⟨_, H, I3, rw', q⟩) hs
end
def dInK (neg : Bool) : D → D → Option D := fun y d => match dkvs? d, dkey y with
  | some kvs, some _ => some (.bl (if neg then !(lkD kvs y).isSome else (lkD kvs y).isSome))
  | _, _ => none
def dIxK : D → D → Option D := fun d y => match dkvs? d, dkey y with
  | some kvs, some _ => (lkD kvs y).bind fun x => if isF x then some x else none
  | _, _ => none
theorem ob_inK {w : Wd} {neg : Bool} : OpB w (rDIn neg) (dInK neg) := by
  intro s σ b e y x d vy vx Q S zy zx hg R
  unfold dInK at hg
  split at hg
  · rename_i kvs ky hk hy
    cases hg
    obtain ⟨a, ks, l, rfl, h1, h2⟩ := zx.dict S hk
    have hyF : isF y = true := by cases y <;> first | rfl | cases hy
    have hv : vy = kV ky := dkey_kV (zy.fz hyF) hy
    refine ⟨a, valV ks ky, rfl, .inl ⟨ks, ky, h1, hv, rfl⟩, R.now S (fz_bl.mpr ?_)⟩
    rcases h2.lk hy with ⟨k1, k2⟩ | ⟨d', v', l', k1, k2, _⟩
    · rw [k1, k2]; rfl
    · rw [k1, k2]; rfl
  · cases hg
theorem ob_ixK {w : Wd} : OpB w rDGet dIxK := by
  intro s σ b e x y d vx vy Q S zx zy hg R
  unfold dIxK at hg
  split at hg
  · rename_i kvs ky hk hy
    obtain ⟨a, ks, l, rfl, h1, h2⟩ := zx.dict S hk
    have hyF : isF y = true := by cases y <;> first | rfl | cases hy
    have hv : vy = kV ky := dkey_kV (zy.fz hyF) hy
    obtain ⟨d', hd, hf⟩ := Option.bind_eq_some_iff.mp hg
    split at hf
    · rename_i hF
      cases hf
      rcases h2.lk hy with ⟨k1, k2⟩ | ⟨d', v', l', k1, k2, k3, _⟩
      · rw [k1] at hd; cases hd
      · rw [k1] at hd
        cases hd
        exact ⟨a, v', rfl, .inl ⟨ks, ky, h1, hv, k2.symm⟩, R.now S ((own_fz hF).mp k3).1⟩
    · cases hf
  · cases hg
end Vm

set_option maxHeartbeats 1000000
namespace Vm
open PySem L2
def NK (X : Cx) (H : Hp) (k : NestedKey) (y : V) : Prop := ∀ (pins : List (Addr × Obj)) (σ : L2.St) (s : Shared) (u : Value), Inv X pins σ H s → RelV y u → NestedIs s.heap k u
def NKL (X : Cx) (H : Hp) (ks : List NestedKey) (ys : List V) : Prop := ∀ (pins : List (Addr × Obj)) (σ : L2.St) (s : Shared) (us : List Value), Inv X pins σ H s → Vals ys us → NestedAll s.heap ks us
theorem NK.tup {X : Cx} {H : Hp} {a : Addr} {ks : List NestedKey} {vs : List V} (h : NKL X H ks vs) (e : Rd H a (.tup vs)) : NK X H (.tup ks) (.ref a) := by
  intro pins σ s u I r
  obtain rfl : u = Value.ref a := r
  obtain ⟨_, its, r, o, h1, h2, n, h3⟩ := e.ok I.hok
  exact .tup h1 h2 h3 (by simpa using h pins σ s its I r)
section
variable {X : Cx} {w : Wd} {G : Gs} {H : Hp}
mutual
theorem Fz.nk (hx : ∀ a u, G.F a = some u → H a = some u) : ∀ {d : D} {v : V} {k : NestedKey}, Fz w G d v → dnest d = some k → NK X H k v
  | .non, v, k, h, e => by
    cases fz_non.mp h
    cases e
    intro pins σ s u I r
    cases (show u = Value.none from r)
    exact .none
  | .bl b, v, k, h, e => by
    cases fz_bl.mp h
    cases e
    intro pins σ s u I r
    cases (show u = Value.bool b from r)
    exact .bool rfl
  | .int i, v, k, h, e => by
    cases fz_int.mp h
    cases e
    intro pins σ s u I r
    obtain ⟨t, rfl⟩ := (show ∃ t, u = Value.int i t from r)
    exact .int _ _
  | .str x, v, k, h, e => by
    cases (fz_str.mp h).1
    cases e
    intro pins σ s u I r
    obtain ⟨t, rfl⟩ := (show ∃ t, u = Value.str x t from r)
    exact .text _ _
  | .tup ds, v, k, h, e => by
    obtain ⟨a, vs, rfl, h1, _, h3⟩ := fz_tup.mp h
    obtain ⟨ks, hk, rfl⟩ := Option.map_eq_some_iff.mp (show (dnestL ds).map NestedKey.tup = some k by simpa [dnest] using e)
    exact NK.tup (FzL.nk hx h3 hk) (.inl (hx _ _ h1))
  | .tux ds, v, k, h, e => by
    obtain ⟨a, o, vs, rfl, h1, _, _, h3⟩ := fz_tux.mp h
    obtain ⟨ks, hk, rfl⟩ := Option.map_eq_some_iff.mp (show (dnestL ds).map NestedKey.tup = some k by simpa [dnest] using e)
    exact NK.tup (FzL.nk hx h3 hk) (.inr ⟨o, hx _ _ h1⟩)
  | .lst _, v, k, h, e => by simp [dnest] at e
  | .rol _, v, k, h, e => by simp [dnest] at e
  | .dic _, v, k, h, e => by simp [dnest] at e
  | .dix _, v, k, h, e => by simp [dnest] at e
  | .ins _ _, v, k, h, e => by simp [dnest] at e
  | .olst _, v, k, h, e => by simp [dnest] at e
  | .odic _, v, k, h, e => by simp [dnest] at e
  | .odix _, v, k, h, e => by simp [dnest] at e
  | .oins _ _ _, v, k, h, e => by simp [dnest] at e
  | .loc _, v, k, h, e => by simp [dnest] at e
  | .exn _ _, v, k, h, e => by simp [dnest] at e
  | .fn _, v, k, h, e => by simp [dnest] at e
  | .otbl _, v, k, h, e => by simp [dnest] at e
  | .otup _, v, k, h, e => by simp [dnest] at e
theorem FzL.nk (hx : ∀ a u, G.F a = some u → H a = some u) : ∀ {ds : List D} {vs : List V} {ks : List NestedKey}, FzL w G ds vs → dnestL ds = some ks → NKL X H ks vs
  | [], vs, ks, h, e => by
    cases fzl_nil.mp h
    cases (show some [] = some ks by simpa [dnestL] using e)
    intro pins σ s us I r
    cases r
    exact .nil
  | d :: ds, vs, ks, h, e => by
    obtain ⟨v, r, rfl, h1, h2⟩ := fzl_cons.mp h
    obtain ⟨k, hk, e⟩ := Option.bind_eq_some_iff.mp (show (dnest d).bind (fun k => (dnestL ds).map (k :: ·)) = some ks by simpa [dnestL] using e)
    obtain ⟨ks', hks, rfl⟩ := Option.map_eq_some_iff.mp e
    intro pins σ s us I q
    cases q with
    | cons q1 q2 => exact .cons (Fz.nk hx h1 hk pins σ s _ I q1) (FzL.nk hx h2 hks pins σ s _ I q2)
end
end
def valN (es : List (NestedKey × Addr × V)) (k : NestedKey) : Option V := (es.find? fun e => decide (e.1 = k)).map (·.2.2)
theorem valN_pos {p : NestedKey × Addr × V} {r : List (NestedKey × Addr × V)} {k : NestedKey} (e : p.1 = k) : valN (p :: r) k = some p.2.2 := by simp [valN, List.find?_cons, e]
theorem valN_neg {p : NestedKey × Addr × V} {r : List (NestedKey × Addr × V)} {k : NestedKey} (e : ¬ p.1 = k) : valN (p :: r) k = valN r k := by simp [valN, List.find?_cons, e]
def NKs (X : Cx) (H : Hp) (es : List (NestedKey × Addr × V)) : Prop := ∀ e ∈ es, e.1.depth ≤ 8 ∧ NK X H e.1 (.ref e.2.1)
abbrev NE : List (NestedKey × Addr × V) → List (NestedKey × Addr × Value) → Prop := Paired fun (p : NestedKey × Addr × V) (q : NestedKey × Addr × Value) => p.1 = q.1 ∧ p.2.1 = q.2.1 ∧ RelV p.2.2 q.2.2
theorem NE.val {k : NestedKey} : ∀ {es : List (NestedKey × Addr × V)} {xs : List (NestedKey × Addr × Value)}, NE es xs → RelO (valN es k) ((atKey xs k).map (·.2))
  | _, _, .nil => True.intro
  | _, _, .cons (a := p) (b := q) (l₁ := r) (l₂ := t) h g => by
    by_cases e : p.1 = k
    · have e' : q.1 = k := h.1.symm.trans e
      rw [valN_pos e]
      have : atKey (q :: t) k = some q.2 := by simp [atKey, List.find?_cons, e']
      rw [this]
      exact h.2.2
    · have e' : ¬ q.1 = k := fun z => e (h.1.trans z)
      rw [valN_neg e]
      have : atKey (q :: t) k = atKey t k := by simp [atKey, List.find?_cons, e']
      rw [this]
      exact NE.val g
theorem nst_read {X : Cx} {w : Wd} {pins : List (Addr × Obj)} {σ : L2.St} {H : Hp} {s : Shared} {a : Addr} {es : List (NestedKey × Addr × V)} (hP : X.prog = w.P) (hW : X.w = w.W) (I : Inv X pins σ H s) (h : Rd H a (nst w a es)) (hk : NKs X H es) :
    (a == sysModules) = false ∧ ∃ xs, NE es xs ∧ s.heap.DictOfH (nestedKind X.prog X.w) a xs := by
  obtain ⟨⟨hs, xs, o, ea, ep, r, h1, h2, h3, h4, h5⟩, _, _⟩ := h.ok I.hok
  refine ⟨hs, xs, r, o, ea, ep, h1, h2, h3, ?_, fun x hx => ?_, h5⟩
  · rw [hP, hW]
    exact h4
  · have all : ∀ {es : List (NestedKey × Addr × V)} {xs : List (NestedKey × Addr × Value)}, NE es xs → NKs X H es → ∀ x ∈ xs, NestedIs s.heap x.1 (.ref x.2.1) ∧ x.1.depth ≤ 8 := by
      intro es xs r
      induction r with
      | nil => intro _ x hx; cases hx
      | @cons p q ps qs h t ih =>
        intro hk x hx
        rcases List.mem_cons.mp hx with rfl | hx
        · obtain ⟨k1, k2⟩ := hk p (List.mem_cons_self ..)
          rw [← h.1, ← h.2.1]
          exact ⟨k2 pins σ s _ I rfl, k1⟩
        · exact ih (fun e he => hk e (List.mem_cons_of_mem _ he)) x hx
    exact all r hk x hx
def rNIn (X : Cx) (w : Wd) (neg : Bool) : R2 := fun y x H Q => ∃ a es k kb, x = .ref a ∧ y = .ref kb ∧ Rd H a (nst w a es) ∧ NKs X H es ∧ k.depth ≤ 8 ∧ NK X H k y ∧ Q (.bl (if neg then !(valN es k).isSome else (valN es k).isSome)) H
def rNGet (X : Cx) (w : Wd) : R2 := fun x y H Q => ∃ a es k kb v, x = .ref a ∧ y = .ref kb ∧ Rd H a (nst w a es) ∧ NKs X H es ∧ k.depth ≤ 8 ∧ NK X H k y ∧ valN es k = some v ∧ Q v H
section
variable {X : Cx} {w : Wd}
theorem nk_room {A : Around} (h : A.units + 65 < cLine) {P : Program} {W : World} : (nestedKind P W).room A.in1 := by
  show A.in1.units + 8 < cLine
  rw [Around.in1_units]
  omega
theorem op_nsIn (hP : X.prog = w.P) (hW : X.w = w.W) (hu : X.A.units + 65 < cLine) : OpR X (compareOp .In) (rNIn X w false) := by
  intro pins s σ H x y v u Q I rx ry ⟨a, es, k, kb, ey, ex, h1, h2, h3, h4, q⟩
  subst ex ey
  obtain rfl : u = Value.ref a := ry
  have hk := h4 pins σ s v I rx
  obtain rfl : v = Value.ref kb := rx
  obtain ⟨hs, xs, r, hm⟩ := nst_read hP hW I h1 h2
  refine wpAny_in_heap (nk_room hu) ⟨hk, h3⟩ hs hm ⟨.bl (valN es k).isSome, H, I.tok _, ?_, q⟩
  have := (NE.val (k := k) r).isSome_eq
  rw [Option.isSome_map] at this
  rw [this]
  rfl
theorem op_nsNotIn (hP : X.prog = w.P) (hW : X.w = w.W) (hu : X.A.units + 65 < cLine) : OpR X (compareOp .NotIn) (rNIn X w true) := by
  intro pins s σ H x y v u Q I rx ry ⟨a, es, k, kb, ey, ex, h1, h2, h3, h4, q⟩
  subst ex ey
  obtain rfl : u = Value.ref a := ry
  have hk := h4 pins σ s v I rx
  obtain rfl : v = Value.ref kb := rx
  obtain ⟨hs, xs, r, hm⟩ := nst_read hP hW I h1 h2
  refine notIn_keyed (nk_room hu) ⟨hk, h3⟩ hs ⟨xs, hm, rfl⟩ ⟨.bl (!(valN es k).isSome), H, I.tok _, ?_, q⟩
  have := (NE.val (k := k) r).isSome_eq
  rw [valueAt_pairsH, this]
  rfl
theorem ix_ns (hP : X.prog = w.P) (hW : X.w = w.W) (hu : X.A.units + 65 < cLine) : IxR X (rNGet X w) := by
  intro value slice pins s σ H x y v u Q I rx ry ⟨a, es, k, kb, z, ex, ey, h1, h2, h3, h4, hz, q⟩ hs
  subst ex ey
  obtain rfl : v = Value.ref a := rx
  have hk := h4 pins σ s u I ry
  obtain rfl : u = Value.ref kb := ry
  obtain ⟨hsy, xs, r, hm⟩ := nst_read hP hW I h1 h2
  obtain ⟨w', hw, rw'⟩ := RelO.some_of (v := z) (o := (atKey xs k).map (·.2)) (by rw [← hz]; exact NE.val r)
  obtain ⟨p, hp, hp2⟩ := Option.map_eq_some_iff.mp hw
  refine PyProof.Rows.tail_any hm.typeIs PySem.F.slot_dict_getitem.lookup (wpAny_getItem_heap (nk_room hu) ⟨hk, h3⟩ hm hp ?_) hs
  rw [hp2]
  exact ⟨z, H, I.tok _, rw', q⟩
end
section
variable {w : Wd} {G : Gs} {H : Hp} {X : Cx}
theorem OwnN.nks (hx : ∀ a u, G.F a = some u → H a = some u) : ∀ {kvs : List (D × D)} {es : List (NestedKey × Addr × V)} {l : List Addr}, OwnN w G H kvs es l → NKs X H es
  | [], es, l, h => by
    obtain ⟨rfl, rfl⟩ := ownn_nil.mp h
    exact fun e he => nomatch he
  | (k, d) :: r, es, l, h => by
    obtain ⟨nk, a, v, t, l1, l2, rfl, h0, hd, hk, h1, h2, rfl⟩ := ownn_cons.mp h
    intro e he
    rcases List.mem_cons.mp he with rfl | he
    · exact ⟨hd, Fz.nk hx hk h0⟩
    · exact OwnN.nks hx h2 e he
theorem OwnN.lk {y : D} {ky : NestedKey} (hy : dnest y = some ky) : ∀ {kvs : List (D × D)} {es : List (NestedKey × Addr × V)} {l : List Addr}, OwnN w G H kvs es l →
    (lkD kvs y = none ∧ valN es ky = none) ∨ ∃ d v l', lkD kvs y = some d ∧ valN es ky = some v ∧ Own w G H d v l' ∧ ∀ a ∈ l', a ∈ l
  | [], ks, l, h => by
    obtain ⟨rfl, rfl⟩ := ownn_nil.mp h
    exact .inl ⟨rfl, rfl⟩
  | (k, d) :: r, ks, l, h => by
    obtain ⟨key, a, v, t, l1, l2, rfl, h0, _, _, h1, h2, rfl⟩ := ownn_cons.mp h
    unfold lkD
    rw [kq_nest h0 hy]
    by_cases e : key = ky
    · rw [decide_eq_true e, if_pos rfl]
      exact .inr ⟨d, v, l1, rfl, valN_pos e, h1, fun a ha => List.mem_append_left _ ha⟩
    · rw [decide_eq_false e, if_neg (by decide), valN_neg e]
      rcases OwnN.lk hy h2 with h | ⟨d', v', l', k1, k2, k3, k4⟩
      · exact .inl h
      · exact .inr ⟨d', v', l', k1, k2, k3, fun a ha => List.mem_append_right _ (k4 a ha)⟩
end
def nkvs? : D → Option (List (D × D))
  | .dix kvs => some kvs
  | .odix kvs => some kvs
  | _ => none
def isTp : D → Bool
  | .tup _ => true
  | .tux _ => true
  | _ => false
theorem Br.ndict {w : Wd} {b : Bs} {σ : L2.St} {e : En} {d : D} {v : V} {kvs : List (D × D)} (S : Sat w b σ e) (z : Br w b d v) (h : nkvs? d = some kvs) : ∃ a es l, v = .ref a ∧ Rd b.H a (nst w a es) ∧ OwnN w b.G b.H kvs es l := by
  obtain ⟨l, z, _⟩ := z
  cases d <;> try cases h
  · obtain ⟨a, o, ks, rfl, h1, _, h2⟩ := fz_dix.mp ((own_fz rfl).mp z).1
    exact ⟨a, ks, [], rfl, .inr ⟨o, S.ex _ _ h1⟩, h2.own⟩
  · obtain ⟨a, ks, l', rfl, h1, _, h2, _⟩ := own_odix.mp z
    exact ⟨a, ks, l', rfl, .inl h1, h2⟩
theorem Fz.tp {w : Wd} {G : Gs} {d : D} {v : V} (z : Fz w G d v) (h : isTp d = true) : ∃ a, v = .ref a := by
  cases d <;> try cases h
  · obtain ⟨a, _, rfl, _⟩ := fz_tup.mp z
    exact ⟨a, rfl⟩
  · obtain ⟨a, _, _, rfl, _⟩ := fz_tux.mp z
    exact ⟨a, rfl⟩
theorem isTp_F {d : D} (h : isTp d = true) : isF d = true := by
  cases d <;> first | rfl | cases h
def nkey (y : D) : Option NestedKey := if isTp y then (dnest y).bind fun k => if k.depth ≤ 8 then some k else none else none
theorem nkey_some {y : D} {k : NestedKey} (h : nkey y = some k) : isTp y = true ∧ dnest y = some k ∧ k.depth ≤ 8 := by
  unfold nkey at h
  split at h
  · obtain ⟨k', h1, h2⟩ := Option.bind_eq_some_iff.mp h
    split at h2
    · cases h2
      exact ⟨by assumption, h1, by assumption⟩
    · cases h2
  · cases h
def dInN (neg : Bool) : D → D → Option D := fun y d => match nkvs? d, nkey y with
  | some kvs, some _ => some (.bl (if neg then !(lkD kvs y).isSome else (lkD kvs y).isSome))
  | _, _ => none
def dIxN : D → D → Option D := fun d y => match nkvs? d, nkey y with
  | some kvs, some _ => (lkD kvs y).bind fun x => if isF x then some x else none
  | _, _ => none
theorem ob_inN {w : Wd} {X : Cx} {neg : Bool} : OpB w (rNIn X w neg) (dInN neg) := by
  intro s σ b e y x d vy vx Q S zy zx hg R
  unfold dInN at hg
  split at hg
  · rename_i kvs ky hk hy
    cases hg
    obtain ⟨y1, y2, y3⟩ := nkey_some hy
    obtain ⟨a, ks, l, rfl, h1, h2⟩ := zx.ndict S hk
    have zy' := zy.fz (isTp_F y1)
    obtain ⟨kb, rfl⟩ := zy'.tp y1
    refine ⟨a, ks, ky, kb, rfl, rfl, h1, h2.nks S.ex, y3, zy'.nk S.ex y2, R.now S (fz_bl.mpr ?_)⟩
    rcases h2.lk y2 with ⟨k1, k2⟩ | ⟨d', v', l', k1, k2, _⟩
    · rw [k1, k2]; rfl
    · rw [k1, k2]; rfl
  · cases hg
theorem ob_ixN {w : Wd} {X : Cx} : OpB w (rNGet X w) dIxN := by
  intro s σ b e x y d vx vy Q S zx zy hg R
  unfold dIxN at hg
  split at hg
  · rename_i kvs ky hk hy
    obtain ⟨y1, y2, y3⟩ := nkey_some hy
    obtain ⟨a, ks, l, rfl, h1, h2⟩ := zx.ndict S hk
    have zy' := zy.fz (isTp_F y1)
    obtain ⟨kb, rfl⟩ := zy'.tp y1
    obtain ⟨d', hd, hf⟩ := Option.bind_eq_some_iff.mp hg
    split at hf
    · rename_i hF
      cases hf
      rcases h2.lk y2 with ⟨k1, k2⟩ | ⟨d', v', l', k1, k2, k3, _⟩
      · rw [k1] at hd; cases hd
      · rw [k1] at hd
        cases hd
        exact ⟨a, ks, ky, kb, v', rfl, rfl, h1, h2.nks S.ex, y3, zy'.nk S.ex y2, k2, R.now S ((own_fz hF).mp k3).1⟩
    · cases hf
  · cases hg
end Vm

set_option maxHeartbeats 1000000
namespace Vm
open PySem L2
theorem _root_.L2.PSet.or {X : Cx} {t t' : TSet} (h : PSet X t) (h' : PSet X t') : PSet X (fun o i v H Q => t o i v H Q ∨ t' o i v H Q) := fun pins s σ H o i v ov iv u Q I ro ri rv q =>
  q.elim (h pins s σ H o i v ov iv u Q I ro ri rv) (h' pins s σ H o i v ov iv u Q I ro ri rv)
def rSetK : TSet := fun o i v H Q => ∃ a H', o = .ref a ∧ DPut H a i v H' ∧ Q H'
theorem set_dk {X : Cx} (hu : X.A.units + 1 < cLine) : PSet X rSetK := by
  intro pins s σ H o i v ov iv u Q I ro ri rv ⟨a, H', eo, g, q⟩
  subst eo
  obtain rfl : ov = Value.ref a := ro
  exact d_setItem hu I g ri rv fun s4 I4 => ⟨H', I4, q⟩
def putN (es : List (NestedKey × Addr × V)) (k : NestedKey) (a : Addr) (v : V) : List (NestedKey × Addr × V) :=
  if es.any (fun e => decide (e.1 = k)) then es.map (fun e => if e.1 = k then (e.1, e.2.1, v) else e) else es ++ [(k, a, v)]
theorem NE.any {k : NestedKey} : ∀ {es : List (NestedKey × Addr × V)} {xs : List (NestedKey × Addr × Value)}, NE es xs → (es.any fun e => decide (e.1 = k)) = (atKey xs k).isSome
  | _, _, .nil => rfl
  | _, _, .cons (a := p) (b := q) (l₁ := r) (l₂ := t) h g => by
    rw [List.any_cons, NE.any (k := k) g]
    by_cases e : p.1 = k
    · have e' : q.1 = k := h.1.symm.trans e
      simp [e, atKey, List.find?_cons, e']
    · have e' : ¬ q.1 = k := fun z => e (h.1.trans z)
      simp [e, atKey, List.find?_cons, e']
theorem NE.mapP {k : NestedKey} {v : V} {u : Value} (rv : RelV v u) : ∀ {es : List (NestedKey × Addr × V)} {xs : List (NestedKey × Addr × Value)}, NE es xs → NE (es.map fun e => if e.1 = k then (e.1, e.2.1, v) else e) (xs.map (putAt k u))
  | _, _, .nil => .nil
  | _, _, .cons (a := p) (b := q) h g => by
    refine .cons ?_ (NE.mapP rv g)
    unfold putAt
    dsimp only
    by_cases e : p.1 = k
    · have e' : q.1 = k := h.1.symm.trans e
      rw [if_pos e, if_pos e']
      exact ⟨h.1, h.2.1, rv⟩
    · have e' : ¬ q.1 = k := fun z => e (h.1.trans z)
      rw [if_neg e, if_neg e']
      exact h
theorem NE.put {k : NestedKey} {a : Addr} {v : V} {u : Value} (rv : RelV v u) {es : List (NestedKey × Addr × V)} {xs : List (NestedKey × Addr × Value)} (h : NE es xs) : NE (putN es k a v) (storedH xs k a u) := by
  unfold putN storedH
  rw [h.any]
  split
  · exact NE.mapP rv h
  · exact Paired.snoc h ⟨rfl, rfl, rv⟩
def rSetN (X : Cx) (w : Wd) : TSet := fun o i v H Q => ∃ a es k kb, o = .ref a ∧ i = .ref kb ∧ H a = some (nst w a es) ∧ NKs X H es ∧ k.depth ≤ 8 ∧ NK X H k i ∧ es.length ≤ sizeLine ∧ Q (upd H a (nst w a (putN es k kb v)))
theorem set_ns {X : Cx} {w : Wd} (hP : X.prog = w.P) (hW : X.w = w.W) (hu : X.A.units + 65 < cLine) : PSet X (rSetN X w) := by
  intro pins s σ H o i v ov iv u Q I ro ri rv ⟨a, es, k, kb, eo, ei, h1, h2, h3, h4, hl, q⟩
  subst eo ei
  obtain rfl : ov = Value.ref a := ro
  have hk := h4 pins σ s iv I ri
  obtain rfl : iv = Value.ref kb := ri
  obtain ⟨hs, xs, r, hm⟩ := nst_read hP hW I (.inl h1) h2
  refine wpAny_setItem_heap (hsz := by rw [← Paired.length r]; exact hl) (nk_room hu) ⟨hk, h3⟩ hm fun h' hm' hs' => ⟨_, ?_, q⟩
  have hmu : Mut (H a) := by rw [h1]; exact True.intro
  obtain ⟨q, ea, ep, hq, k2, k3, k4, _, k5⟩ := hm'
  refine d_write I hmu hs' ⟨q, hq⟩ (show ObjOk _ _ _ _ _ (HO.ext _) from ⟨⟨hs, _, q, ea, ep, NE.put rv r, hq, k2, k3, ?_, k5⟩, ⟨q, hq⟩, fun g1 g2 ⟨m1, xs', o', e1, e2, m2, m3, m4⟩ hg => ⟨m1, xs', o', e1, e2, m2, hg _ m3, m4⟩⟩)
  rw [hP, hW] at k4
  exact k4
theorem pe_dnewN {X : Cx} {w : Wd} {pos : Pos} : PE X (.Dict [] [] pos) (fun _ H Q => ∀ p, H p = none → Q (.ref p) (upd H p (nst w p []))) := ⟨fun pins s σ H Q I h =>
  wpAny_Dict_empty ⟨.ref s.heap.objs.size, _, I.laid (a := s.heap.objs.size) (o := nst w s.heap.objs.size []) (t' := s.toks) (fun _ _ q => Heap.get?_push_of_some _ q) (Nat.le_refl _)
    (show ObjOk _ _ _ _ _ (HO.ext _) from ⟨⟨beq_eq_false_iff_ne.mpr (Ne.symm (Nat.ne_of_lt I.big)), [], _, #[], 0, .nil, Heap.get?_push_size _ rfl, ⟨rfl, rfl, rfl⟩, rfl, rfl, List.nodup_nil⟩, ⟨_, Heap.get?_push_size _ rfl⟩,
      fun g1 g2 ⟨m1, xs', o', e1, e2, m2, m3, m4⟩ hg => ⟨m1, xs', o', e1, e2, m2, hg _ m3, m4⟩⟩), rfl, h _ (I.hok.fresh (Nat.le_refl _))⟩⟩
section
variable {w : Wd} {W : Wx} {s : Bool} {X : Cx} {pos : Pos}
theorem RetV.lay {b : Bs} {σ : L2.St} {e : En} {d : D} {Q : VK} (S : Sat w b σ e) (r : RetV w s b σ e d Q) {p : Addr} {u : HO} (hp : b.H p = none) (z : Own w b.G (upd b.H p u) d (.ref p) [p]) : Q (.ref p) (upd b.H p u) := by
  refine r (.ref p) (b.lay p u) (Gr.lay hp) (S.lay hp) ⟨[p], z, by simp, fun a ha => ?_⟩
  have : a = p := by simpa using ha
  subst this
  exact ⟨S.fresh_F hp, S.fresh_own hp, .inl hp⟩
def eDic : EM := fun e => .ok (.odic []) e
def eDix : EM := fun e => .ok (.odix []) e
theorem PR.okV {σ : L2.St} {b : Bs} {e : En} {d : D} {Q : VK} (h : PR w W s σ b (Rs.ok d e) fun d b' _ => ∀ v, Tmp w b b' d v → Q v b'.H) : RetV w s b σ e d Q := fun v b' g S t => h b' g S v t
theorem vDix : PE X (.Dict [] [] pos) (tV w W s eDix) := (pe_dnewN (w := w)).imp fun σ H Q ⟨b, e, he, S, h⟩ => by
  subst he
  exact fun p hp => (PR.okV h).lay S hp (own_odix.mpr ⟨p, [], [], rfl, upd_same, Nat.zero_le _, ownn_nil.mpr ⟨rfl, rfl⟩, rfl⟩)
end
section
variable {w : Wd} {b b0 : Bs} {σ : L2.St} {e : En} {x : Ix} {d d' : D} {u' : HO} {a : Addr} {l l' : List Addr}
theorem Sat.mutO (S : Sat w b σ e) (g : Gr false b0 b) (hx : e.at x = some d) (hr : rootV b σ x = some (.ref a)) (ho : b.o x = a :: l) (z : Own w b.G (upd b.H a u') d' (.ref a) (a :: l')) (na : a ∉ l') (nd : l'.Nodup)
    (hs : ∀ c ∈ l', c ∈ l ∨ (b.G.F c = none ∧ ¬ b.own c ∧ (b0.H c = none ∨ b0.own c))) : ∃ b', b'.H = upd b.H a u' ∧ Gr false b0 b' ∧ Sat w b' σ (e.put x (some d')) := by
  have hain : a ∈ b.o x := by rw [ho]; exact List.mem_cons_self ..
  have := S.hold (σ' := σ) (x := x) (H' := upd b.H a u') (l := a :: l') (d := d') (v := .ref a) g (at_ok hx) (fun c u h n => by
      have : c ≠ a := fun z => n (z ▸ hain)
      exact (upd_ne this).trans h) (fun c h => by
      by_cases hc : c = a
      · rw [hc, upd_same] at h
        cases h
      · rw [upd_ne hc] at h
        exact h)
    z (List.nodup_cons.mpr ⟨na, nd⟩) (fun c hc => by
      rcases List.mem_cons.mp hc with rfl | hc
      · exact ⟨S.fo x _ hain, .inl hain⟩
      · rcases hs c hc with k | ⟨k1, k2, k3⟩
        · have : c ∈ b.o x := by rw [ho]; exact List.mem_cons_of_mem _ k
          exact ⟨S.fo x c this, .inl this⟩
        · exact ⟨k1, .inr ⟨k2, k3⟩⟩) hr (fun _ _ => rfl) rfl
  exact ⟨_, rfl, this.1, this.2⟩
end
section
variable {w : Wd} {G : Gs} {H : Hp}
theorem OwnN.append : ∀ {ds ds' : List (D × D)} {vs vs' : List (NestedKey × Addr × V)} {l l' : List Addr}, OwnN w G H ds vs l → OwnN w G H ds' vs' l' → OwnN w G H (ds ++ ds') (vs ++ vs') (l ++ l')
  | [], ds', vs, vs', l, l', h, h' => by
    obtain ⟨rfl, rfl⟩ := ownn_nil.mp h
    exact h'
  | (k, d) :: ds, ds', vs, vs', l, l', h, h' => by
    obtain ⟨key, a, v, r, l1, l2, rfl, h0, hd, hk, h1, h2, rfl⟩ := ownn_cons.mp h
    exact ownn_cons.mpr ⟨key, a, v, r ++ vs', l1, l2 ++ l', rfl, h0, hd, hk, h1, OwnN.append h2 h', by rw [List.append_assoc]⟩
theorem OwnN.any {y : D} {ky : NestedKey} (hy : dnest y = some ky) : ∀ {kvs : List (D × D)} {es : List (NestedKey × Addr × V)} {l : List Addr}, OwnN w G H kvs es l → (kvs.any fun p => kq p.1 y) = es.any fun p => decide (p.1 = ky)
  | [], ks, l, h => by
    obtain ⟨rfl, rfl⟩ := ownn_nil.mp h
    rfl
  | (k, d) :: r, ks, l, h => by
    obtain ⟨key, a, v, t, l1, l2, rfl, h0, _, _, h1, h2, rfl⟩ := ownn_cons.mp h
    simp only [List.any_cons, kq_nest h0 hy, OwnN.any hy h2]
theorem OwnN.mapP {y x : D} {v : V} {ky : NestedKey} (hy : dnest y = some ky) (z : Fz w G x v) : ∀ {kvs : List (D × D)} {es : List (NestedKey × Addr × V)} {l : List Addr}, OwnN w G H kvs es l → l.Nodup →
    ∃ l', OwnN w G H (kvs.map fun p => if kq p.1 y then (p.1, x) else p) (es.map fun p => if p.1 = ky then (p.1, p.2.1, v) else p) l' ∧ l'.Nodup ∧ ∀ a ∈ l', a ∈ l
  | [], ks, l, h, hn => by
    obtain ⟨rfl, rfl⟩ := ownn_nil.mp h
    exact ⟨[], ownn_nil.mpr ⟨rfl, rfl⟩, List.nodup_nil, fun _ h => h⟩
  | (k, d) :: r, ks, l, h, hn => by
    obtain ⟨key, a, u, t, l1, l2, rfl, h0, hd, hk, h1, h2, rfl⟩ := ownn_cons.mp h
    obtain ⟨n1, n2, n3⟩ := List.nodup_append.mp hn
    obtain ⟨l', k1, k2, k3⟩ := OwnN.mapP hy z h2 n2
    simp only [List.map_cons]
    rw [kq_nest h0 hy]
    by_cases e : key = ky
    · rw [decide_eq_true e, if_pos rfl, if_pos e]
      exact ⟨l', ownn_cons.mpr ⟨key, a, v, _, [], l', rfl, h0, hd, hk, z.own, k1, rfl⟩, k2, fun a ha => List.mem_append_right _ (k3 a ha)⟩
    · rw [decide_eq_false e, if_neg (by decide), if_neg e]
      exact ⟨l1 ++ l', ownn_cons.mpr ⟨key, a, u, _, l1, l', rfl, h0, hd, hk, h1, k1, rfl⟩, List.nodup_append.mpr ⟨n1, k2, fun a ha c hc => n3 a ha c (k3 c hc)⟩, fun a ha => (List.mem_append.mp ha).elim (fun h => List.mem_append_left _ h) fun h => List.mem_append_right _ (k3 a h)⟩
theorem OwnN.put {y x : D} {v : V} {ky : NestedKey} {kb : Addr} (hy : dnest y = some ky) (hd : ky.depth ≤ 8) (zy : Fz w G y (.ref kb)) (z : Fz w G x v) {kvs : List (D × D)} {es : List (NestedKey × Addr × V)} {l : List Addr} (h : OwnN w G H kvs es l) (hn : l.Nodup) :
    ∃ l', OwnN w G H (putD kvs y x) (putN es ky kb v) l' ∧ l'.Nodup ∧ ∀ a ∈ l', a ∈ l := by
  unfold putD putN
  rw [h.any hy]
  split
  · exact h.mapP hy z hn
  · refine ⟨l ++ [], h.append (ownn_cons.mpr ⟨ky, kb, v, [], [], [], rfl, hy, hd, zy, z.own, ownn_nil.mpr ⟨rfl, rfl⟩, rfl⟩), ?_⟩
    rw [List.append_nil]
    exact ⟨hn, fun _ h => h⟩
end
def kSetA (y x : D) : D → Option D
  | .olst ds => match y with
    | .int j => (ixN ds.length j).map fun n => .olst (ds.set n x)
    | _ => none
  | .odic kvs => if (dkey y).isSome ∧ kvs.length < LIM then some (.odic (putD kvs y x)) else none
  | .odix kvs => if (nkey y).isSome ∧ kvs.length < LIM then some (.odix (putD kvs y x)) else none
  | _ => none
def hasO {α : Type} (i : Nat) (e : En) (no : α) (k : α) : α := match hold? i e with
  | some (_, .olst _) => k
  | some (_, .odic _) => k
  | some (_, .odix _) => k
  | _ => no
def sSetA (i : Nat) (fi fv : EM) : SM := fun e => ofE (fv e) fun d e1 => hasO i e1 .stuck (ofE (fi e1) fun j e2 => nxO (chg i (kSetA j d) e2))
def rSetA (X : Cx) (w : Wd) : TSet := fun o i v H Q => rSetL o i v H Q ∨ rSetK o i v H Q ∨ rSetN X w o i v H Q
section
variable {w : Wd} {W : Wx} {σ : L2.St} {b b0 : Bs} {e : En} {i : Nat} {D' : Ends}
theorem hasO_some {k : So} (S : Sat w b σ e) (h : SR w W b (hasO i e .stuck k) D') : ∃ a, σ[i]? = some (some (.ref a)) ∧ SR w W b k D' := by
  unfold hasO at h
  split at h
  · rename_i x ds hh
    obtain ⟨v, h1, h2, h3, h4⟩ := S.root hh
    obtain ⟨a, _, _, rfl, _⟩ := own_olst.mp h4
    exact ⟨a, h1, h⟩
  · rename_i x ds hh
    obtain ⟨v, h1, h2, h3, h4⟩ := S.root hh
    obtain ⟨a, _, _, rfl, _⟩ := own_odic.mp h4
    exact ⟨a, h1, h⟩
  · rename_i x ds hh
    obtain ⟨v, h1, h2, h3, h4⟩ := S.root hh
    obtain ⟨a, _, _, rfl, _⟩ := own_odix.mp h4
    exact ⟨a, h1, h⟩
  · exact h.elim
theorem setA_step {X : Cx} {y x : D} {vy vx : V} {va : V} {Q : Hp → Prop} (S : Sat w b σ e) (zy : Fz w b.G y vy) (zx : Fz w b.G x vx) {e3 : En} (h : chg i (kSetA y x) e = some e3) (hv : σ[i]? = some (some va))
    (k : ∀ b', Gr false b b' → Sat w b' σ e3 → Q b'.H) : rSetA X w va vy vx b.H Q := by
  obtain ⟨x1, d1, d2, m1, m2, rfl⟩ := chg_some h
  obtain ⟨v, n1, n2, n3, n4⟩ := S.root m1
  rw [hv] at n1
  cases n1
  have hnd := S.nd x1
  cases d1 <;> try cases m2
  · rename_i ds
    cases y <;> try cases m2
    rename_i j
    obtain ⟨n, hn, rfl⟩ := Option.map_eq_some_iff.mp (show (ixN ds.length j).map _ = some d2 from m2)
    obtain ⟨a, vs, l', rfl, k1, k2, k3, k4⟩ := own_olst.mp n4
    rw [k4] at hnd
    cases fz_int.mp zy
    obtain ⟨l3, o1, o2, o3⟩ := k3.set n (List.nodup_cons.mp hnd).2 zx
    obtain ⟨b3, q1, q2, q3⟩ := S.mutL (Gr.refl b) n3 n2 k4 k1 (by rw [List.length_set]; exact k2) o1 o2 (fun c hc => .inl (o3 c hc))
    refine .inl ⟨a, vs, j, n, rfl, rfl, k1, by rw [k3.length]; exact hn, ?_⟩
    rw [← q1]
    exact k b3 q2 q3
  · rename_i kvs
    have m2' : (if (dkey y).isSome ∧ kvs.length < LIM then some (D.odic (putD kvs y x)) else none) = some d2 := m2
    split at m2'
    · rename_i hc
      cases m2'
      obtain ⟨ky, hy⟩ := Option.isSome_iff_exists.mp hc.1
      obtain ⟨a, ks, l', rfl, k1, k2, k3, k4⟩ := own_odic.mp n4
      rw [k4] at hnd
      have hn2 := List.nodup_cons.mp hnd
      obtain ⟨l3, o1, o2, o3⟩ := k3.put hy zx hn2.2
      have na : a ∉ l3 := fun z => hn2.1 (o3 a z)
      obtain ⟨b3, q1, q2, q3⟩ := S.mutO (u' := .dK (putK ks ky vx)) (l' := l3) (d' := .odic (putD kvs y x)) (Gr.refl b) n3 n2 k4 (own_odic.mpr ⟨a, _, l3, rfl, upd_same, Nat.le_trans (length_putD ..) (lim_size (show kvs.length + 1 ≤ LIM from hc.2)),
        o1.keep (.refl _) (fun c hc u hu => by
          have : c ≠ a := fun z => na (z ▸ hc)
          exact (upd_ne this).trans hu), rfl⟩) na o2 (fun c hc => .inl (o3 c hc))
      have hv : vy = kV ky := dkey_kV zy hy
      refine .inr (.inl ⟨a, _, rfl, .inl ⟨ks, ky, k1, hv, ?_, rfl⟩, ?_⟩)
      · rw [k3.length]
        exact Nat.lt_of_lt_of_le hc.2 (lim_size (Nat.le_refl _))
      · rw [← q1]
        exact k b3 q2 q3
    · cases m2'
  · rename_i kvs
    have m2' : (if (nkey y).isSome ∧ kvs.length < LIM then some (D.odix (putD kvs y x)) else none) = some d2 := m2
    split at m2'
    · rename_i hc
      cases m2'
      obtain ⟨ky, hy⟩ := Option.isSome_iff_exists.mp hc.1
      obtain ⟨y1, y2, y3⟩ := nkey_some hy
      obtain ⟨kb, rfl⟩ := zy.tp y1
      obtain ⟨a, ks, l', rfl, k1, k2, k3, k4⟩ := own_odix.mp n4
      rw [k4] at hnd
      have hn2 := List.nodup_cons.mp hnd
      obtain ⟨l3, o1, o2, o3⟩ := k3.put y2 y3 zy zx hn2.2
      have na : a ∉ l3 := fun z => hn2.1 (o3 a z)
      obtain ⟨b3, q1, q2, q3⟩ := S.mutO (u' := nst w a (putN ks ky kb vx)) (l' := l3) (d' := .odix (putD kvs y x)) (Gr.refl b) n3 n2 k4 (own_odix.mpr ⟨a, _, l3, rfl, upd_same, Nat.le_trans (length_putD ..) (lim_size (show kvs.length + 1 ≤ LIM from hc.2)),
        o1.keep (.refl _) (fun c hc u hu => by
          have : c ≠ a := fun z => na (z ▸ hc)
          exact (upd_ne this).trans hu), rfl⟩) na o2 (fun c hc => .inl (o3 c hc))
      refine .inr (.inr ⟨a, ks, ky, kb, rfl, rfl, k1, k3.nks S.ex, y3, zy.nk S.ex y2, ?_, ?_⟩)
      · rw [k3.length]
        exact Nat.le_of_lt (Nat.lt_of_lt_of_le hc.2 (lim_size (Nat.le_refl _)))
      · rw [← q1]
        exact k b3 q2 q3
    · cases m2'
end
section
variable {X : Cx} {W : Wx} {s : Bool} {w : Wd} {pos p : Pos} {x c : Expr} {fi fv : EM}
theorem set_A (o : Okx w X) : PSet X (rSetA X w) := by
  have := o.u
  exact set_list.or ((set_dk (by omega)).or (set_ns o.P o.W o.u))
theorem zSetA (i : Nat) {y : Str} {ix : Expr} {tp : Pos} (o : Okx w X) (hx : PE X x (tZ w W false fv)) (hi : PE X ix (tZ w W false fi)) (hN : X.N[i]? = some y := by rfl) (hv : Vis X.env.scope y := by first | exact Or.inl rfl | exact Or.inr (Or.inl rfl) | exact Or.inr (Or.inr rfl)) (hd : (y == ("__debug__" : Str)) = false := by decide)
    (hcd : (y == ("__classdict__" : Str)) = false := by decide)
    (ha : ∀ v, assign (.Subscript (.Name y p) ix tp) X.env v = (do
      let ov ← holding [v] (eval (.Name y p) X.env)
      let iv ← holding [v, ov] (eval ix X.env)
      standAt tp
      holding [v, ov, iv] (setItem ov iv v)
      release [v, ov, iv] []) := by intro _; rfl)
    (hs : swapsWithSole [.Subscript (.Name y p) ix tp] x pos.line X.env = pure false := by rfl) (hw : swappedStores [.Subscript (.Name y p) ix tp] x X.env = pure none := by rfl)
    (h1 : (assignEach [.Subscript (.Name y p) ix tp] X.env).map (·.2) = [assign (.Subscript (.Name y p) ix tp) X.env] := by rfl) :
    PS X (.Assign [.Subscript (.Name y p) ix tp] x pos) (tS w W (sSetA i fi fv)) :=
  (ps_asg hx (pg_sub (pv i hN hv hd hcd) hi (set_A o) ha) hs hw h1).imp fun D σ H ⟨b, e, he, S, h⟩ => by
  subst he
  refine ⟨b, e, rfl, S, (SR.ofE h).mono fun d b1 e1 g1 S1 h1 v z => ?_⟩
  obtain ⟨a, k1, h1⟩ := hasO_some S1 h1
  refine ⟨_, k1, b1, e1, rfl, S1, (SR.ofE h1).mono fun j b2 e2 g2 S2 h2 vj zj => ?_⟩
  obtain ⟨e3, h2, h3⟩ := nxO_some h2
  exact setA_step S2 zj (z.mono g2.g) h2 k1 fun b' g' S' => h3 b' σ g' S'
end
end Vm

set_option maxHeartbeats 1000000
namespace Vm
open PySem L2
def dInA := orD dIn (orD (dInK false) (dInN false))
def dNotInA := orD dNotIn (orD (dInK true) (dInN true))
def rDEq (neg : Bool) : R2 := fun x y H Q => ∃ a b ks ls, x = .ref a ∧ y = .ref b ∧ Rd H a (.dK ks) ∧ Rd H b (.dK ls) ∧ (ks = [] ∨ ls = []) ∧ Q (.bl (if neg then !(ks.length == ls.length) else ks.length == ls.length)) H
def dEqK (neg : Bool) : D → D → Option D := fun x y => match dkvs? x, dkvs? y with
  | some ks, some ls => if ks.isEmpty ∨ ls.isEmpty then some (.bl (if neg then !(ks.length == ls.length) else ks.length == ls.length)) else none
  | _, _ => none
section
variable {X : Cx}
theorem deq_hits {X : Cx} {s : Shared} {H : Hp} {ks ls : List (Key × V)} {va vb : List (Key × Value)} (ra : KV ks va) (rb : KV ls vb) (e : ks = [] ∨ ls = []) {A : Around} : va.length = vb.length → PySem.W.KeqHits A s vb va true := by
  intro h
  have l1 := Paired.length ra
  have l2 := Paired.length rb
  have : va = [] := by
    apply List.eq_nil_of_length_eq_zero
    rcases e with rfl | rfl
    · simpa using l1.symm
    · rw [h]; simpa using l2.symm
  subst this
  exact .nil
theorem op_dEq (hu : X.A.units < cLine) : OpR X (compareOp .Eq) (rDEq false) := by
  intro pins s σ H x y v u Q I rx ry ⟨a, b, ks, ls, ex, ey, ea, eb, em, q⟩
  subst ex ey
  obtain rfl : v = Value.ref a := rx
  obtain rfl : u = Value.ref b := ry
  obtain ⟨_, ya, va, ra, da⟩ := dk_rd I.hok ea
  obtain ⟨_, yb, vb, rb, db⟩ := dk_rd I.hok eb
  refine PySem.W.keq_eq (knd := mixKind X.prog X.w) (r := true) ya yb da db hu (deq_hits (X := X) (H := H) ra rb em) (fin_bl I q ?_)
  have l1 := Paired.length ra
  have l2 := Paired.length rb
  simp [l1, l2]
theorem op_dNe (hu : X.A.units < cLine) : OpR X (compareOp .NotEq) (rDEq true) := by
  intro pins s σ H x y v u Q I rx ry ⟨a, b, ks, ls, ex, ey, ea, eb, em, q⟩
  subst ex ey
  obtain rfl : v = Value.ref a := rx
  obtain rfl : u = Value.ref b := ry
  obtain ⟨_, ya, va, ra, da⟩ := dk_rd I.hok ea
  obtain ⟨_, yb, vb, rb, db⟩ := dk_rd I.hok eb
  refine PySem.W.keq_ne (knd := mixKind X.prog X.w) (r := true) ya yb da db hu (deq_hits (X := X) (H := H) ra rb em) (fin_bl I q ?_)
  have l1 := Paired.length ra
  have l2 := Paired.length rb
  simp [l1, l2]
end
theorem ob_eqK {w : Wd} {neg : Bool} : OpB w (rDEq neg) (dEqK neg) := by
  intro s σ b e x y d vx vy Q S zx zy hg R
  unfold dEqK at hg
  split at hg
  · rename_i ks ls hk hl
    split at hg
    · rename_i he
      cases hg
      obtain ⟨a, va, l, rfl, h1, h2⟩ := zx.dict S hk
      obtain ⟨a', vb, l', rfl, h1', h2'⟩ := zy.dict S hl
      refine ⟨a, a', va, vb, rfl, rfl, h1, h1', ?_, ?_⟩
      · rcases he with he | he
        · left
          have : ks = [] := by simpa using he
          subst this
          exact (ownk_nil.mp h2).1
        · right
          have : ls = [] := by simpa using he
          subst this
          exact (ownk_nil.mp h2').1
      · rw [h2.length, h2'.length]
        exact R.now S (fz_bl.mpr rfl)
    · cases hg
  · cases hg
def dEqA := orD dEq (dEqK false)
def dNeA := orD dNe (dEqK true)
section
variable {X : Cx} {w : Wd}
theorem r_inA (o : Okx w X) : OpR X (compareOp .In) (fun x y H Q => (rIn w.K false x y H Q ∨ rInD w.K x y H Q ∨ ∃ i j, x = .str i ∧ y = .str j ∧ Q (.bl (!(Builtin.Str.occurrences j i 0 j.length 1).isEmpty)) H) ∨ rDIn false x y H Q ∨ rNIn X w false x y H Q) := by
  have := o.u
  exact (r_in o).or ((op_dkIn (by omega)).or (op_nsIn o.P o.W o.u))
theorem r_notInA (o : Okx w X) : OpR X (compareOp .NotIn) (fun x y H Q => (rIn w.K true x y H Q ∨ rNotInD w.K x y H Q ∨ ∃ i j, x = .str i ∧ y = .str j ∧ Q (.bl (!(!(Builtin.Str.occurrences j i 0 j.length 1).isEmpty))) H) ∨ rDIn true x y H Q ∨ rNIn X w true x y H Q) := by
  have := o.u
  exact (r_notIn o).or ((op_dkNotIn (by omega)).or (op_nsNotIn o.P o.W o.u))
theorem ob_inA : OpB w (fun x y H Q => (rIn w.K false x y H Q ∨ rInD w.K x y H Q ∨ ∃ i j, x = .str i ∧ y = .str j ∧ Q (.bl (!(Builtin.Str.occurrences j i 0 j.length 1).isEmpty)) H) ∨ rDIn false x y H Q ∨ rNIn X w false x y H Q) dInA := ob_in.or (ob_inK.or ob_inN)
theorem ob_notInA : OpB w (fun x y H Q => (rIn w.K true x y H Q ∨ rNotInD w.K x y H Q ∨ ∃ i j, x = .str i ∧ y = .str j ∧ Q (.bl (!(!(Builtin.Str.occurrences j i 0 j.length 1).isEmpty))) H) ∨ rDIn true x y H Q ∨ rNIn X w true x y H Q) dNotInA := ob_notIn.or (ob_inK.or ob_inN)
theorem r_eqA (o : Okx w X) : OpR X (compareOp .Eq) (fun x y H Q => rEqD w.K x y H Q ∨ rDEq false x y H Q) := by
  have := o.u
  exact (r_eq o).or (op_dEq (by omega))
theorem r_neA (o : Okx w X) : OpR X (compareOp .NotEq) (fun x y H Q => rNeD w.K x y H Q ∨ rDEq true x y H Q) := by
  have := o.u
  exact (r_ne o).or (op_dNe (by omega))
theorem ob_eqA : OpB w (fun x y H Q => rEqD w.K x y H Q ∨ rDEq false x y H Q) dEqA := ob_eq.or ob_eqK
theorem ob_neA : OpB w (fun x y H Q => rNeD w.K x y H Q ∨ rDEq true x y H Q) dNeA := ob_ne.or ob_eqK
def dIxA := orD dIx (orD dIxK dIxN)
theorem r_ixA (o : Okx w X) : IxR X (fun x y H Q => rIx w.K x y H Q ∨ rDGet x y H Q ∨ rNGet X w x y H Q) := by
  have := o.u
  exact (r_ix o).or ((ix_dk (by omega)).or (ix_ns o.P o.W o.u))
theorem ob_ixA : OpB w (fun x y H Q => rIx w.K x y H Q ∨ rDGet x y H Q ∨ rNGet X w x y H Q) dIxA := ob_ix.or (ob_ixK.or ob_ixN)
end
def itItems (f : EM) : LM := fun e => (f e).bind fun x e1 => match x with
  | .dic kvs => .ok (kvs.map fun p => .tup [p.1, p.2]) e1
  | _ => .stuck
theorem FzK.get {w : Wd} {G : Gs} : ∀ {kvs : List (D × D)} {ks : List (Key × V)} {i : Nat} {p : D × D}, FzK w G kvs ks → kvs[i]? = some p → ∃ k v, ks[i]? = some (k, v) ∧ dkey p.1 = some k ∧ Fz w G p.2 v
  | [], ks, i, p, h, e => by simp at e
  | (k, d) :: r, ks, 0, p, h, e => by
    obtain ⟨key, v, t, rfl, h0, h1, h2⟩ := fzk_cons.mp h
    simp at e
    subst e
    exact ⟨key, v, rfl, h0, h1⟩
  | (k, d) :: r, ks, i + 1, p, h, e => by
    obtain ⟨key, v, t, rfl, h0, h1, h2⟩ := fzk_cons.mp h
    obtain ⟨k', v', e', z⟩ := FzK.get (i := i) h2 (by simpa using e)
    exact ⟨k', v', by simpa using e', z⟩
section
variable {X : Cx} {W : Wx} {s : Bool} {w : Wd} {pos p tpos kpos cpos apos : Pos} {x c : Expr} {elts : List Expr} {f g : EM} {kk j : Nat}
end
def kints? : List (D × D) → Option (List Int)
  | [] => some []
  | (.int i, _) :: r => (kints? r).map (i :: ·)
  | _ => none
def dMinK : D → Option D
  | .odic kvs => match kints? kvs with
    | some (n :: ns) => some (.int (minL n ns))
    | _ => none
  | _ => none
def un2 (g g' : D → Option D) : D → Option D := fun x => match g x with
  | some d => some d
  | none => g' x
def dMinA := un2 dMin dMinK
def rMinA (K : PySem.W.Frag) : List V → Hp → VK → Prop := fun xs H Q => rMin K xs H Q ∨ rMinK xs H Q
end Vm

set_option maxHeartbeats 1000000
namespace Vm
open PySem L2
def filD (kvs : List (D × D)) (y : D) : List (D × D) := kvs.filter fun p => !kq p.1 y
section
variable {w : Wd} {G : Gs} {H : Hp}
end
section
variable {w : Wd} {b b0 : Bs} {σ : L2.St} {e : En} {x : Ix} {d d' : D} {u' : HO} {a : Addr} {l l' : List Addr}
theorem Sat.mutG (S : Sat w b σ e) (g : Gr false b0 b) (hx : e.at x = some d) (hr : rootV b σ x = some (.ref a)) (ho : b.o x = a :: l) (z : Own w b.G (upd b.H a u') d' (.ref a) (a :: l')) (na : a ∉ l') (nd : l'.Nodup)
    (hs : ∀ c ∈ l', c ∈ l ∨ (b.G.F c = none ∧ ¬ b.own c ∧ (b0.H c = none ∨ b0.own c))) : Gr false b0 (b.give (upd b.H a u') x (a :: l')) ∧ Sat w (b.give (upd b.H a u') x (a :: l')) σ (e.put x (some d')) := by
  have hain : a ∈ b.o x := by rw [ho]; exact List.mem_cons_self ..
  exact S.hold (σ' := σ) (x := x) (H' := upd b.H a u') (l := a :: l') (d := d') (v := .ref a) g (at_ok hx) (fun c u h n => by
      have : c ≠ a := fun z => n (z ▸ hain)
      exact (upd_ne this).trans h) (fun c h => by
      by_cases hc : c = a
      · rw [hc, upd_same] at h
        cases h
      · rw [upd_ne hc] at h
        exact h)
    z (List.nodup_cons.mpr ⟨na, nd⟩) (fun c hc => by
      rcases List.mem_cons.mp hc with rfl | hc
      · exact ⟨S.fo x _ hain, .inl hain⟩
      · rcases hs c hc with k | ⟨k1, k2, k3⟩
        · have : c ∈ b.o x := by rw [ho]; exact List.mem_cons_of_mem _ k
          exact ⟨S.fo x c this, .inl this⟩
        · exact ⟨k1, .inr ⟨k2, k3⟩⟩) hr (fun _ _ => rfl) rfl
end
def ePopD (i : Nat) (fk : EM) : EM := fun e => match e.sl[i]? with
  | some (some (.odic _)) => (fk e).bind fun y e1 => match e1.sl[i]? with
    | some (some (.odic kvs)) => match dkey y, lkD kvs y with
      | some _, some d => .ok d ⟨e1.sl.set i (some (.odic (filD kvs y))), e1.mu⟩
      | _, _ => .stuck
    | _ => .stuck
  | _ => .stuck
section
variable {X : Cx} {W : Wx} {s : Bool} {w : Wd} {pos p ap cp ep sp bp apos cpos : Pos} {x c : Expr} {fk fx : EM}
end
end Vm

set_option maxHeartbeats 1000000
namespace Vm
open PySem L2
def app1 : List (D × D) → D → D → Option (List (D × D))
  | [], _, _ => none
  | (k, d) :: r, y, x => if kq k y then (match d with
    | .olst xs => if xs.length < LIM then some ((k, .olst (xs ++ [x])) :: r) else none
    | _ => none) else (app1 r y x).map ((k, d) :: ·)
section
variable {w : Wd} {G : Gs} {H : Hp}
theorem OwnK.app1 {y x : D} {v : V} {ky : Key} (hy : dkey y = some ky) (z : Fz w G x v) : ∀ {kvs kvs3 : List (D × D)} {ks : List (Key × V)} {l : List Addr}, OwnK w G H kvs ks l → l.Nodup → Vm.app1 kvs y x = some kvs3 →
    ∃ p xs, valV ks ky = some (.ref p) ∧ H p = some (.lst xs) ∧ xs.length < sizeLine ∧ p ∈ l ∧ kvs3.length = kvs.length ∧ OwnK w G (upd H p (.lst (xs ++ [v]))) kvs3 ks l
  | [], kvs3, ks, l, h, hn, e => by cases e
  | (k, d) :: r, kvs3, ks, l, h, hn, e => by
    obtain ⟨key, u, t, l1, l2, rfl, h0, h1, h2, rfl⟩ := ownk_cons.mp h
    obtain ⟨n1, n2, n3⟩ := List.nodup_append.mp hn
    unfold Vm.app1 at e
    rw [kq_dkey h0 hy] at e
    by_cases hk : key = ky
    · rw [decide_eq_true hk, if_pos rfl] at e
      cases d <;> try cases e
      rename_i xs
      have e' : (if xs.length < LIM then some ((k, D.olst (xs ++ [x])) :: r) else none) = some kvs3 := e
      split at e'
      · rename_i hl
        cases e'
        obtain ⟨p, vs, l', rfl, k1, k2, k3, rfl⟩ := own_olst.mp h1
        have np : ∀ c ∈ l', c ≠ p := fun c hc z => (List.nodup_cons.mp n1).1 (z ▸ hc)
        refine ⟨p, vs, valV_pos hk, k1, by rw [k3.length]; exact Nat.lt_of_lt_of_le hl (lim_size (Nat.le_refl _)), List.mem_append_left _ (List.mem_cons_self ..), by simp, ownk_cons.mpr ⟨key, .ref p, t, p :: l', l2, rfl, h0, own_olst.mpr ⟨p, vs ++ [v], l' ++ [], rfl, upd_same, by rw [List.length_append]; exact lim_size (show xs.length + 1 ≤ LIM from hl), ?_, by simp⟩, ?_, rfl⟩⟩
        · exact (k3.keep (.refl _) fun c hc u hu => (upd_ne (np c hc)).trans hu).append (FzL.one z).own
        · refine h2.keep (.refl _) fun c hc u hu => ?_
          have : c ≠ p := fun z => n3 p (List.mem_cons_self ..) c hc z.symm
          exact (upd_ne this).trans hu
      · cases e'
    · rw [decide_eq_false hk, if_neg (by decide)] at e
      obtain ⟨kvs4, e4, rfl⟩ := Option.map_eq_some_iff.mp e
      obtain ⟨p, xs, k1, k2, k3, k4, k5, k6⟩ := OwnK.app1 hy z h2 n2 e4
      refine ⟨p, xs, by rw [valV_neg hk]; exact k1, k2, k3, List.mem_append_right _ k4, by simp [k5], ownk_cons.mpr ⟨key, u, t, l1, l2, rfl, h0, h1.keep (.refl _) fun c hc u hu => ?_, k6, rfl⟩⟩
      have : c ≠ p := fun z => n3 c hc p k4 z
      exact (upd_ne this).trans hu
end
def sdTail (i : Nat) (fx : EM) (y : D) (e1 : En) : So := ofE (fx e1) fun x e2 => match e2.sl[i]? with
  | some (some (.odic kvs2)) => match app1 kvs2 y x with
    | some kvs3 => .nx (e2.put (.s i) (some (.odic kvs3)))
    | none => .stuck
  | _ => .stuck
def sSdApp (i : Nat) (fk fx : EM) : SM := fun e => match e.sl[i]? with
  | some (some (.odic _)) => ofE (fk e) fun y e1 => match e1.sl[i]?, dkey y with
    | some (some (.odic kvs)), some _ => if kvs.length < LIM then (match lkD kvs y with
      | some (.olst _) => sdTail i fx y e1
      | some _ => .stuck
      | none => sdTail i fx y (e1.put (.s i) (some (.odic (kvs ++ [(y, .olst [])]))))) else .stuck
    | _, _ => .stuck
  | _ => .stuck
section
variable {w : Wd} {W : Wx} {σ : L2.St} {b : Bs} {e : En} {i : Nat} {D' : Ends} {fx : EM} {y : D} {ky : Key} {a : Addr} {ks : List (Key × V)} {v0 : V}
theorem root_s (h : σ[i]? = some (some (.ref a))) : rootV b σ (.s i) = some (.ref a) := by
  show (σ[i]?).getD none = _
  rw [h]
  rfl
theorem sd_tail (S : Sat w b σ e) (hs : σ[i]? = some (some (.ref a))) (ha : a ∈ b.o (.s i)) (hH : b.H a = some (.dK ks)) (hv : valV ks ky = some v0) (hy : dkey y = some ky) (h : SR w W b (sdTail i fx y e) D') :
    tZ w W true fx σ b.H fun vx H4 => rAppend v0 [vx] H4 fun v H' => D'.nx σ H' := by
  refine ⟨b, e, rfl, S, (PR.soften (SR.ofE (s := true) h)).mono fun x b1 e1 g1 S1 h1 vx zx => ?_⟩
  split at h1
  · rename_i kvs2 hd
    split at h1
    · rename_i kvs3 ha3
      obtain ⟨v1, u1, u2⟩ := S1.slot hd
      rw [hs] at u1
      cases u1
      obtain ⟨a', ks2, l, e', r1, r2, r3, r4⟩ := own_odic.mp u2
      cases e'
      have hH1 : b1.H a = some (.dK ks) := g1.k a _ hH (keeps_t fun n z => nomatch S.ap _ _ a ha z)
      rw [r1] at hH1
      cases hH1
      have hnd := S1.nd (.s i)
      rw [r4] at hnd
      obtain ⟨hna, hnl⟩ := List.nodup_cons.mp hnd
      obtain ⟨p, xs, k1, k2, k3, k4, k5, k6⟩ := r3.app1 hy zx hnl ha3
      rw [hv] at k1
      cases k1
      have hpa : a ≠ p := fun z => hna (z ▸ k4)
      refine ⟨p, xs, vx, rfl, rfl, k2, k3, ?_⟩
      have hp : p ∈ b1.o (.s i) := by rw [r4]; exact List.mem_cons_of_mem _ k4
      have := S1.hold (σ' := σ) (x := .s i) (H' := upd b1.H p (.lst (xs ++ [vx]))) (l := a :: l) (d := .odic kvs3) (v := .ref a) (Gr.refl b1) (at_ok (slot_at hd)) (fun c u h n => by
          have : c ≠ p := fun z => n (z ▸ hp)
          exact (upd_ne this).trans h) (fun c h => by
          by_cases hc : c = p
          · rw [hc, upd_same] at h
            cases h
          · rw [upd_ne hc] at h
            exact h)
        (own_odic.mpr ⟨a, _, l, rfl, (upd_ne hpa).trans r1, by rw [k5]; exact r2, k6, rfl⟩) hnd (fun c hc => by
          have : c ∈ b1.o (.s i) := by rw [r4]; exact hc
          exact ⟨S1.fo _ c this, .inl this⟩) (root_s hs) (fun _ _ => rfl) rfl
      exact h1 (b1.give (upd b1.H p (.lst (xs ++ [vx]))) (.s i) (a :: l)) σ this.1 this.2
    · exact h1.elim
  · exact h1.elim
end
section
variable {X : Cx} {W : Wx} {s : Bool} {w : Wd} {pos p lp ap1 ap2 cp1 cp2 : Pos} {x c : Expr} {fk fx : EM}
end
end Vm

set_option maxHeartbeats 1000000
namespace Vm
open PySem L2
inductive LockK (Q : VK) (x : V) : Hp → Prop
  | now {H : Hp} : Q x H → LockK Q x H
  | lock {H : Hp} (a : Addr) (u : HO) : H a = some u → Mut (some u) → (∀ od, LockK Q x (upd H a (.frz od u))) → LockK Q x H
theorem LockK.run {X : Cx} {pins : List (Addr × Obj)} {σ : L2.St} {s : Shared} {Q : VK} {x : V} {H : Hp} (h : LockK Q x H) (I : Inv X pins σ H s) : ∃ H', Inv X pins σ H' s ∧ Q x H' := by
  induction h with
  | now q => exact ⟨_, I, q⟩
  | lock a u e mu k ih =>
    obtain ⟨od, I1⟩ := I.lock e mu
    exact ih od I1
def tLocks (t : TE) : TE := fun σ H Q => t σ H (LockK Q)
theorem pe_locks {X : Cx} {e : Expr} {t : TE} (h : PE X e t) : PE X e (tLocks t) := ⟨fun pins s σ H Q I q => thn (h.run pins s σ H _ I q) fun v s1 ⟨x, H1, I1, r, k⟩ => by
  obtain ⟨H', I2, q⟩ := k.run I1
  exact ⟨x, H', I2, r, q⟩⟩
structure Fr (b b' : Bs) (l : List Addr) : Prop where
  o : b'.o = b.o
  r : b'.G.ρ = b.G.ρ
  f : ∀ a u, b.G.F a = some u → b'.G.F a = some u
  h : ∀ c, c ∉ l → b'.H c = b.H c ∧ b'.G.F c = b.G.F c
theorem Fr.refl {b : Bs} : Fr b b [] := ⟨rfl, rfl, fun _ _ h => h, fun _ _ => ⟨rfl, rfl⟩⟩
theorem Fr.le {b b' : Bs} {l : List Addr} (f : Fr b b' l) : b.G.le b'.G := ⟨f.f, fun n a h => by rw [f.r]; exact h⟩
theorem Fr.own {b b' : Bs} {l : List Addr} (f : Fr b b' l) {a : Addr} : b'.own a ↔ b.own a := by
  unfold Bs.own
  rw [f.o]
theorem Fr.trans {b b' b'' : Bs} {l l' : List Addr} (f : Fr b b' l) (g : Fr b' b'' l') : Fr b b'' (l ++ l') := ⟨g.o.trans f.o, g.r.trans f.r, fun a u h => g.f a u (f.f a u h), fun c hc => by
  have h1 : c ∉ l := fun z => hc (List.mem_append_left _ z)
  have h2 : c ∉ l' := fun z => hc (List.mem_append_right _ z)
  exact ⟨(g.h c h2).1.trans (f.h c h1).1, (g.h c h2).2.trans (f.h c h1).2⟩⟩
mutual
def frzT : D → Option D
  | .olst ds => (frzTL ds).map .lst
  | .otup ds => (frzTL ds).map .tup
  | .odic kvs => (frzTK kvs).map .dic
  | .odix kvs => (frzTK kvs).map .dix
  | .oins _ _ _ => none
  | .non => some .non
  | .bl b => some (.bl b)
  | .int i => some (.int i)
  | .str x => some (.str x)
  | .tup xs => some (.tup xs)
  | .tux xs => some (.tux xs)
  | .lst xs => some (.lst xs)
  | .rol xs => some (.rol xs)
  | .dic xs => some (.dic xs)
  | .dix xs => some (.dix xs)
  | .ins c fs => some (.ins c fs)
  | .loc n => some (.loc n)
  | .exn c ds => some (.exn c ds)
  | .fn ds => some (.fn ds)
  | .otbl _ => none
def frzTL : List D → Option (List D)
  | [] => some []
  | d :: ds => (frzT d).bind fun d' => (frzTL ds).map (d' :: ·)
def frzTK : List (D × D) → Option (List (D × D))
  | [] => some []
  | (k, d) :: r => (frzT d).bind fun d' => (frzTK r).map ((k, d') :: ·)
end
theorem frzT_F {d : D} (h : isF d = true) : frzT d = some d := by
  cases d <;> first | (cases h; done) | simp [frzT]
theorem frzTL_len : ∀ {ds ds' : List D}, frzTL ds = some ds' → ds'.length = ds.length
  | [], ds', h => by cases (show some [] = some ds' by simpa [frzTL] using h); rfl
  | d :: ds, ds', h => by
    obtain ⟨d1, h1, h2⟩ := Option.bind_eq_some_iff.mp (show (frzT d).bind (fun d' => (frzTL ds).map (d' :: ·)) = some ds' by simpa [frzTL] using h)
    obtain ⟨ds1, h3, rfl⟩ := Option.map_eq_some_iff.mp h2
    simp [frzTL_len h3]
theorem frzTK_len : ∀ {ds ds' : List (D × D)}, frzTK ds = some ds' → ds'.length = ds.length
  | [], ds', h => by cases (show some [] = some ds' by simpa [frzTK] using h); rfl
  | (k, d) :: ds, ds', h => by
    obtain ⟨d1, h1, h2⟩ := Option.bind_eq_some_iff.mp (show (frzT d).bind (fun d' => (frzTK ds).map ((k, d') :: ·)) = some ds' by simpa [frzTK] using h)
    obtain ⟨ds1, h3, rfl⟩ := Option.map_eq_some_iff.mp h2
    simp [frzTK_len h3]
def Bs.lockAt (b : Bs) (a : Addr) (u : HO) : Bs := ⟨⟨upd b.G.F a u, b.G.ρ⟩, upd b.H a u, b.o⟩
section
variable {w : Wd} {b0 b b' : Bs} {σ : L2.St} {e : En} {a : Addr} {u u0 : HO}
theorem Fr.fix (hF : b.G.F a = none) : Fr b (b.fix a u) [a] := ⟨rfl, rfl, fun c x q => (upd_ne (ne_of_none q hF)).trans q, fun c hc => ⟨rfl, upd_ne (by simpa using hc)⟩⟩
theorem Fr.lockAt (hF : b.G.F a = none) : Fr b (b.lockAt a u) [a] := ⟨rfl, rfl, fun c x q => (upd_ne (ne_of_none q hF)).trans q, fun c hc => ⟨upd_ne (by simpa using hc), upd_ne (by simpa using hc)⟩⟩
theorem Gr.lockAt (g : Gr false b0 b) (hF : b.G.F a = none) (hn : b0.H a = none ∨ b0.own a) : Gr false b0 (b.lockAt a u) where
  g := ⟨fun c x q => (upd_ne (ne_of_none (g.g.f c x q) hF)).trans (g.g.f c x q), g.g.r⟩
  k := fun c x q n => by
    have : c ≠ a := fun z => by
      subst z
      rcases hn with hn | hn
      · rw [q] at hn; cases hn
      · exact keeps_f n hn
    exact (upd_ne this).trans (g.k c x q n)
  n := fun c q => by
    by_cases h : c = a
    · subst h
      exact .inr hn.symm
    · have q' : upd b.G.F a u c ≠ none := q
      rw [upd_ne h] at q'
      exact g.n c q'
  p := g.p
  q := g.q
  h := fun c q => by
    have q' : upd b.H a u c = none := q
    by_cases h : c = a
    · rw [h, upd_same] at q'
      cases q'
    · rw [upd_ne h] at q'
      exact g.h c q'
theorem Sat.lockAt (S : Sat w b σ e) (hF : b.G.F a = none) (ho : ¬ b.own a) : Sat w (b.lockAt a u) σ e := by
  refine S.grow ⟨fun c x q => (upd_ne (ne_of_none q hF)).trans q, fun _ _ q => q⟩ (fun _ => rfl) rfl (fun c x q => ?_) (fun c x hc q => ?_) fun c q => ?_
  · have q' : upd b.G.F a u c = some x := q
    show upd b.H a u c = some x
    by_cases h : c = a
    · subst h
      rw [upd_same] at q' ⊢
      exact q'
    · rw [upd_ne h] at q' ⊢
      exact S.ex c x q'
  · have : c ≠ a := fun z => ho (z ▸ hc)
    exact (upd_ne this).trans q
  · have : c ≠ a := fun z => ho (z ▸ q)
    exact (upd_ne this).trans (S.there q).1
end
def Lone (b0 b : Bs) (l : List Addr) : Prop := l.Nodup ∧ ∀ a ∈ l, b.G.F a = none ∧ ¬ b.own a ∧ (b0.H a = none ∨ b0.own a)
theorem Lone.fr {b0 b b' : Bs} {l l' : List Addr} (h : Lone b0 b l) (f : Fr b b' l') (hd : ∀ a ∈ l, a ∉ l') : Lone b0 b' l := ⟨h.1, fun a ha => by
  obtain ⟨h1, h2, h3⟩ := h.2 a ha
  exact ⟨(f.h a (hd a ha)).2.trans h1, fun z => h2 (f.own.mp z), h3⟩⟩
theorem Lone.left {b0 b : Bs} {l l' : List Addr} (h : Lone b0 b (l ++ l')) : Lone b0 b l := ⟨(List.nodup_append.mp h.1).1, fun a ha => h.2 a (List.mem_append_left _ ha)⟩
theorem Lone.right {b0 b : Bs} {l l' : List Addr} (h : Lone b0 b (l ++ l')) : Lone b0 b l' := ⟨(List.nodup_append.mp h.1).2.1, fun a ha => h.2 a (List.mem_append_right _ ha)⟩
theorem Lone.off {b0 b : Bs} {l l' : List Addr} (h : Lone b0 b (l ++ l')) : ∀ a ∈ l', a ∉ l := fun a ha z => (List.nodup_append.mp h.1).2.2 a z a ha rfl
section
variable {w : Wd} {b0 : Bs} {σ : L2.St} {e : En} {Q : VK} {y : V}
mutual
theorem Own.freeze : ∀ {d d' : D} {v : V} {l : List Addr} {b : Bs}, Gr false b0 b → Sat w b σ e → Own w b.G b.H d v l → Lone b0 b l → frzT d = some d' →
    (∀ b', Gr false b0 b' → Sat w b' σ e → Fr b b' l → Fz w b'.G d' v → LockK Q y b'.H) → LockK Q y b.H
  | .olst ds, d', v, l, b, g, S, z, n, hf, k => by
    obtain ⟨ds', h1, rfl⟩ := Option.map_eq_some_iff.mp (show (frzTL ds).map D.lst = some d' by simpa [frzT] using hf)
    obtain ⟨a, vs, l', rfl, k1, k2, k3, rfl⟩ := own_olst.mp z
    have na := (List.nodup_cons.mp n.1).1
    have nl : Lone b0 b l' := ⟨(List.nodup_cons.mp n.1).2, fun c hc => n.2 c (List.mem_cons_of_mem _ hc)⟩
    refine OwnL.freeze g S k3 nl h1 fun b1 g1 S1 f1 z1 => ?_
    obtain ⟨m1, m2, m3⟩ := n.2 a (List.mem_cons_self ..)
    have e1 := (f1.h a na)
    have hF : b1.G.F a = none := e1.2.trans m1
    have gf : Gr false b0 (b1.fix a (.lst vs)) := Gr.fix g1 hF m3
    refine k (b1.fix a (.lst vs)) gf (S1.fix hF (e1.1.trans k1) fun z => m2 (f1.own.mp z)) ?_ (fz_lst.mpr ⟨a, vs, rfl, upd_same, by rw [frzTL_len h1]; exact k2, z1.mono (fix_le hF)⟩)
    have f2 : Fr b1 (b1.fix a (.lst vs)) [a] := Fr.fix hF
    have f3 := f1.trans f2
    exact ⟨f3.o, f3.r, f3.f, fun c hc => f3.h c fun z => hc ((List.mem_append.mp z).elim (fun z => List.mem_cons_of_mem _ z) fun z => by rw [show c = a by simpa using z]; exact List.mem_cons_self ..)⟩
  | .otup ds, d', v, l, b, g, S, z, n, hf, k => by
    obtain ⟨ds', h1, rfl⟩ := Option.map_eq_some_iff.mp (show (frzTL ds).map D.tup = some d' by simpa [frzT] using hf)
    obtain ⟨a, vs, l', rfl, k1, k2, k3, rfl⟩ := own_otup.mp z
    have na := (List.nodup_cons.mp n.1).1
    have nl : Lone b0 b l' := ⟨(List.nodup_cons.mp n.1).2, fun c hc => n.2 c (List.mem_cons_of_mem _ hc)⟩
    refine OwnL.freeze g S k3 nl h1 fun b1 g1 S1 f1 z1 => ?_
    obtain ⟨m1, m2, m3⟩ := n.2 a (List.mem_cons_self ..)
    have e1 := (f1.h a na)
    have hF : b1.G.F a = none := e1.2.trans m1
    have gf : Gr false b0 (b1.fix a (.tup vs)) := Gr.fix g1 hF m3
    refine k (b1.fix a (.tup vs)) gf (S1.fix hF (e1.1.trans k1) fun z => m2 (f1.own.mp z)) ?_ (fz_tup.mpr ⟨a, vs, rfl, upd_same, by rw [frzTL_len h1]; exact k2, z1.mono (fix_le hF)⟩)
    have f2 : Fr b1 (b1.fix a (.tup vs)) [a] := Fr.fix hF
    have f3 := f1.trans f2
    exact ⟨f3.o, f3.r, f3.f, fun c hc => f3.h c fun z => hc ((List.mem_append.mp z).elim (fun z => List.mem_cons_of_mem _ z) fun z => by rw [show c = a by simpa using z]; exact List.mem_cons_self ..)⟩
  | .odic kvs, d', v, l, b, g, S, z, n, hf, k => by
    obtain ⟨ds', h1, rfl⟩ := Option.map_eq_some_iff.mp (show (frzTK kvs).map D.dic = some d' by simpa [frzT] using hf)
    obtain ⟨a, ks, l', rfl, k1, k2, k3, rfl⟩ := own_odic.mp z
    have na := (List.nodup_cons.mp n.1).1
    have nl : Lone b0 b l' := ⟨(List.nodup_cons.mp n.1).2, fun c hc => n.2 c (List.mem_cons_of_mem _ hc)⟩
    refine OwnK.freeze g S k3 nl h1 fun b1 g1 S1 f1 z1 => ?_
    obtain ⟨m1, m2, m3⟩ := n.2 a (List.mem_cons_self ..)
    have e1 := (f1.h a na)
    have hF : b1.G.F a = none := e1.2.trans m1
    refine .lock a (.dK ks) (e1.1.trans k1) True.intro fun od => ?_
    refine k (b1.lockAt a (.frz od (.dK ks))) (g1.lockAt hF m3) (S1.lockAt hF fun z => m2 (f1.own.mp z)) ?_ (fz_dic.mpr ⟨a, od, ks, rfl, upd_same, by rw [frzTK_len h1]; exact k2, z1.mono (Fr.lockAt hF).le⟩)
    have f2 : Fr b1 (b1.lockAt a (.frz od (.dK ks))) [a] := Fr.lockAt hF
    have f3 := f1.trans f2
    exact ⟨f3.o, f3.r, f3.f, fun c hc => f3.h c fun z => hc ((List.mem_append.mp z).elim (fun z => List.mem_cons_of_mem _ z) fun z => by rw [show c = a by simpa using z]; exact List.mem_cons_self ..)⟩
  | .odix kvs, d', v, l, b, g, S, z, n, hf, k => by
    obtain ⟨ds', h1, rfl⟩ := Option.map_eq_some_iff.mp (show (frzTK kvs).map D.dix = some d' by simpa [frzT] using hf)
    obtain ⟨a, ks, l', rfl, k1, k2, k3, rfl⟩ := own_odix.mp z
    have na := (List.nodup_cons.mp n.1).1
    have nl : Lone b0 b l' := ⟨(List.nodup_cons.mp n.1).2, fun c hc => n.2 c (List.mem_cons_of_mem _ hc)⟩
    refine OwnN.freeze g S k3 nl h1 fun b1 g1 S1 f1 z1 => ?_
    obtain ⟨m1, m2, m3⟩ := n.2 a (List.mem_cons_self ..)
    have e1 := (f1.h a na)
    have hF : b1.G.F a = none := e1.2.trans m1
    refine .lock a (nst w a ks) (e1.1.trans k1) True.intro fun od => ?_
    refine k (b1.lockAt a (.frz od (nst w a ks))) (g1.lockAt hF m3) (S1.lockAt hF fun z => m2 (f1.own.mp z)) ?_ (fz_dix.mpr ⟨a, od, ks, rfl, upd_same, by rw [frzTK_len h1]; exact k2, z1.mono (Fr.lockAt hF).le⟩)
    have f2 : Fr b1 (b1.lockAt a (.frz od (nst w a ks))) [a] := Fr.lockAt hF
    have f3 := f1.trans f2
    exact ⟨f3.o, f3.r, f3.f, fun c hc => f3.h c fun z => hc ((List.mem_append.mp z).elim (fun z => List.mem_cons_of_mem _ z) fun z => by rw [show c = a by simpa using z]; exact List.mem_cons_self ..)⟩
  | .oins _ _ _, d', v, l, b, g, S, z, n, hf, k => by simp [frzT] at hf
  | .non, d', v, l, b, g, S, z, n, hf, k => Own.freezeF rfl g S z hf k
  | .bl _, d', v, l, b, g, S, z, n, hf, k => Own.freezeF rfl g S z hf k
  | .int _, d', v, l, b, g, S, z, n, hf, k => Own.freezeF rfl g S z hf k
  | .str _, d', v, l, b, g, S, z, n, hf, k => Own.freezeF rfl g S z hf k
  | .tup _, d', v, l, b, g, S, z, n, hf, k => Own.freezeF rfl g S z hf k
  | .tux _, d', v, l, b, g, S, z, n, hf, k => Own.freezeF rfl g S z hf k
  | .lst _, d', v, l, b, g, S, z, n, hf, k => Own.freezeF rfl g S z hf k
  | .rol _, d', v, l, b, g, S, z, n, hf, k => Own.freezeF rfl g S z hf k
  | .dic _, d', v, l, b, g, S, z, n, hf, k => Own.freezeF rfl g S z hf k
  | .dix _, d', v, l, b, g, S, z, n, hf, k => Own.freezeF rfl g S z hf k
  | .ins _ _, d', v, l, b, g, S, z, n, hf, k => Own.freezeF rfl g S z hf k
  | .loc _, d', v, l, b, g, S, z, n, hf, k => Own.freezeF rfl g S z hf k
  | .exn _ _, d', v, l, b, g, S, z, n, hf, k => Own.freezeF rfl g S z hf k
  | .fn _, d', v, l, b, g, S, z, n, hf, k => Own.freezeF rfl g S z hf k
  | .otbl _, d', v, l, b, g, S, z, n, hf, k => by simp [frzT] at hf
theorem Own.freezeF : ∀ {d d' : D} {v : V} {l : List Addr} {b : Bs}, isF d = true → Gr false b0 b → Sat w b σ e → Own w b.G b.H d v l → frzT d = some d' →
    (∀ b', Gr false b0 b' → Sat w b' σ e → Fr b b' l → Fz w b'.G d' v → LockK Q y b'.H) → LockK Q y b.H := by
  intro d d' v l b hF g S z hf k
  rw [frzT_F hF] at hf
  cases hf
  obtain ⟨z1, rfl⟩ := (own_fz hF).mp z
  exact k b g S .refl z1
theorem OwnL.freeze : ∀ {ds ds' : List D} {vs : List V} {l : List Addr} {b : Bs}, Gr false b0 b → Sat w b σ e → OwnL w b.G b.H ds vs l → Lone b0 b l → frzTL ds = some ds' →
    (∀ b', Gr false b0 b' → Sat w b' σ e → Fr b b' l → FzL w b'.G ds' vs → LockK Q y b'.H) → LockK Q y b.H
  | [], ds', vs, l, b, g, S, z, n, hf, k => by
    obtain ⟨rfl, rfl⟩ := ownl_nil.mp z
    cases (show some [] = some ds' by simpa [frzTL] using hf)
    exact k b g S .refl (fzl_nil.mpr rfl)
  | d :: ds, ds', vs, l, b, g, S, z, n, hf, k => by
    obtain ⟨d1, h1, h2⟩ := Option.bind_eq_some_iff.mp (show (frzT d).bind (fun d' => (frzTL ds).map (d' :: ·)) = some ds' by simpa [frzTL] using hf)
    obtain ⟨ds1, h3, rfl⟩ := Option.map_eq_some_iff.mp h2
    obtain ⟨v, r, l1, l2, rfl, z1, z2, rfl⟩ := ownl_cons.mp z
    refine Own.freeze g S z1 n.left h1 fun b1 g1 S1 f1 y1 => ?_
    refine OwnL.freeze g1 S1 (z2.keep f1.le fun c hc u hu => (f1.h c (n.off c hc)).1.trans hu) (n.right.fr f1 n.off) h3 fun b2 g2 S2 f2 y2 => ?_
    exact k b2 g2 S2 (f1.trans f2) (fzl_cons.mpr ⟨v, r, rfl, y1.mono f2.le, y2⟩)
theorem OwnK.freeze : ∀ {kvs kvs' : List (D × D)} {ks : List (Key × V)} {l : List Addr} {b : Bs}, Gr false b0 b → Sat w b σ e → OwnK w b.G b.H kvs ks l → Lone b0 b l → frzTK kvs = some kvs' →
    (∀ b', Gr false b0 b' → Sat w b' σ e → Fr b b' l → FzK w b'.G kvs' ks → LockK Q y b'.H) → LockK Q y b.H
  | [], ds', vs, l, b, g, S, z, n, hf, k => by
    obtain ⟨rfl, rfl⟩ := ownk_nil.mp z
    cases (show some [] = some ds' by simpa [frzTK] using hf)
    exact k b g S .refl (fzk_nil.mpr rfl)
  | (kd, d) :: ds, ds', vs, l, b, g, S, z, n, hf, k => by
    obtain ⟨d1, h1, h2⟩ := Option.bind_eq_some_iff.mp (show (frzT d).bind (fun d' => (frzTK ds).map ((kd, d') :: ·)) = some ds' by simpa [frzTK] using hf)
    obtain ⟨ds1, h3, rfl⟩ := Option.map_eq_some_iff.mp h2
    obtain ⟨key, v, r, l1, l2, rfl, z0, z1, z2, rfl⟩ := ownk_cons.mp z
    refine Own.freeze g S z1 n.left h1 fun b1 g1 S1 f1 y1 => ?_
    refine OwnK.freeze g1 S1 (z2.keep f1.le fun c hc u hu => (f1.h c (n.off c hc)).1.trans hu) (n.right.fr f1 n.off) h3 fun b2 g2 S2 f2 y2 => ?_
    exact k b2 g2 S2 (f1.trans f2) (fzk_cons.mpr ⟨key, v, r, rfl, z0, y1.mono f2.le, y2⟩)
theorem OwnN.freeze : ∀ {kvs kvs' : List (D × D)} {es : List (NestedKey × Addr × V)} {l : List Addr} {b : Bs}, Gr false b0 b → Sat w b σ e → OwnN w b.G b.H kvs es l → Lone b0 b l → frzTK kvs = some kvs' →
    (∀ b', Gr false b0 b' → Sat w b' σ e → Fr b b' l → FzN w b'.G kvs' es → LockK Q y b'.H) → LockK Q y b.H
  | [], ds', vs, l, b, g, S, z, n, hf, k => by
    obtain ⟨rfl, rfl⟩ := ownn_nil.mp z
    cases (show some [] = some ds' by simpa [frzTK] using hf)
    exact k b g S .refl (fzn_nil.mpr rfl)
  | (kd, d) :: ds, ds', vs, l, b, g, S, z, n, hf, k => by
    obtain ⟨d1, h1, h2⟩ := Option.bind_eq_some_iff.mp (show (frzT d).bind (fun d' => (frzTK ds).map ((kd, d') :: ·)) = some ds' by simpa [frzTK] using hf)
    obtain ⟨ds1, h3, rfl⟩ := Option.map_eq_some_iff.mp h2
    obtain ⟨key, a, v, r, l1, l2, rfl, z0, zd, zk, z1, z2, rfl⟩ := ownn_cons.mp z
    refine Own.freeze g S z1 n.left h1 fun b1 g1 S1 f1 y1 => ?_
    refine OwnN.freeze g1 S1 (z2.keep f1.le fun c hc u hu => (f1.h c (n.off c hc)).1.trans hu) (n.right.fr f1 n.off) h3 fun b2 g2 S2 f2 y2 => ?_
    exact k b2 g2 S2 (f1.trans f2) (fzn_cons.mpr ⟨key, a, v, r, rfl, z0, zd, (zk.mono f1.le).mono f2.le, y1.mono f2.le, y2⟩)
end
end
def frzA (f : EM) : EM := fun e => (f e).bind fun d e1 => lift (frzT d) e1
theorem zVA {X : Cx} {w : Wd} {W : Wx} {x : Expr} {f : EM} (h : PE X x (tV w W false f)) : PE X x (tZ w W false (frzA f)) := (pe_locks h).imp fun σ H Q ⟨b, e, he, S, q⟩ => by
  subst he
  refine ⟨b, e, rfl, S, ?_⟩
  unfold frzA at q
  cases hf : f e with
  | stuck => rw [hf] at q; exact q
  | exc c x e1 => rw [hf] at q; exact q
  | ok d e1 =>
    rw [hf] at q
    intro b1 g1 S1 v ⟨l, t1, t2, t3⟩
    have h1 : PR w W false σ b (lift (frzT d) e1) fun d b' _ => ∀ v, Fz w b'.G d v → Q v b'.H := q
    cases hd : frzT d with
    | none => rw [hd] at h1; exact h1.elim
    | some d' =>
      rw [hd] at h1
      exact t1.freeze g1 S1 ⟨t2, t3⟩ hd fun b' g' S' f' z => .now (h1 b' g' S' v z)
end Vm

set_option maxHeartbeats 1000000
namespace Vm
open PySem L2 PyProof.Rows
inductive Rp where
  | ok (d : D) | exc (c : Nat) (x : Option D) | stuck
abbrev PF := List D → Rp
mutual
def noLoc : D → Bool
  | .loc _ => false
  | .tup xs => noLocL xs
  | .tux xs => noLocL xs
  | .lst xs => noLocL xs
  | .rol xs => noLocL xs
  | .dic xs => noLocK xs
  | .dix xs => noLocK xs
  | .ins _ fs => noLocL fs
  | .exn _ fs => noLocL fs
  | .fn fs => noLocL fs
  | _ => true
def noLocL : List D → Bool
  | [] => true
  | d :: ds => noLoc d && noLocL ds
def noLocK : List (D × D) → Bool
  | [] => true
  | (k, d) :: ds => noLoc k && (noLoc d && noLocK ds)
end
def Gs.bare (G : Gs) : Gs := ⟨G.F, fun _ => none⟩
section
variable {w : Wd} {G : Gs}
mutual
theorem Fz.bare : ∀ {d : D} {v : V}, Fz w G d v → noLoc d = true → Fz w G.bare d v
  | .non, v, h, _ => fz_non.mpr (fz_non.mp h)
  | .bl _, v, h, _ => fz_bl.mpr (fz_bl.mp h)
  | .int _, v, h, _ => fz_int.mpr (fz_int.mp h)
  | .str _, v, h, _ => fz_str.mpr (fz_str.mp h)
  | .tup ds, v, h, n => by
    obtain ⟨a, vs, rfl, h1, h2, h3⟩ := fz_tup.mp h
    exact fz_tup.mpr ⟨a, vs, rfl, h1, h2, FzL.bare h3 (by simpa [noLoc] using n)⟩
  | .tux ds, v, h, n => by
    obtain ⟨a, o, vs, rfl, h1, hd, h2, h3⟩ := fz_tux.mp h
    exact fz_tux.mpr ⟨a, o, vs, rfl, h1, hd, h2, FzL.bare h3 (by simpa [noLoc] using n)⟩
  | .lst ds, v, h, n => by
    obtain ⟨a, vs, rfl, h1, h2, h3⟩ := fz_lst.mp h
    exact fz_lst.mpr ⟨a, vs, rfl, h1, h2, FzL.bare h3 (by simpa [noLoc] using n)⟩
  | .rol ds, v, h, n => by
    obtain ⟨a, vs, rfl, h1, h2, h3⟩ := fz_rol.mp h
    exact fz_rol.mpr ⟨a, vs, rfl, h1, h2, FzL.bare h3 (by simpa [noLoc] using n)⟩
  | .dic ds, v, h, n => by
    obtain ⟨a, o, vs, rfl, h1, h2, h3⟩ := fz_dic.mp h
    exact fz_dic.mpr ⟨a, o, vs, rfl, h1, h2, FzK.bare h3 (by simpa [noLoc] using n)⟩
  | .dix ds, v, h, n => by
    obtain ⟨a, o, vs, rfl, h1, h2, h3⟩ := fz_dix.mp h
    exact fz_dix.mpr ⟨a, o, vs, rfl, h1, h2, FzN.bare h3 (by simpa [noLoc] using n)⟩
  | .ins c ds, v, h, n => by
    obtain ⟨a, dx, vs, rfl, h1, h2, h3⟩ := fz_ins.mp h
    exact fz_ins.mpr ⟨a, dx, vs, rfl, h1, h2, FzL.bare h3 (by simpa [noLoc] using n)⟩
  | .olst _, v, h, _ => by simp [Fz] at h
  | .odic _, v, h, _ => by simp [Fz] at h
  | .odix _, v, h, _ => by simp [Fz] at h
  | .oins _ _ _, v, h, _ => by simp [Fz] at h
  | .loc _, v, h, n => by simp [noLoc] at n
  | .exn c ds, v, h, n => by
    obtain ⟨a, dx, vs, rfl, h1, h2, h3, h4⟩ := fz_exn.mp h
    exact fz_exn.mpr ⟨a, dx, vs, rfl, h1, h2, h3, FzL.bare h4 (by simpa [noLoc] using n)⟩
  | .fn _, v, h, n => by
    obtain ⟨a, c, q, vs, h1, h2, h3, h4⟩ := fz_fn.mp h
    exact fz_fn.mpr ⟨a, c, q, vs, h1, h2, h3, FzL.bare h4 (by simpa [noLoc] using n)⟩
  | .otbl _, v, h, n => by simp [Fz] at h
  | .otup _, v, h, n => by simp [Fz] at h
theorem FzL.bare : ∀ {ds : List D} {vs : List V}, FzL w G ds vs → noLocL ds = true → FzL w G.bare ds vs
  | [], vs, h, _ => fzl_nil.mpr (fzl_nil.mp h)
  | d :: ds, vs, h, n => by
    obtain ⟨v, r, rfl, h1, h2⟩ := fzl_cons.mp h
    have n' : noLoc d = true ∧ noLocL ds = true := by simpa [noLocL] using n
    exact fzl_cons.mpr ⟨v, r, rfl, Fz.bare h1 n'.1, FzL.bare h2 n'.2⟩
theorem FzK.bare : ∀ {ds : List (D × D)} {ks : List (Key × V)}, FzK w G ds ks → noLocK ds = true → FzK w G.bare ds ks
  | [], vs, h, _ => fzk_nil.mpr (fzk_nil.mp h)
  | (k, d) :: ds, vs, h, n => by
    obtain ⟨key, v, r, rfl, h0, h1, h2⟩ := fzk_cons.mp h
    have n' : noLoc k = true ∧ noLoc d = true ∧ noLocK ds = true := by simpa [noLocK] using n
    exact fzk_cons.mpr ⟨key, v, r, rfl, h0, Fz.bare h1 n'.2.1, FzK.bare h2 n'.2.2⟩
theorem FzN.bare : ∀ {ds : List (D × D)} {ks : List (NestedKey × Addr × V)}, FzN w G ds ks → noLocK ds = true → FzN w G.bare ds ks
  | [], vs, h, _ => fzn_nil.mpr (fzn_nil.mp h)
  | (k, d) :: ds, vs, h, n => by
    obtain ⟨key, a, v, r, rfl, h0, hd, hk, h1, h2⟩ := fzn_cons.mp h
    have n' : noLoc k = true ∧ noLoc d = true ∧ noLocK ds = true := by simpa [noLocK] using n
    exact fzn_cons.mpr ⟨key, a, v, r, rfl, h0, hd, Fz.bare hk n'.1, Fz.bare h1 n'.2.1, FzN.bare h2 n'.2.2⟩
end
end
def toRo (r : Rp) (mu : Mu) : Ro := match r with
  | .ok d => .ok d mu
  | .exc c x => .exc c x mu
  | .stuck => .stuck
def pureF (p : PF) : FV := fun mu ds => match mu with
  | [] => toRo (p ds) []
  | _ :: _ => if noLocL ds then toRo (p ds) mu else .stuck
def endP (r : So) : Rp := match r with
  | .rt d e => match e.mu with
    | [] => .ok d
    | _ :: _ => .stuck
  | .nx e => match e.mu with
    | [] => .ok .non
    | _ :: _ => .stuck
  | .exc c x e => match e.mu with
    | [] => .exc c x
    | _ :: _ => .stuck
  | _ => .stuck
@[irreducible] def runP (m n : Nat) (bd : SM) : PF := fun ds => if ds.length = m then endP (bd ⟨ds.map some ++ List.replicate n none, []⟩) else .stuck
def Bs.bare (b : Bs) : Bs := ⟨b.G.bare, b.H, fun _ => []⟩
def Bs.wrap (b b' : Bs) : Bs := ⟨⟨b'.G.F, b.G.ρ⟩, b'.H, b.o⟩
section
variable {w : Wd} {b b' : Bs} {mu : Mu} {d : D} {v : V}
theorem bare_own {a : Addr} : ¬ b.bare.own a := fun ⟨_, h⟩ => nomatch h
theorem Sat.bare (S : Sat w b [] ⟨[], mu⟩) : Sat w b.bare [] ⟨[], []⟩ where
  ex := S.ex
  le := rfl
  lm := fun n => ⟨fun _ => Nat.zero_le _, fun _ => rfl⟩
  sl := fun x d h => by
    cases x with
    | s i =>
      have h' : (([] : List (Option D))[i]?).getD none = some d := h
      simp at h'
    | m n =>
      have h' : (([] : List (Option D))[n]?).getD none = some d := h
      simp at h'
  em := fun _ _ => rfl
  ap := fun x y a h => nomatch h
  nd := fun _ => List.nodup_nil
  fo := fun x a h => nomatch h
theorem Gr.wrap (g : Gr false b.bare b') : Gr false b (b.wrap b') where
  g := ⟨g.g.f, fun _ _ h => h⟩
  k := fun a u h n => g.k a u h (keeps_no bare_own)
  n := fun a h => (g.n a h).imp (fun z => z) fun z => z.elim (fun z => absurd z bare_own) fun z => .inr z
  p := fun a h => .inl h
  q := fun h => by cases h
  h := g.h
theorem Sat.wrap (S : Sat w b [] ⟨[], mu⟩) (g : Gr false b.bare b') (S' : Sat w b' [] ⟨[], []⟩) : Sat w (b.wrap b') [] ⟨[], mu⟩ := by
  have g2 := Gr.wrap g
  refine S.grow g2.g (fun _ => rfl) rfl S'.ex (fun a u _ h => g.k a u h (keeps_no bare_own)) fun a h => ?_
  cases q : b'.G.F a with
  | none => exact q
  | some u =>
    obtain ⟨hF, u', hu⟩ : b.G.F a = none ∧ ∃ u, b.H a = some u := ⟨let ⟨x, hx⟩ := h; S.fo x a hx, (S.there h).2⟩
    rcases g.n a (by rw [q]; intro z; cases z) with z | z | z
    · exact absurd hF z
    · exact absurd z bare_own
    · have z' : b.H a = none := z
      rw [hu] at z'
      cases z'
theorem Tmp.wrap (S : Sat w b [] ⟨[], mu⟩) (t : Tmp w b.bare b' d v) (S' : Sat w b' [] ⟨[], []⟩) : Tmp w b (b.wrap b') d v := by
  obtain ⟨l, t1, t2, t3⟩ := t
  have le : b'.G.le (b.wrap b').G := ⟨fun _ _ h => h, fun n a h => by
    have := (S'.lm n).mpr (Nat.zero_le _)
    rw [this] at h
    cases h⟩
  refine ⟨l, t1.keep le fun _ _ _ h => h, t2, fun a ha => ?_⟩
  obtain ⟨k1, k2, k3⟩ := t3 a ha
  have hn : b.H a = none := k3.elim (fun z => z) fun z => absurd z bare_own
  refine ⟨k1, fun ⟨x, hx⟩ => ?_, .inl hn⟩
  obtain ⟨u, hu⟩ := (S.there ⟨x, hx⟩).2
  rw [hn] at hu
  cases hu
end
theorem pure_in {w : Wd} {b : Bs} {mu : Mu} {p : PF} {ds : List D} {vs : List V} {P : Ro → Prop} (S : Sat w b [] ⟨[], mu⟩) (z : FzL w b.G ds vs) (h : P (pureF p mu ds)) (hs : ¬ P .stuck) : FzL w b.bare.G ds vs ∧ P (toRo (p ds) mu) := by
  cases mu with
  | nil =>
    refine ⟨?_, h⟩
    have : b.bare.G = b.G := by
      show (⟨b.G.F, fun _ => none⟩ : Gs) = b.G
      have : b.G.ρ = fun _ => none := funext fun n => (S.lm n).mpr (Nat.zero_le _)
      cases hG : b.G
      rw [hG] at this
      simp at this
      rw [this]
    rw [this]
    exact z
  | cons c mu =>
    have h' : P (if noLocL ds then toRo (p ds) (c :: mu) else .stuck) := h
    split at h'
    · rename_i hn
      exact ⟨z.bare hn, h'⟩
    · exact absurd h' hs
theorem fn_p {P : Program} {w : World} {W : Wd} {K : PySem.W.Frag} {mg : Str → Option Value} {base : Heap} {x qual : Str} {params : Arguments} {body : List Stmt} {scope : Scope} {dvs : List V} {kws : List (Str × V)} {f : Addr} {fd : FuncData}
    {N ps : List Str} {k m n : Nat} {bd : SM} (F : FunD K x qual params body scope dvs kws f fd) (S : FnScope N ps scope) (hps : ps.length = m) (hls : N.length - ps.length = n)
    (hb : ∀ (cdv : Value) (A : Around) (outer : List Env) (s : Shared) (H : Hp) (vs : List V) (E : XK), Room k (A.deeper (envOfC qual scope s.heap.objs.size f cdv)) →
      PSs (cxOf CX0 P w K mg base N qual scope f cdv A outer s H E).nox body (tS W W0 bd)) :
    FnOk P w K mg base CX0 (k + 1) f fd ps (spF W (pureF (runP m n bd))) := by
  have red : ∀ vs H Q E, spF W (pureF (runP m n bd)) vs H Q E → ∃ b mu ds, H = b.H ∧ Sat W b [] ⟨[], mu⟩ ∧ FzL W b.bare.G ds vs ∧ ds.length = m ∧ (match toRo (endP (bd ⟨ds.map some ++ List.replicate n none, []⟩)) mu with
      | .ok d mu' => ∀ v b', Gr false b b' → Sat W b' [] ⟨[], mu'⟩ → Tmp W b b' d v → Q v b'.H
      | _ => False) := fun vs H Q E ⟨b, mu, ds, e, S0, z, h⟩ => by
    obtain ⟨z0, h⟩ := pure_in (P := fun r => match r with
      | .ok d mu' => ∀ v b', Gr false b b' → Sat W b' [] ⟨[], mu'⟩ → Tmp W b b' d v → Q v b'.H
      | _ => False) S0 z h (fun h => h)
    unfold runP at h
    by_cases hl : ds.length = m
    · rw [if_pos hl] at h
      exact ⟨b, mu, ds, e, S0, z0, hl, h⟩
    · rw [if_neg hl] at h
      exact h.elim
  have len : ∀ vs H Q E, spF W (pureF (runP m n bd)) vs H Q E → vs.length = m := fun vs H Q E h => by
    obtain ⟨b, mu, ds, _, _, z, hl, _⟩ := red vs H Q E h
    rw [z.length, hl]
  refine F.ok S (fun vs H Q E h => by rw [len vs H Q E h, hps]) fun cdv A outer s H vs Q E hr h => ⟨_, (hb cdv A outer s H vs E hr).nox, ?_⟩
  have hl := len vs H Q E h
  obtain ⟨b, mu, ds, rfl, S0, z, hl2, h⟩ := red vs H Q E h
  have e1 : L2.start N vs = vs.map some ++ List.replicate n none := by
    unfold L2.start
    rw [hl, ← hps, hls]
  rw [e1]
  refine ⟨b.bare, _, rfl, S0.bare.start z, ?_⟩
  cases hbd : bd ⟨ds.map some ++ List.replicate n none, []⟩ with
  | rt d' e' =>
    rw [hbd] at h
    intro b' σ' v g S' t
    cases hm : e'.mu with
    | nil =>
      have h' : ∀ v b', Gr false b b' → Sat W b' [] ⟨[], mu⟩ → Tmp W b b' d' v → Q v b'.H := by
        simp only [endP, hm] at h
        exact h
      have S2 := S'.top
      rw [hm] at S2
      have g2 : Gr false b.bare b'.top := g.trans Gr.top
      have t2 : Tmp W b.bare b'.top d' v := t.stay (Gr.top (s := false))
      exact h' v (b.wrap b'.top) (Gr.wrap g2) (S0.wrap g2 S2) (t2.wrap S0 S2)
    | cons c r =>
      simp only [endP, hm] at h
      exact h.elim
  | nx e' =>
    rw [hbd] at h
    intro b' σ' g S'
    cases hm : e'.mu with
    | nil =>
      have h' : ∀ v b', Gr false b b' → Sat W b' [] ⟨[], mu⟩ → Tmp W b b' .non v → Q v b'.H := by
        simp only [endP, hm] at h
        exact h
      have S2 := S'.top
      rw [hm] at S2
      have g2 : Gr false b.bare b'.top := g.trans Gr.top
      exact h' .non (b.wrap b'.top) (Gr.wrap g2) (S0.wrap g2 S2) (Fz.tmp (fz_non.mpr rfl))
    | cons c r =>
      simp only [endP, hm] at h
      exact h.elim
  | bk e' => rw [hbd] at h; exact h.elim
  | ct e' => rw [hbd] at h; exact h.elim
  | exc _ _ e' =>
    rw [hbd] at h
    cases hm : e'.mu with
    | nil => simp only [endP, hm] at h; exact h.elim
    | cons c r => simp only [endP, hm] at h; exact h.elim
  | stuck => rw [hbd] at h; exact h.elim
end Vm

set_option maxHeartbeats 1000000
namespace Vm
open PySem L2 PyProof.Rows
def Wd.on (w : Wd) (x : Option Addr) : Wd := ⟨w.P, w.W, w.K, w.cls, w.flds, x, w.lam⟩
section
variable {w : Wd} {G : Gs} {H : Hp} {x : Option Addr}
mutual
theorem Fz.on : ∀ {d : D} {v : V}, Fz w G d v → Fz (w.on x) G d v
  | .non, v, h => fz_non.mpr (fz_non.mp h)
  | .bl _, v, h => fz_bl.mpr (fz_bl.mp h)
  | .int _, v, h => fz_int.mpr (fz_int.mp h)
  | .str _, v, h => fz_str.mpr (fz_str.mp h)
  | .tup ds, v, h => by
    obtain ⟨a, vs, rfl, h1, h2, h3⟩ := fz_tup.mp h
    exact fz_tup.mpr ⟨a, vs, rfl, h1, h2, FzL.on h3⟩
  | .tux ds, v, h => by
    obtain ⟨a, o, vs, rfl, h1, hd, h2, h3⟩ := fz_tux.mp h
    exact fz_tux.mpr ⟨a, o, vs, rfl, h1, hd, h2, FzL.on h3⟩
  | .lst ds, v, h => by
    obtain ⟨a, vs, rfl, h1, h2, h3⟩ := fz_lst.mp h
    exact fz_lst.mpr ⟨a, vs, rfl, h1, h2, FzL.on h3⟩
  | .rol ds, v, h => by
    obtain ⟨a, vs, rfl, h1, h2, h3⟩ := fz_rol.mp h
    exact fz_rol.mpr ⟨a, vs, rfl, h1, h2, FzL.on h3⟩
  | .dic ds, v, h => by
    obtain ⟨a, o, vs, rfl, h1, h2, h3⟩ := fz_dic.mp h
    exact fz_dic.mpr ⟨a, o, vs, rfl, h1, h2, FzK.on h3⟩
  | .dix ds, v, h => by
    obtain ⟨a, o, vs, rfl, h1, h2, h3⟩ := fz_dix.mp h
    exact fz_dix.mpr ⟨a, o, vs, rfl, h1, h2, FzN.on h3⟩
  | .ins c ds, v, h => by
    obtain ⟨a, dx, vs, rfl, h1, h2, h3⟩ := fz_ins.mp h
    exact fz_ins.mpr ⟨a, dx, vs, rfl, h1, h2, FzL.on h3⟩
  | .olst _, v, h => by simp [Fz] at h
  | .odic _, v, h => by simp [Fz] at h
  | .odix _, v, h => by simp [Fz] at h
  | .oins _ _ _, v, h => by simp [Fz] at h
  | .loc _, v, h => fz_loc.mpr (fz_loc.mp h)
  | .exn c ds, v, h => by
    obtain ⟨a, dx, vs, rfl, h1, h2, h3, h4⟩ := fz_exn.mp h
    exact fz_exn.mpr ⟨a, dx, vs, rfl, h1, h2, h3, FzL.on h4⟩
  | .fn _, v, h => by
    obtain ⟨a, c, q, vs, h1, h2, h3, h4⟩ := fz_fn.mp h
    exact fz_fn.mpr ⟨a, c, q, vs, h1, h2, h3, FzL.on h4⟩
  | .otbl _, v, h => by simp [Fz] at h
  | .otup _, v, h => by simp [Fz] at h
theorem FzL.on : ∀ {ds : List D} {vs : List V}, FzL w G ds vs → FzL (w.on x) G ds vs
  | [], vs, h => fzl_nil.mpr (fzl_nil.mp h)
  | d :: ds, vs, h => by
    obtain ⟨v, r, rfl, h1, h2⟩ := fzl_cons.mp h
    exact fzl_cons.mpr ⟨v, r, rfl, Fz.on h1, FzL.on h2⟩
theorem FzK.on : ∀ {ds : List (D × D)} {ks : List (Key × V)}, FzK w G ds ks → FzK (w.on x) G ds ks
  | [], vs, h => fzk_nil.mpr (fzk_nil.mp h)
  | (k, d) :: ds, vs, h => by
    obtain ⟨key, v, r, rfl, h0, h1, h2⟩ := fzk_cons.mp h
    exact fzk_cons.mpr ⟨key, v, r, rfl, h0, Fz.on h1, FzK.on h2⟩
theorem FzN.on : ∀ {ds : List (D × D)} {ks : List (NestedKey × Addr × V)}, FzN w G ds ks → FzN (w.on x) G ds ks
  | [], vs, h => fzn_nil.mpr (fzn_nil.mp h)
  | (k, d) :: ds, vs, h => by
    obtain ⟨key, a, v, r, rfl, h0, hd, hk, h1, h2⟩ := fzn_cons.mp h
    exact fzn_cons.mpr ⟨key, a, v, r, rfl, h0, hd, Fz.on hk, Fz.on h1, FzN.on h2⟩
end
mutual
theorem Own.on : ∀ {d d' : D} {v : V} {l : List Addr}, frzT d = some d' → Own w G H d v l → Own (w.on x) G H d v l
  | .olst ds, d', v, l, hf, z => by
    obtain ⟨ds', h1, _⟩ := Option.map_eq_some_iff.mp (show (frzTL ds).map D.lst = some d' by simpa [frzT] using hf)
    obtain ⟨a, vs, l', rfl, k1, k2, k3, rfl⟩ := own_olst.mp z
    exact own_olst.mpr ⟨a, vs, l', rfl, k1, k2, OwnL.on h1 k3, rfl⟩
  | .otup ds, d', v, l, hf, z => by
    obtain ⟨ds', h1, _⟩ := Option.map_eq_some_iff.mp (show (frzTL ds).map D.tup = some d' by simpa [frzT] using hf)
    obtain ⟨a, vs, l', rfl, k1, k2, k3, rfl⟩ := own_otup.mp z
    exact own_otup.mpr ⟨a, vs, l', rfl, k1, k2, OwnL.on h1 k3, rfl⟩
  | .odic kvs, d', v, l, hf, z => by
    obtain ⟨ds', h1, _⟩ := Option.map_eq_some_iff.mp (show (frzTK kvs).map D.dic = some d' by simpa [frzT] using hf)
    obtain ⟨a, vs, l', rfl, k1, k2, k3, rfl⟩ := own_odic.mp z
    exact own_odic.mpr ⟨a, vs, l', rfl, k1, k2, OwnK.on h1 k3, rfl⟩
  | .odix kvs, d', v, l, hf, z => by
    obtain ⟨ds', h1, _⟩ := Option.map_eq_some_iff.mp (show (frzTK kvs).map D.dix = some d' by simpa [frzT] using hf)
    obtain ⟨a, vs, l', rfl, k1, k2, k3, rfl⟩ := own_odix.mp z
    exact own_odix.mpr ⟨a, vs, l', rfl, k1, k2, OwnN.on h1 k3, rfl⟩
  | .oins _ _ _, d', v, l, hf, z => by simp [frzT] at hf
  | .non, d', v, l, hf, z => let ⟨h1, h2⟩ := (own_fz rfl).mp z; (own_fz rfl).mpr ⟨h1.on, h2⟩
  | .bl _, d', v, l, hf, z => let ⟨h1, h2⟩ := (own_fz rfl).mp z; (own_fz rfl).mpr ⟨h1.on, h2⟩
  | .int _, d', v, l, hf, z => let ⟨h1, h2⟩ := (own_fz rfl).mp z; (own_fz rfl).mpr ⟨h1.on, h2⟩
  | .str _, d', v, l, hf, z => let ⟨h1, h2⟩ := (own_fz rfl).mp z; (own_fz rfl).mpr ⟨h1.on, h2⟩
  | .tup _, d', v, l, hf, z => let ⟨h1, h2⟩ := (own_fz rfl).mp z; (own_fz rfl).mpr ⟨h1.on, h2⟩
  | .tux _, d', v, l, hf, z => let ⟨h1, h2⟩ := (own_fz rfl).mp z; (own_fz rfl).mpr ⟨h1.on, h2⟩
  | .lst _, d', v, l, hf, z => let ⟨h1, h2⟩ := (own_fz rfl).mp z; (own_fz rfl).mpr ⟨h1.on, h2⟩
  | .rol _, d', v, l, hf, z => let ⟨h1, h2⟩ := (own_fz rfl).mp z; (own_fz rfl).mpr ⟨h1.on, h2⟩
  | .dic _, d', v, l, hf, z => let ⟨h1, h2⟩ := (own_fz rfl).mp z; (own_fz rfl).mpr ⟨h1.on, h2⟩
  | .dix _, d', v, l, hf, z => let ⟨h1, h2⟩ := (own_fz rfl).mp z; (own_fz rfl).mpr ⟨h1.on, h2⟩
  | .ins _ _, d', v, l, hf, z => let ⟨h1, h2⟩ := (own_fz rfl).mp z; (own_fz rfl).mpr ⟨h1.on, h2⟩
  | .loc _, d', v, l, hf, z => let ⟨h1, h2⟩ := (own_fz rfl).mp z; (own_fz rfl).mpr ⟨h1.on, h2⟩
  | .exn _ _, d', v, l, hf, z => let ⟨h1, h2⟩ := (own_fz rfl).mp z; (own_fz rfl).mpr ⟨h1.on, h2⟩
  | .fn _, d', v, l, hf, z => let ⟨h1, h2⟩ := (own_fz rfl).mp z; (own_fz rfl).mpr ⟨h1.on, h2⟩
  | .otbl _, d', v, l, hf, z => by simp [frzT] at hf
theorem OwnL.on : ∀ {ds ds' : List D} {vs : List V} {l : List Addr}, frzTL ds = some ds' → OwnL w G H ds vs l → OwnL (w.on x) G H ds vs l
  | [], ds', vs, l, hf, z => ownl_nil.mpr (ownl_nil.mp z)
  | d :: ds, ds', vs, l, hf, z => by
    obtain ⟨d1, h1, h2⟩ := Option.bind_eq_some_iff.mp (show (frzT d).bind (fun d' => (frzTL ds).map (d' :: ·)) = some ds' by simpa [frzTL] using hf)
    obtain ⟨ds1, h3, _⟩ := Option.map_eq_some_iff.mp h2
    obtain ⟨v, r, l1, l2, rfl, z1, z2, rfl⟩ := ownl_cons.mp z
    exact ownl_cons.mpr ⟨v, r, l1, l2, rfl, Own.on h1 z1, OwnL.on h3 z2, rfl⟩
theorem OwnK.on : ∀ {kvs kvs' : List (D × D)} {ks : List (Key × V)} {l : List Addr}, frzTK kvs = some kvs' → OwnK w G H kvs ks l → OwnK (w.on x) G H kvs ks l
  | [], ds', vs, l, hf, z => ownk_nil.mpr (ownk_nil.mp z)
  | (kd, d) :: ds, ds', vs, l, hf, z => by
    obtain ⟨d1, h1, h2⟩ := Option.bind_eq_some_iff.mp (show (frzT d).bind (fun d' => (frzTK ds).map ((kd, d') :: ·)) = some ds' by simpa [frzTK] using hf)
    obtain ⟨ds1, h3, _⟩ := Option.map_eq_some_iff.mp h2
    obtain ⟨key, v, r, l1, l2, rfl, z0, z1, z2, rfl⟩ := ownk_cons.mp z
    exact ownk_cons.mpr ⟨key, v, r, l1, l2, rfl, z0, Own.on h1 z1, OwnK.on h3 z2, rfl⟩
theorem OwnN.on : ∀ {kvs kvs' : List (D × D)} {es : List (NestedKey × Addr × V)} {l : List Addr}, frzTK kvs = some kvs' → OwnN w G H kvs es l → OwnN (w.on x) G H kvs es l
  | [], ds', vs, l, hf, z => ownn_nil.mpr (ownn_nil.mp z)
  | (kd, d) :: ds, ds', vs, l, hf, z => by
    obtain ⟨d1, h1, h2⟩ := Option.bind_eq_some_iff.mp (show (frzT d).bind (fun d' => (frzTK ds).map ((kd, d') :: ·)) = some ds' by simpa [frzTK] using hf)
    obtain ⟨ds1, h3, _⟩ := Option.map_eq_some_iff.mp h2
    obtain ⟨key, a, v, r, l1, l2, rfl, z0, zd, zk, z1, z2, rfl⟩ := ownn_cons.mp z
    exact ownn_cons.mpr ⟨key, a, v, r, l1, l2, rfl, z0, zd, zk.on, Own.on h1 z1, OwnN.on h3 z2, rfl⟩
end
end
abbrev IF := List D → Option (List D)
def endI (c : Nat) (r : So) : Option (List D) := match r with
  | .nx e => match e.mu, e.sl[0]? with
    | [], some (some (Vm.D.oins c' true fs)) => if c' = c then some fs else none
    | _, _ => none
  | _ => none
@[irreducible] def runI (c m n : Nat) (bd : SM) : IF := fun ds => if ds.length = m then endI c (bd ⟨some (.oins c true []) :: (ds.map some ++ List.replicate n none), []⟩) else none
def mkP (c nf : Nat) (q : IF) : PF := fun ds => match (q ds).bind frzTL with
  | some fs => if fs.length = nf then .ok (.ins c fs) else .stuck
  | none => .stuck
def spI (w : Wd) (c : Nat) (q : IF) : Sp := fun vs H Q _ => ∃ b mu ds x dx args fs, vs = .ref x :: args ∧ H = upd (upd b.H dx (.own x)) x (.ins (w.cls c) dx []) ∧ b.H x = none ∧ b.H dx = none ∧ dx ≠ x ∧ Sat w b [] ⟨[], mu⟩ ∧ FzL w b.bare.G ds args ∧ q ds = some fs ∧
  ∀ b' l, Gr false b b' → Sat w b' [] ⟨[], mu⟩ → Own (w.on (some x)) b'.G b'.H (.oins c true fs) (.ref x) l → Lone b b' l → (∀ a ∈ l, b.H a = none) → Q .non b'.H
theorem Sat.bareA {w w' : Wd} {b : Bs} {mu : Mu} (S : Sat w b [] ⟨[], mu⟩) : Sat w' b.bare [] ⟨[], []⟩ where
  ex := S.ex
  le := rfl
  lm := fun n => ⟨fun _ => Nat.zero_le _, fun _ => rfl⟩
  sl := fun x d h => by
    cases x with
    | s i =>
      have h' : (([] : List (Option D))[i]?).getD none = some d := h
      simp at h'
    | m n =>
      have h' : (([] : List (Option D))[n]?).getD none = some d := h
      simp at h'
  em := fun _ _ => rfl
  ap := fun x y a h => nomatch h
  nd := fun _ => List.nodup_nil
  fo := fun x a h => nomatch h
theorem Sat.wrapA {w w' : Wd} {b b' : Bs} {mu : Mu} {σ : L2.St} {e : En} (S : Sat w b [] ⟨[], mu⟩) (g : Gr false b.bare b') (S' : Sat w' b' σ e) : Sat w (b.wrap b') [] ⟨[], mu⟩ := by
  have g2 := Gr.wrap g
  refine S.grow g2.g (fun _ => rfl) rfl S'.ex (fun a u _ h => g.k a u h (keeps_no bare_own)) fun a h => ?_
  cases q : b'.G.F a with
  | none => exact q
  | some u =>
    obtain ⟨hF, u', hu⟩ : b.G.F a = none ∧ ∃ u, b.H a = some u := ⟨let ⟨x, hx⟩ := h; S.fo x a hx, (S.there h).2⟩
    rcases g.n a (by rw [q]; intro z; cases z) with z | z | z
    · exact absurd hF z
    · exact absurd z bare_own
    · have z' : b.H a = none := z
      rw [hu] at z'
      cases z'
theorem fn_i {P : Program} {w : World} {W : Wd} {K : PySem.W.Frag} {mg : Str → Option Value} {base : Heap} {x qual : Str} {params : Arguments} {body : List Stmt} {scope : Scope} {dvs : List V} {kws : List (Str × V)} {f : Addr} {fd : FuncData}
    {N ps : List Str} {k c m n : Nat} {bd : SM} (F : FunD K x qual params body scope dvs kws f fd) (S : FnScope N ps scope) (hps : ps.length = m + 1) (hls : N.length - ps.length = n)
    (hb : ∀ (x : Addr) (cdv : Value) (A : Around) (outer : List Env) (s : Shared) (H : Hp) (vs : List V) (E : XK), Room k (A.deeper (envOfC qual scope s.heap.objs.size f cdv)) →
      PSs (cxOf CX0 P w K mg base N qual scope f cdv A outer s H E).nox body (tS (W.on (some x)) W0 bd)) :
    FnOk P w K mg base CX0 (k + 1) f fd ps (spI W c (runI c m n bd)) := by
  have len : ∀ vs H Q E, spI W c (runI c m n bd) vs H Q E → vs.length = m + 1 := fun vs H Q E ⟨b, mu, ds, x, dx, args, fs, e, _, _, _, _, S0, z, h, _⟩ => by
    rw [e, List.length_cons, z.length]
    unfold runI at h
    by_cases hl : ds.length = m
    · rw [hl]
    · rw [if_neg hl] at h
      cases h
  refine F.ok S (fun vs H Q E h => by rw [len vs H Q E h, hps]) fun cdv A outer s H vs Q E hr h => ?_
  have hl := len vs H Q E h
  obtain ⟨b, mu, ds, x, dx, args, fs, rfl, rfl, hx, hdx, hne, S0, z, hq, h⟩ := h
  refine ⟨_, (hb x cdv A outer s _ (V.ref x :: args) E hr).nox, ?_⟩
  unfold runI at hq
  have hl2 : ds.length = m := by
    rw [← z.length]
    simpa using hl
  rw [if_pos hl2] at hq
  have e1 : L2.start N (V.ref x :: args) = ((V.non :: args).map some ++ List.replicate n none).set 0 (some (.ref x)) := by
    unfold L2.start
    rw [hl, ← hps, hls]
    rfl
  have z' : FzL (W.on (some x)) ((b.bare.lay dx (.own x)).lay x (.ins (W.cls c) dx [])).G (.non :: ds) (.non :: args) := fzl_cons.mpr ⟨.non, args, rfl, fz_non.mpr rfl, z.on⟩
  have hx2 : (b.bare.lay dx (.own x)).H x = none := (upd_ne (Ne.symm hne)).trans hx
  have Sa : Sat (W.on (some x)) b.bare [] ⟨[], []⟩ := S0.bareA
  have Sb := (Sa.lay (u := .own x) hdx).lay (u := .ins (W.cls c) dx []) hx2
  have gb : Gr false b.bare ((b.bare.lay dx (.own x)).lay x (.ins (W.cls c) dx [])) := (Gr.lay (b := b.bare) hdx).trans (Gr.lay hx2)
  have Sc := Sb.start (n := n) z'
  obtain ⟨b1, hH1, hG1, g1, S1⟩ := Sc.setS (i := 0) (d := .oins c true []) (v := .ref x) gb (by simp) ⟨[x], own_oins.mpr ⟨x, dx, [], [], rfl, (fun _ => rfl), by
    show upd (upd b.H dx (.own x)) x (.ins (W.cls c) dx []) x = _
    rw [upd_same]
    simp
    rfl, Nat.zero_le _, ownl_nil.mpr ⟨rfl, rfl⟩, rfl⟩, by simp, fun a ha => by
      have : a = x := by simpa using ha
      subst this
      exact ⟨Sa.fresh_F hx, fun q => bare_own (b := b) q, .inl hx⟩⟩
  refine ⟨b1, ⟨some (.oins c true []) :: (ds.map some ++ List.replicate n none), []⟩, hH1.symm, ?_, ?_⟩
  · rw [e1]
    exact S1
  · unfold endI at hq
    cases hbd : bd ⟨some (.oins c true []) :: (ds.map some ++ List.replicate n none), []⟩ with
    | nx e' =>
      rw [hbd] at hq
      intro b' σ' g S'
      simp only at hq
      split at hq
      · rename_i c' fs' hmu hs0
        split at hq
        · rename_i hc
          cases hq
          subst hc
          obtain ⟨v, s1, s2⟩ := S'.slot hs0
          have s2' := s2
          obtain ⟨a, dx', vs', l', rfl, ht, _, _, _, hl'⟩ := own_oins.mp s2
          have hax : x = a := Option.some.inj (ht rfl)
          subst hax
          have g2 : Gr false b.bare b' := g1.trans g
          have hn : ∀ a ∈ b'.o (.s 0), b.H a = none := fun a ha => (g2.p a ⟨_, ha⟩).elim (fun z => absurd z bare_own) fun z => z
          refine h (b.wrap b') (b'.o (.s 0)) (Gr.wrap g2) (S0.wrapA g2 S') ?_ ⟨S'.nd _, fun a ha => ⟨S'.fo _ a ha, fun ⟨y, hy⟩ => ?_, .inl (hn a ha)⟩⟩ hn
          · have le : b'.G.le (b.wrap b').G := ⟨fun _ _ h => h, fun n a hh => by
              have := (S'.lm n).mpr (by rw [hmu]; exact Nat.zero_le _)
              rw [this] at hh
              cases hh⟩
            exact s2'.keep le fun _ _ _ h => h
          · obtain ⟨u, hu⟩ := (S0.there ⟨y, hy⟩).2
            rw [hn a ha] at hu
            cases hu
        · cases hq
      · cases hq
    | rt d' e' => rw [hbd] at hq; cases hq
    | bk e' => rw [hbd] at hq; cases hq
    | ct e' => rw [hbd] at hq; cases hq
    | exc _ _ e' => rw [hbd] at hq; cases hq
    | stuck => rw [hbd] at hq; cases hq
end Vm

set_option maxHeartbeats 1000000
namespace Vm
open PySem L2 PyProof.Rows
structure Mkc (P : Program) (w : World) (K : PySem.W.Frag) (mg : Str → Option Value) (base : Heap) (k : Nat) (C : Addr) (x : Str) (sp : Sp) : Prop where
  ex : ∃ (f : Addr) (fd : FuncData) (ps : List Str), Mk K C f ∧ FnOk P w K mg base CX0 k f fd ps sp ∧ mg x = some (.ref C) ∧ Binds K fd ps []
section
variable {X : Cx} {W : Wx} {w : Wd} {pos p : Pos} {x : Str} {a : Expr} {es : List Expr} {ar : LM} {k c nf : Nat} {q : IF}
theorem zMake (F0 : Mkc X.prog X.w X.K X.mg X.base k (w.cls c) x (spI w c q)) (hnf : (w.flds c).length = nf) (hr : Room (k + 1) X.A) (ha : PA X (a :: es) (tA w W false ar)) (hg : Gl X x := by rfl) (hdb : (x == ("__debug__" : Str)) = false := by decide)
    (he : starEach (a :: es) X.env = (false, eval a X.env) :: starEach es X.env := by rfl) (hpl : (backTo pos (starEach es X.env)).any (·.1) = false := by rfl) : PE X (.Call (.Name x p) (a :: es) [] pos) (tZ w W false (eCall (pureF (mkP c nf q)) ar)) := by
  obtain ⟨f, fd, ps, h1, h2, h3, h4⟩ := F0.ex
  refine (pe_locks (pe_make h1 h2 hr hg h3 h4 .nil pass0 ha hdb he hpl)).imp fun σ H Q ⟨b, e, he, S, h⟩ => ?_
  subst he
  refine ⟨b, e, rfl, S, ?_⟩
  unfold eCall at h
  cases har : ar e with
  | stuck => rw [har] at h; exact h
  | exc c x e1 => rw [har] at h; exact h
  | ok ds e1 =>
    rw [har] at h
    intro b1 g1 S1 vs zs x dx hx hdx hne
    have h0 : PR w W false σ b (callF (pureF (mkP c nf q)) ds e1) fun d b' _ => ∀ v, Fz w b'.G d v → Q v b'.H := h
    unfold callF at h0
    obtain ⟨z0, h0⟩ := pure_in (b := b1.top) (p := mkP c nf q) (P := fun r => PR w W false σ b (match r with
      | .ok d mu => .ok d ⟨e1.sl, mu⟩
      | _ => .stuck) fun d b' _ => ∀ v, Fz w b'.G d v → Q v b'.H) S1.top zs h0 (fun h => h)
    unfold mkP at h0
    cases hq : q ds with
    | none => rw [hq] at h0; exact h0.elim
    | some fs =>
      rw [hq] at h0
      have h1 : PR w W false σ b (match toRo (match frzTL fs with
        | some fs => if fs.length = nf then Rp.ok (D.ins c fs) else .stuck
        | none => .stuck) e1.mu with
        | .ok d mu => .ok d ⟨e1.sl, mu⟩
        | _ => .stuck) fun d b' _ => ∀ v, Fz w b'.G d v → Q v b'.H := h0
      cases hfz : frzTL fs with
      | none => rw [hfz] at h1; exact h1.elim
      | some fs' =>
        rw [hfz] at h1
        by_cases hlen : fs'.length = nf
        · simp only [if_pos hlen] at h1
          have h2 : PR w W false σ b (.ok (D.ins c fs') e1) fun d b' _ => ∀ v, Fz w b'.G d v → Q v b'.H := h1
          refine ⟨b1.top, e1.mu, ds, x, dx, vs, fs, by rw [List.append_nil], rfl, hx, hdx, hne, S1.top, z0, hq, fun b' l g S' z n hn => ⟨rfl, ?_⟩⟩
          have gA : Gr false b1 (b1.aft b') := aft_gr g
          have SA : Sat w (b1.aft b') σ ⟨e1.sl, e1.mu⟩ := S1.aft g S'
          obtain ⟨ax, dx', vs', l', hax, _, k1, k2, k3, rfl⟩ := own_oins.mp z
          cases hax
          have hfl : fs.length = (w.flds c).length := by
            rw [← frzTL_len hfz, hlen, hnf]
          have k3' : OwnL w (b1.aft b').G (b1.aft b').H fs vs' l' := OwnL.on (x := w.self) (w := w.on (some x)) hfz k3
          have hun : ∀ a ∈ x :: l', b1.H a = none := hn
          have lone : Lone b (b1.aft b') (x :: l') := ⟨n.1, fun a ha => by
            obtain ⟨m1, m2, m3⟩ := n.2 a ha
            refine ⟨m1, fun ⟨y, hy⟩ => ?_, .inl (g1.h a (hun a ha))⟩
            cases y with
            | s i =>
              have hy' : a ∈ b1.o (.s i) := hy
              obtain ⟨_, u, hu⟩ := S1.there ⟨_, hy'⟩
              rw [hun a ha] at hu
              cases hu
            | m k => exact m2 ⟨.m k, hy⟩⟩
          have nx := (List.nodup_cons.mp n.1).1
          have nl : Lone b (b1.aft b') l' := ⟨(List.nodup_cons.mp n.1).2, fun c hc => lone.2 c (List.mem_cons_of_mem _ hc)⟩
          refine OwnL.freeze (b := b1.aft b') (g1.trans gA) SA k3' nl hfz fun b2 g2 S2 f2 z2 => ?_
          obtain ⟨m1, m2, m3⟩ := lone.2 x (List.mem_cons_self ..)
          have e1' := f2.h x nx
          have hF : b2.G.F x = none := e1'.2.trans m1
          have k1' : b'.H x = some (.ins (w.cls c) dx' (((w.flds c).take fs.length).zip vs')) := k1
          rw [hfl, List.take_length] at k1'
          have gf : Gr false b (b2.fix x (.ins (w.cls c) dx' ((w.flds c).zip vs'))) := Gr.fix g2 hF m3
          have Sf := S2.fix hF (e1'.1.trans k1') fun z => m2 (f2.own.mp z)
          exact .now (h2 _ gf Sf (.ref x) (fz_ins.mpr ⟨x, dx', vs', rfl, upd_same, by rw [frzTL_len hfz]; exact hfl, z2.mono (fix_le hF)⟩))
        · simp only [if_neg hlen] at h1
          exact h1.elim
end
end Vm

set_option maxHeartbeats 1000000
namespace Vm
open PySem L2
theorem putF_zip {f : Str} {v : V} : ∀ {fs : List Str} {vs : List V} {j : Nat}, fs.Nodup → fs[j]? = some f → vs.length = j → putF f v ((fs.take j).zip vs) = (fs.take (j + 1)).zip (vs ++ [v])
  | [], vs, j, _, h, _ => by simp at h
  | g :: fs, [], j, nd, h, hl => by
    simp at hl
    subst hl
    simp at h
    subst h
    simp [putF]
  | g :: fs, u :: vs, j, nd, h, hl => by
    obtain ⟨n1, n2⟩ := List.nodup_cons.mp nd
    simp at hl
    subst hl
    have hf : fs[vs.length]? = some f := by simpa using h
    have hm : f ∈ fs := List.mem_of_getElem? hf
    have ne : ¬ g = f := fun e => n1 (e ▸ hm)
    simp only [List.take_succ_cons, List.zip_cons_cons, List.cons_append]
    unfold putF
    rw [if_neg ne, putF_zip n2 hf rfl]
def eSelf (i c j : Nat) : EM := fun e => match e.sl[i]? with
  | some (some (.oins c' _ ds)) => if c' = c then (match ds[j]? with
    | some d => if isF d then .ok d e else .stuck
    | none => .stuck) else .stuck
  | _ => .stuck
def sSelf (i c j : Nat) (fv : EM) : SM := fun e => ofE (fv e) fun d e1 => match e1.sl[i]? with
  | some (some (.oins c' t ds)) => if c' = c ∧ ds.length = j then .nx (e1.put (.s i) (some (.oins c' t (ds ++ [d])))) else .stuck
  | _ => .stuck
def sSelfIx (i c j : Nat) (fk fv : EM) : SM := fun e => ofE (fv e) fun d e1 => match e1.sl[i]? with
  | some (some (.oins c1 _ ds1)) => if c1 = c then (match ds1[j]? with
    | some (.odic _) => ofE (fk e1) fun y e2 => match e2.sl[i]? with
      | some (some (.oins c' t ds)) => if c' = c then (match ds[j]?, dkey y with
        | some (.odic kvs), some _ => if kvs.length < LIM then .nx (e2.put (.s i) (some (.oins c' t (ds.set j (.odic (putD kvs y d)))))) else .stuck
        | _, _ => .stuck) else .stuck
      | _ => .stuck
    | _ => .stuck) else .stuck
  | _ => .stuck
section
variable {X : Cx} {W : Wx} {s : Bool} {w : Wd} {pos p ap tp : Pos} {x c : Expr} {fk fv : EM}
theorem zSelfSet (i c j : Nat) {y fn : Str} {pos' : Pos} (o : Okx w X) (cl : Cls w.K (w.cls c)) (na : NoAttr w.K (w.cls c) fn) (nd : (w.flds c).Nodup) (hx : PE X x (tV w W false fv)) (hj : j < 900) (hf : (w.flds c)[j]? = some fn := by rfl) (hN : X.N[i]? = some y := by rfl) (hv : Vis X.env.scope y := by first | exact Or.inl rfl | exact Or.inr (Or.inl rfl) | exact Or.inr (Or.inr rfl)) (hd : (y == ("__debug__" : Str)) = false := by decide)
    (hcd : (y == ("__classdict__" : Str)) = false := by decide) (hs : swapsWith x (some (.Attribute (.Name y p) fn pos')) pos.line X.env = pure false := by rfl) :
    PS X (.Assign [.Attribute (.Name y p) fn pos'] x pos) (tS w W (sSelf i c j fv)) := (ps_fld (pv i hN hv hd hcd) hx hs).imp fun D σ H ⟨b, e, he, S, h⟩ => by
  subst he
  refine ⟨b, e, rfl, S, ?_⟩
  cases hf1 : fv e with
  | stuck =>
    unfold sSelf at h
    rw [hf1] at h
    exact h
  | exc c x e1 =>
    unfold sSelf at h
    rw [hf1] at h
    exact fun b' g S => h b' σ g.weak S
  | ok d e1 =>
    unfold sSelf at h
    rw [hf1] at h
    intro b1 g1 S1 v t
    have h1 : SR w W b (match e1.sl[i]? with
      | some (some (Vm.D.oins c' t ds)) => if c' = c ∧ ds.length = j then .nx (e1.put (.s i) (some (.oins c' t (ds ++ [d])))) else .stuck
      | _ => .stuck) D := h
    split at h1
    · rename_i c' tg ds hs0
      split at h1
      · rename_i hc
        obtain ⟨rfl, hlen⟩ := hc
        obtain ⟨u, s1, s2⟩ := S1.slot hs0
        obtain ⟨a, dx, vs, l, rfl, ht, k1, k2, k3, k4⟩ := own_oins.mp s2
        have hl := k3.length
        have hj2 : j < (w.flds c').length := (List.getElem?_eq_some_iff.mp hf).1
        refine ⟨_, s1, a, w.cls c', dx, _, rfl, k1, ?_, ?_, ?_, ?_⟩
        · rw [o.K]; exact cl
        · rw [o.K]; exact na
        · rw [List.length_zip, List.length_take]
          omega
        · obtain ⟨lt, t1, t2, t3⟩ := t
          have hnd := S1.nd (.s i)
          rw [k4] at hnd
          obtain ⟨hna, hnl⟩ := List.nodup_cons.mp hnd
          have hain : a ∈ b1.o (.s i) := by rw [k4]; exact List.mem_cons_self ..
          have nat : a ∉ lt := fun z => (t3 a z).2.1 ⟨_, hain⟩
          rw [hlen, putF_zip nd hf (by rw [hl, hlen])]
          have key := S1.mutG (b0 := b) (u' := .ins (w.cls c') dx (((w.flds c').take (j + 1)).zip (vs ++ [v]))) (l' := l ++ lt) (d' := .oins c' tg (ds ++ [d])) g1 (slot_at hs0) (root_s s1) k4
            (own_oins.mpr ⟨a, dx, vs ++ [v], l ++ lt, rfl, ht, by rw [upd_same, List.length_append, hlen]; rfl, by rw [List.length_append, hlen]; exact hj2, by
              refine OwnL.append (k3.keep (.refl _) fun c hc u hu => ?_) (ownl_cons.mpr ⟨v, [], lt, [], rfl, t1.keep (.refl _) fun c hc u hu => ?_, ownl_nil.mpr ⟨rfl, rfl⟩, (List.append_nil _).symm⟩)
              · have : c ≠ a := fun z => hna (z ▸ hc)
                exact (upd_ne this).trans hu
              · have : c ≠ a := fun z => nat (z ▸ hc)
                exact (upd_ne this).trans hu, rfl⟩)
            (fun z => (List.mem_append.mp z).elim hna nat) (List.nodup_append.mpr ⟨hnl, t2, fun c hc c' hc' z => (t3 c' hc').2.1 ⟨.s i, by rw [k4, ← z]; exact List.mem_cons_of_mem _ hc⟩⟩) (fun c hc => (List.mem_append.mp hc).elim .inl fun hc => .inr (t3 c hc))
          exact h1 (b1.give (upd b1.H a (.ins (w.cls c') dx (((w.flds c').take (j + 1)).zip (vs ++ [v])))) (.s i) (a :: (l ++ lt))) σ key.1 key.2
      · exact h1.elim
    · exact h1.elim
end
end Vm

set_option maxHeartbeats 1000000
namespace Vm
open PySem L2
def lcOut (g : GM) (tt : TM) (it1 : LM) (g1 : GM) (tt1 : TM) (te : EM) (vs vs1 : List Nat) : List D → List D → En → Rs (List D)
  | [], acc, e => .ok acc e
  | d :: ds, acc, e => match g d e with
    | none => .stuck
    | some e1 => (tt e1).nox.bind fun k e2 => if k = true then (it1 e2).nox.bind fun ds1 e3 => (lcGo g1 tt1 te vs1 ds1 acc (wipeE e3 vs1)).bind fun acc' e4 => lcOut g tt it1 g1 tt1 te vs vs1 ds acc' (wipeE e4 vs)
      else lcOut g tt it1 g1 tt1 te vs vs1 ds acc (wipeE e2 vs)
def eLc2 (it : LM) (g : GM) (tt : TM) (it1 : LM) (g1 : GM) (tt1 : TM) (te : EM) (vs vs1 : List Nat) : EM := fun e => (it e).bind fun ds e1 => if clear e1 vs = false then .stuck else (lcOut g tt it1 g1 tt1 te vs vs1 ds [] (wipeE e1 vs)).nox.bind fun rs e2 => lift (mkLst rs) (back e1 vs e2)
section
variable {W : Wx} {s : Bool} {w : Wd} {it it1 : LM} {g g1 : GM} {tt tt1 : TM} {te : EM} {vs vs1 : List Nat}
def LcAt (w : Wd) (s : Bool) (b1 : Bs) (G0 : Gs) (σ : L2.St) (A : Addr) (K : List D → En → Prop) (H : Hp) : Prop :=
  ∃ b' e' acc av l, H = b'.H ∧ Gr s b1 b' ∧ G0.le b'.G ∧ Sat w b' σ e' ∧ Made w b1 b' A acc av l ∧ acc.length ≤ LIM ∧ K acc e'
end
end Vm

set_option maxHeartbeats 1000000
namespace Vm
open PySem L2
section
variable {X : Cx} {W : Wx} {s : Bool} {w : Wd} {pos spos py : Pos} {x elt tg iter tg1 iter1 : Expr} {ifs ifs1 : List Expr} {scope : Scope} {own : List (Str × Nat)} {it it1 : LM} {g g1 : GM} {tt tt1 : TM} {te f : EM} {vs1 : List Nat}
end
def charsD (x : Str) : List D := x.cps.toList.map fun c => .str ⟨#[c]⟩
def itStr (f : EM) : LM := fun e => (f e).bind fun d e1 => match d with
  | .str x => if (charsD x).all (fun d => match d with | .str y => PyData.strOk y | _ => false) then .ok (charsD x) e1 else .stuck
  | _ => .stuck
section
variable {X : Cx} {W : Wx} {s : Bool} {w : Wd} {pos : Pos} {x tg : Expr} {f : EM}
theorem ziStr (h : PE X x (tZ w W s f)) : PI X tg x (tI w W s (itStr f)) := (pi_str (tg := tg) h).imp fun σ H R ⟨b, e, he, S, q⟩ => by
  subst he
  refine ⟨b, e, rfl, S, (PR.bind q).mono fun d b1 e1 g1 S1 h1 v z => ?_⟩
  cases d <;> try exact h1.elim
  rename_i y
  obtain ⟨rfl, hy⟩ := fz_str.mp z
  have h1' : PR w W s σ b1 (if (charsD y).all (fun d => match d with | .str y => PyData.strOk y | _ => false) then Rs.ok (charsD y) e1 else .stuck) fun ds b' _ => ∀ J, IsIt w s b' J ds → R J b'.H := h1
  split at h1'
  · rename_i hall
    refine ⟨y, rfl, h1' b1 (Gr.refl _) S1 _ ⟨fun _ => True, fun i H v H' => H' = H ∧ ∃ c, y.cps[i]? = some c ∧ v = .str ⟨#[c]⟩, ?_, fun _ _ _ _ _ => trivial, fun b' σ e i x H' d g S hd hY => ?_⟩⟩
    · have : (charsD y).length = y.cps.size := by simp [charsD]
      rw [this]
      exact walk_str
    · obtain ⟨rfl, c, hc, rfl⟩ := hY
      refine ⟨b', rfl, Gr.refl _, S, ?_⟩
      have hm := List.all_eq_true.mp hall d (List.mem_of_getElem? hd)
      unfold charsD at hd
      rw [List.getElem?_map] at hd
      obtain ⟨c', hc', rfl⟩ := Option.map_eq_some_iff.mp hd
      rw [Array.getElem?_toList, hc] at hc'
      cases hc'
      exact fz_str.mpr ⟨rfl, hm⟩
  · exact h1'.elim
end
def rTupX (K : PySem.W.Frag) : List V → Hp → VK → Prop := fun xs H Q => ∃ p ys, xs = [.ref p] ∧ SqL K H p ys ∧ ∀ l o, H l = none → o.dict = none → Q (.ref l) (upd H l (.frz o (.tup ys)))
theorem c_tupleX {w : Wd} {X : Cx} (o : Okx w X) : CallR X (.type "tuple") (rTupX w.K) := by
  rw [← o.K]
  intro pins s σ H xs us Q I r h
  obtain ⟨p, ys, rfl, hq, q⟩ := h
  obtain ⟨u, rfl, rx⟩ := vals1 r
  cases rx
  obtain ⟨its, r', pl, hz⟩ := I.list hq
  have hlen := r'.length
  refine call_tuple_list pl.isList (fun h' kp => ?_) (by simp only [List.size_toArray] <;> omega)
  have I1 : Inv X pins σ H { s with heap := h' } := I.kept (t' := s.toks) kp
  have I2 : Inv X pins σ (upd H h'.objs.size (.frz { cls := .type "tuple", data := .seq its.toArray } (.tup ys))) { s with heap := h'.push { cls := .type "tuple", data := .seq its.toArray } } :=
    I1.laid (t' := s.toks) (fun b o e => Heap.get?_push_of_some _ e) (Nat.le_refl _) (show ObjOk X.prog X.w _ _ _ (.frz _ (.tup ys)) from ⟨Heap.get?_push_size _ rfl, hz, its, r', PyProof.Rows.IsTup.new _ _⟩)
  exact ⟨.ref h'.objs.size, _, I2, rfl, q _ _ (I1.hok.fresh (Nat.le_refl _)) rfl⟩
def dTupleX : D → Option D
  | .lst ds => some (.tux ds)
  | .rol ds => some (.tux ds)
  | .olst ds => if ds.all isF then some (.tux ds) else none
  | _ => none
theorem Ret.tux {w : Wd} {s : Bool} {b : Bs} {σ : L2.St} {e : En} {Q : VK} (S : Sat w b σ e) {ds : List D} {vs : List V} (r : Ret w s b σ e (.tux ds) Q) {p : Addr} {o : Obj} (hp : b.H p = none) (ho : o.dict = none) (hl : ds.length ≤ sizeLine) (z : FzL w b.G ds vs) : Q (.ref p) (upd b.H p (.frz o (.tup vs))) :=
  r.new S hp (fz_tux.mpr ⟨p, o, vs, rfl, upd_same, ho, hl, z.mono (Gr.new (s := true) (S.fresh_F hp) hp).g⟩)
theorem ub_tupleX {w : Wd} : UnB w (fun v H Q => rTupX w.K [v] H Q) dTupleX := by
  intro s σ b e x d vx Q S zx hg R
  cases x <;> try cases hg
  · obtain ⟨a, vs, rfl, h1, h2, h3⟩ := zx.lst S
    exact ⟨a, vs, rfl, SqL.of h1, fun p o hp ho => R.tux S hp ho h2 h3⟩
  · obtain ⟨a, vs, rfl, h1, h2, h3⟩ := zx.rol
    exact ⟨a, vs, rfl, sat_sqL S h1, fun p o hp ho => R.tux S hp ho h2 h3⟩
  · rename_i ds
    have hg' : (if ds.all isF then some (D.tux ds) else none) = some d := hg
    split at hg'
    · rename_i hf
      cases hg'
      obtain ⟨a, vs, l, rfl, h1, h2, h3⟩ := zx.olst
      exact ⟨a, vs, rfl, SqL.of h1, fun p o hp ho => R.tux S hp ho h2 (h3.fz hf).1⟩
    · cases hg'
def pairs? : List D → Option (List (D × D))
  | [] => some []
  | .tup [k, v] :: r => if (dkey k).isSome then (pairs? r).map ((k, v) :: ·) else none
  | _ :: _ => none
def dDictP : D → Option D := fun d => (litems? d).bind fun ds => if ds.length ≤ LIM then (pairs? ds).map fun ps => .odic (ps.foldl (fun acc p => putD acc p.1 p.2) []) else none
def rDictP (K : PySem.W.Frag) : List V → Hp → VK → Prop := fun xs H Q => ∃ (a : Addr) (ps : List Addr) (kvs : List (Key × V)), xs = [.ref a] ∧ SqL K H a (ps.map V.ref) ∧ Paired (fun p kv => SqT K H p [kV kv.1, kv.2]) ps kvs ∧
    ∀ p, H p = none → Q (.ref p) (upd H p (.dK (mergeK [] kvs)))
theorem FzK.merge {w : Wd} {G : Gs} {H : Hp} : ∀ {ps : List (D × D)} {kvs : List (Key × V)} {acc : List (D × D)} {ks : List (Key × V)}, FzK w G ps kvs → OwnK w G H acc ks [] → OwnK w G H (ps.foldl (fun acc p => putD acc p.1 p.2) acc) (mergeK ks kvs) []
  | [], kvs, acc, ks, h, z => by
    cases fzk_nil.mp h
    exact z
  | (k, d) :: ps, kvs, acc, ks, h, z => by
    obtain ⟨key, v, t, rfl, h0, h1, h2⟩ := fzk_cons.mp h
    obtain ⟨l', k1, _, k3⟩ := z.put h0 h1 List.nodup_nil
    have : l' = [] := by
      cases l' with
      | nil => rfl
      | cons a l => cases k3 a (List.mem_cons_self ..)
    subst this
    show OwnK w G H (ps.foldl (fun acc p => putD acc p.1 p.2) (putD acc k d)) (mergeK (putK ks key v) t) []
    exact FzK.merge h2 k1
theorem fold_len : ∀ (ps acc : List (D × D)), (ps.foldl (fun acc p => putD acc p.1 p.2) acc).length ≤ acc.length + ps.length
  | [], acc => by simp
  | p :: ps, acc => by
    have h1 := fold_len ps (putD acc p.1 p.2)
    have h2 := length_putD p.1 p.2 acc
    simp only [List.foldl_cons, List.length_cons]
    omega
def dRev : D → Option D := fun d => (fitems? d).bind fun ds => match d with
  | .tup _ => none
  | .tux _ => none
  | _ => some (.olst ds.reverse)
end Vm

set_option maxHeartbeats 1000000
namespace Vm
open PySem L2
def tyB : D → Option String
  | .non => some "NoneType"
  | .dic _ => some "dict"
  | .odic _ => some "dict"
  | d => tyN d
def dIsC (c : Nat) : D → Option D
  | .ins c' _ => if c' = c then some (.bl true) else none
  | d => (tyB d).map fun _ => .bl false
def NotC (K : PySem.W.Frag) (C : Addr) : Prop := ∀ t ∈ ["NoneType", "bool", "int", "str", "tuple", "list", "dict"], PySem.W.kitOne K (.type t) (.ref C) = some false
theorem zIsC {X : Cx} {W : Wx} {s : Bool} {w : Wd} {pos p p2 : Pos} {x : Str} {a : Expr} {fa : EM} (c : Nat) (o : Okx w X) (hg : Gl X "isinstance") (hm : X.mg "isinstance" = none) (hg2 : Gl X x) (hm2 : X.mg x = some (.ref (w.cls c))) (ic : C8.InsC w.K (w.cls c)) (nc : NotC w.K (w.cls c))
    (ha : PE X a (tB w W s fa)) (hdb : (x == ("__debug__" : Str)) = false := by decide) (hs : starEach [a, .Name x p2] X.env = (false, eval a X.env) :: starEach [.Name x p2] X.env := by rfl)
    (hs2 : starEach [.Name x p2] X.env = (false, eval (.Name x p2) X.env) :: starEach [] X.env := by rfl) (hpl : (backTo pos (starEach [.Name x p2] X.env)).any (·.1) = false := by rfl) :
    PE X (.Call (.Name "isinstance" p) [a, .Name x p2] [] pos) (tZ w W s (un (dIsC c) fa)) :=
  (pe_callB call_isi hg hm PyProof.Rows.boot_isinstance (pa_cons ha (pa_cons (pe_glob (v := .ref (w.cls c)) hg2 hm2 rfl hdb) pa_nil hs2) hs) (by decide) (by decide) hs hpl).imp fun σ H Q ⟨b, e, he, S, h⟩ => by
  subst he
  refine ⟨b, e, rfl, S, (PR.bind h).mono fun d b1 e1 g1 S1 h1 v z => ?_⟩
  obtain ⟨t, ht, R⟩ := PR.ret h1
  have fin : ∀ (tn : Value) (k : Bool), PySem.W.kitOne w.K tn (.ref (w.cls c)) = some k → TyX w.K b1.H v tn → t = .bl k → rIsi X.K [v, .ref (w.cls c)] b1.H Q := fun tn k h2 h3 h4 => by
    rw [h4] at R
    rw [o.K]
    exact ⟨v, .ref (w.cls c), tn, .ref (w.cls c), k, rfl, .own _, h3, h2, R.now S1 (fz_bl.mpr rfl)⟩
  have go : ∀ tn, tyN d = some tn → tn ≠ "NoneType" → tn ∈ ["NoneType", "bool", "int", "str", "tuple", "list", "dict"] → t = .bl false → rIsi X.K [v, .ref (w.cls c)] b1.H Q := fun tn h2 h3 h4 h5 => fin (.type tn) false (nc tn h4) (br_tyX S1 z h2 h3) h5
  cases d
  case non =>
    cases ht
    refine fin (.type "NoneType") false (nc _ (by simp)) ?_ rfl
    rw [z.non]
    exact .base .non
  case bl => cases ht; exact go _ rfl (by decide) (by simp) rfl
  case int => cases ht; exact go _ rfl (by decide) (by simp) rfl
  case str => cases ht; exact go _ rfl (by decide) (by simp) rfl
  case tup => cases ht; exact go _ rfl (by decide) (by simp) rfl
  case tux => cases ht; exact go _ rfl (by decide) (by simp) rfl
  case lst => cases ht; exact go _ rfl (by decide) (by simp) rfl
  case olst => cases ht; exact go _ rfl (by decide) (by simp) rfl
  case dic =>
    cases ht
    obtain ⟨a', o', ks, rfl, k1, _⟩ := fz_dic.mp (z.fz rfl)
    exact fin (.type "dict") false (nc _ (by simp)) (.fDict (S1.ex _ _ k1)) rfl
  case odic =>
    cases ht
    obtain ⟨l, z, _⟩ := z
    obtain ⟨a', ks, l', rfl, k1, _⟩ := own_odic.mp z
    exact fin (.type "dict") false (nc _ (by simp)) (.base (.dK k1)) rfl
  case ins c' fs =>
    have ht' : (if c' = c then some (D.bl true) else none) = some t := ht
    split at ht'
    · rename_i hc
      subst hc
      cases ht'
      obtain ⟨a', dx, vs, rfl, k1, _⟩ := fz_ins.mp (z.fz rfl)
      exact fin (.ref (w.cls c')) true ic.me (.base (.ins (S1.ex _ _ k1) ic.cl ic.ha ic.hn ic.htk ic.hm)) rfl
    · cases ht'
  all_goals cases ht
def leD (a b : D) : Bool := !PySem.W.dataLt (pd b) (pd a)
def insD (a : D) : List D → List D
  | [] => [a]
  | b :: r => if leD a b then a :: b :: r else b :: insD a r
def isortD : List D → List D
  | [] => []
  | a :: r => insD a (isortD r)
def tupN : D → Bool
  | .tup (_ :: _) => true
  | .tux (_ :: _) => true
  | _ => false
def plainS : D → Bool
  | .bl _ => true
  | .int _ => true
  | .str _ => true
  | .lst _ => true
  | .rol _ => true
  | _ => false
def okS (ds : List D) : Bool := decide (ds.length ≤ LIM) && (plnL DEP ds && ((ds.all fun a => ds.all fun b => PySem.W.alike (pd a) (pd b)) && (ds.all tupN || ds.all plainS)))
def rSortD (w : Wd) : List V → Hp → VK → Prop := fun xs H Q => ∃ (G : Gs) (a : Addr) (vs : List V) (ds : List D), xs = [.ref a] ∧ SqL w.K H a vs ∧ FzL w G ds vs ∧ (∀ a u, G.F a = some u → H a = some u) ∧ okS ds = true ∧
  ∀ vs', FzL w G (isortD ds) vs' → ∀ p, H p = none → Q (.ref p) (upd H p (.lst vs'))
section
variable {w : Wd} {G : Gs} {H : Hp} {X : Cx}
end
def dSorted : D → Option D := fun d => match d with
  | .tup _ => none
  | .tux _ => none
  | d => (fitems? d).bind fun ds => if okS ds then some (.olst (isortD ds)) else none
end Vm

set_option maxHeartbeats 1000000
namespace Vm
open PySem L2
theorem OpB.v {w : Wd} {r : R2} {g : D → D → Option D} (h : OpB w r g) : OpBO w r g := by
  intro s σ b e x y d vx vy Q S zx zy hg R
  exact h S zx zy hg fun v b' g' S' z => R v b' g' S' z.tmp
theorem OpBO.or {w : Wd} {r r' : R2} {g g' : D → D → Option D} (h : OpBO w r g) (h' : OpBO w r' g') : OpBO w (fun x y H Q => r x y H Q ∨ r' x y H Q) (orD g g') := by
  intro s σ b e x y d vx vy Q S zx zy hg R
  unfold orD at hg
  cases hq : g x y with
  | some d' =>
    rw [hq] at hg
    cases hg
    exact .inl (h S zx zy hq R)
  | none =>
    rw [hq] at hg
    exact .inr (h' S zx zy hg R)
def dCatS : D → D → Option D
  | .str i, .str j => if i.length + j.length ≤ LIM ∧ PyData.strOk (i ++ j) = true then some (.str (i ++ j)) else none
  | _, _ => none
def rCatX : R2 := fun x y H Q => ∃ i j, x = .str i ∧ y = .str j ∧ i.length + j.length ≤ sizeLine ∧ Q (.str (i ++ j)) H
theorem ob_catS {w : Wd} : OpB w rCatX dCatS := by
  intro s σ b e x y d vx vy Q S zx zy hg R
  cases x <;> try cases hg
  cases y <;> try cases hg
  rename_i i j
  have hg' : (if i.length + j.length ≤ LIM ∧ PyData.strOk (i ++ j) = true then some (D.str (i ++ j)) else none) = some d := hg
  split at hg'
  · rename_i h
    cases hg'
    obtain ⟨rfl, _⟩ := zx.str
    obtain ⟨rfl, _⟩ := zy.str
    exact ⟨i, j, rfl, rfl, lim_size h.1, R.now S (fz_str.mpr ⟨rfl, h.2⟩)⟩
  · cases hg'
def dAddA := orD dAddI (orD dCatT (orD dCatS dCatL))
def dMulA := orD dMulI (orD dRepT dRepL)
theorem ob_addA {w : Wd} : OpBO w (fun x y H Q => rI0 (fun i j => .int (i + j)) x y H Q ∨ rCatA w.K x y H Q ∨ rCatX x y H Q ∨ rCat x y H Q) dAddA := ob_addI.v.or (ob_catT.v.or (ob_catS.v.or ob_catL))
theorem ob_mulA {w : Wd} : OpBO w (fun x y H Q => rI CMulW (fun i j => .int (i * j)) x y H Q ∨ rRepA w.K x y H Q ∨ rRep x y H Q) dMulA := ob_mulI.v.or (ob_repT.v.or ob_repL)
theorem r_addA {w : Wd} {X : Cx} (o : Okx w X) : OpR X (binaryOp .Add) (fun x y H Q => rI0 (fun i j => .int (i + j)) x y H Q ∨ rCatA w.K x y H Q ∨ rCatX x y H Q ∨ rCat x y H Q) := op_add.or ((r_catT o).or (op_add_str.or op_cat))
theorem r_mulA {w : Wd} {X : Cx} (o : Okx w X) : OpR X (binaryOp .Mult) (fun x y H Q => rI CMulW (fun i j => .int (i * j)) x y H Q ∨ rRepA w.K x y H Q ∨ rRep x y H Q) := op_mulW.or ((r_repT o).or op_rep)
def dSlA : D → Option Int → Option Int → Option D := fun x l h => match dSlT x l h with
  | some d => some d
  | none => dSlL x l h
section
variable {X : Cx} {W : Wx} {s : Bool} {w : Wd} {pos p2 : Pos} {x : Expr} {lo hi : Option Expr} {fx : EM} {fl fh : OM}
theorem vSlA (o : Okx w X) (hx : PE X x (tZ w W s fx)) (hl : PO X lo (tP w W s fl)) (hh : PO X hi (tP w W s fh)) : PE X (.Subscript x (.Slice lo hi none p2) pos) (tV w W s (eSl dSlA fx fl fh)) := (pe_slice ((slT o).or (slL o)) hx hl hh).imp fun σ H Q ⟨b, e, he, S, h⟩ => by
  subst he
  refine ⟨b, e, rfl, S, (PR.bind h).mono fun d b1 e1 g1 S1 h1 v z => ⟨b1, e1, rfl, S1, (PR.bind h1).mono fun l b2 e2 g2 S2 h2 => ⟨b2, e2, rfl, S2, (PR.bind h2).mono fun k b3 e3 g3 S3 h3 => ?_⟩⟩⟩
  obtain ⟨d', hd, R⟩ := PR.retV (g1.trans (g2.trans g3)) h3
  unfold dSlA at hd
  have z3 := (z.mono g2.g).mono g3.g
  split at hd
  · rename_i d2 hd2
    cases hd
    left
    cases d <;> try cases hd2
    rename_i xs
    obtain ⟨a, vs, rfl, h1, h2, h3⟩ := fz_tup.mp z3
    refine ⟨a, vs, rfl, SqT.of (S3.ex _ _ h1), fun q => ?_, fun _ p hp => ?_⟩
    · rw [h3.length] at q
      rw [cut_whole _ _ _ q] at R
      exact R.now S3 (Fz.tmp (fz_tup.mpr ⟨a, vs, rfl, h1, h2, h3⟩))
    · exact Ret.tup S3 (fun v b' g' S' z => R v b' g' S' z.tmp) hp (Nat.le_trans (cutD_length _ _ _) h2) (h3.cut _ _)
  · right
    obtain ⟨xs, hx, rfl⟩ := Option.map_eq_some_iff.mp (show (litems? d).map _ = some d' from hd)
    obtain ⟨a, vs, rfl, h1, h2, h3⟩ := z3.br.list S3 hx
    exact ⟨a, vs, rfl, SqL.of h1, fun p hp => R.lst S3 hp (Nat.le_trans (cutD_length _ _ _) h2) (h3.cut _ _)⟩
end
section
variable {X : Cx} {W : Wx} {s : Bool} {w : Wd} {pos p2 pu pc : Pos} {x : Expr} {fx : EM} {j : Nat}
end
def eDic1 (fk fv : EM) : EM := fun e => (fk e).bind fun k e1 => (fv e1).bind fun v e2 => if (dkey k).isSome then .ok (.odic [(k, v)]) e2 else .stuck
def eDix1 (fk fv : EM) : EM := fun e => (fk e).bind fun k e1 => (fv e1).bind fun v e2 => if (nkey k).isSome then .ok (.odix [(k, v)]) e2 else .stuck
section
variable {X : Cx} {W : Wx} {s : Bool} {w : Wd} {pos : Pos} {x c : Expr} {fk fv : EM}
end
end Vm

set_option maxHeartbeats 1000000
namespace Vm
open PySem L2 PyProof.Rows
structure Mk1 (K : PySem.W.Frag) (mg : Str → Option Value) (C : Addr) (x qual : Str) (st : Stmt) : Prop where
  ex : ∃ f fd, Mk K C f ∧ mg x = some (.ref C) ∧ FunD K "__init__" qual (defArgs st) (defBody st) (defScope st) [] [] f fd
section
variable {X : Cx} {W : Wx} {s : Bool} {w : Wd} {pos : Pos} {a c d ce : Expr} {fa fb fc f : EM} {t ta tb : TM} {r r' : R2} {g g' : D → D → Option D} {op op' : CmpOp}
theorem test_z2 {σ : L2.St} {H : Hp} {Q : Bool → Hp → Prop} (h : tT w W s (eTest f) σ H Q) : tZ w W s f σ H fun x H' => ∃ k, x = .bl k ∧ Q k H' := by
  obtain ⟨b, e, rfl, S, h⟩ := h
  refine ⟨b, e, rfl, S, (PR.bind h).mono fun x b1 e1 g1 S1 h1 v z => ?_⟩
  cases x <;> first
    | exact h1.elim
    | exact ⟨_, fz_bl.mp z, h1 b1 (Gr.refl _) S1⟩
theorem chain_z (hr : OpB w r g) (hr' : OpB w r' g') {σ : L2.St} {H : Hp} {Q : VK} (h : tZ w W s (eChain g g' fa fb fc) σ H Q) : tChain r r' (tZ w W s fa) (tZ w W s fb) (tZ w W s fc) σ H Q := by
  obtain ⟨b, e, rfl, S, h⟩ := h
  refine ⟨b, e, rfl, S, (PR.bind h).mono fun x b1 e1 g1 S1 h1 vx zx => ⟨b1, e1, rfl, S1, (PR.bind h1).mono fun y b2 e2 g2 S2 h2 vy zy => ?_⟩⟩
  obtain ⟨z, hz, h3⟩ : ∃ z, g x y = some z ∧ PR w W s σ b2 (match z with
      | .bl k => if k = true then (fc e2).bind fun u e4 => lift (g' y u) e4 else .ok (.bl false) e2
      | _ => .stuck : Rs D) fun d b' _ => ∀ v, Fz w b'.G d v → Q v b'.H := by
    cases hq : g x y with
    | none =>
      rw [hq] at h2
      exact h2.elim
    | some z =>
      rw [hq] at h2
      exact ⟨z, rfl, h2⟩
  cases z <;> try exact h3.elim
  rename_i k
  refine hr (s := true) S2 (zx.mono g2.g).br zy.br hz fun v b3 g3 S3 z3 => ⟨k, fz_bl.mp z3, ?_⟩
  have h4 := PR.later (s := s) g3.soft h3
  cases k with
  | false => exact h4 b3 (Gr.refl _) S3 _ (fz_bl.mpr rfl)
  | true =>
    refine ⟨b3, e2, rfl, S3, (PR.bind h4).mono fun u b4 e4 g4 S4 h5 vu zu => ?_⟩
    obtain ⟨d, hd, R⟩ := PR.ret h5
    exact hr' S4 ((zy.mono g3.g).mono g4.g).br zu.br hd R
theorem zChainT (hr : OpB w r g) (hr' : OpB w r' g') (ho : OpR X (compareOp op) r) (ho' : OpR X (compareOp op') r') (ha : PE X a (tZ w W s fa)) (hb : PE X c (tZ w W s fb)) (hc : PE X d (tZ w W s fc))
    (hm : lastMarks [op, op'] [c, d] = false := by with_unfolding_all rfl) : PT X (.Compare a [op, op'] [c, d] pos) (tT w W s (eTest (eChain g g' fa fb fc))) := (pt_chain ho ho' ha hb hc hm).imp fun σ H Q h => chain_z hr hr' (test_z2 h)
def tIfD (t f g : TM) : TM := fun e => (t e).bind fun k e1 => if k = true then f e1 else g e1
end
end Vm

set_option maxHeartbeats 1000000
namespace Vm
open PySem L2 PyProof.Rows
def BrL (w : Wd) (b : Bs) : List D → List V → Prop
  | [], vs => vs = []
  | d :: ds, vs => ∃ v r, vs = v :: r ∧ Br w b d v ∧ BrL w b ds r
def tK (w : Wd) (W : Wx) (s : Bool) (f : LM) : TA := fun σ H Q => ∃ b e, H = b.H ∧ Sat w b σ e ∧ PR w W s σ b (f e) fun ds b' _ => ∀ vs, BrL w b' ds vs → Q vs b'.H
section
variable {X : Cx} {W : Wx} {s : Bool} {w : Wd} {pos p : Pos} {x : Expr} {es : List Expr} {f : EM} {g : LM}
end
def lendD : D → Option D
  | .olst ds => if ds.all isF then some (.lst ds) else none
  | d => if isF d then some d else none
def lendL : List D → Option (List D)
  | [] => some []
  | d :: ds => (lendD d).bind fun d' => (lendL ds).map (d' :: ·)
def lentF (b : Bs) : Hp := fun a => match b.G.F a with
  | some u => some u
  | none => match b.H a with
    | some (.lst vs) => some (.lst vs)
    | _ => none
def Bs.lent (b : Bs) : Bs := ⟨⟨lentF b, fun _ => none⟩, b.H, fun _ => []⟩
def Bs.got (b b' : Bs) : Bs := ⟨b.G, b'.H, b.o⟩
section
variable {w : Wd} {b b' : Bs} {σ : L2.St} {e : En} {s : Bool}
theorem lent_le : (⟨b.G.F, fun _ => none⟩ : Gs).le b.lent.G := ⟨fun a u h => by
  show lentF b a = some u
  have h' : b.G.F a = some u := h
  unfold lentF
  rw [h'], fun _ _ h => by cases h⟩
theorem lent_ex (S : Sat w b σ e) : ∀ a u, lentF b a = some u → b.H a = some u := fun a u h => by
  unfold lentF at h
  split at h
  · rename_i u' hu
    cases h
    exact S.ex a _ hu
  · split at h
    · rename_i vs hv
      cases h
      exact hv
    · cases h
theorem lent_own {a : Addr} : ¬ b.lent.own a := fun ⟨_, h⟩ => nomatch h
theorem Sat.lent {w' : Wd} (S : Sat w b σ e) : Sat w' b.lent [] ⟨[], []⟩ where
  ex := lent_ex S
  le := rfl
  lm := fun n => ⟨fun _ => Nat.zero_le _, fun _ => rfl⟩
  sl := fun x d h => by
    cases x with
    | s i =>
      have h' : (([] : List (Option D))[i]?).getD none = some d := h
      simp at h'
    | m n =>
      have h' : (([] : List (Option D))[n]?).getD none = some d := h
      simp at h'
  em := fun _ _ => rfl
  ap := fun x y a h => nomatch h
  nd := fun _ => List.nodup_nil
  fo := fun x a h => nomatch h
theorem Gr.got (g : Gr false b.lent b') : Gr s b (b.got b') where
  g := .refl _
  k := fun a u h _ => g.k a u h (keeps_no lent_own)
  n := fun a h => .inl h
  p := fun a h => .inl h
  q := fun _ n a h => .inl ⟨n, h⟩
  h := g.h
theorem Sat.got (S : Sat w b σ e) (g : Gr false b.lent b') : Sat w (b.got b') σ e :=
  S.grow (.refl _) (fun _ => rfl) rfl (fun a u h => g.k a u (S.ex a u h) (keeps_no lent_own)) (fun a u _ h => g.k a u h (keeps_no lent_own)) fun a h => (S.there h).1
theorem fz_bare (n : e.mu = [] ∨ noLoc d = true) (S : Sat w b σ e) {d : D} {v : V} (hn : e.mu = [] ∨ noLoc d = true) (z : Fz w b.G d v) : Fz w ⟨b.G.F, fun _ => none⟩ d v := by
  rcases hn with hn | hn
  · have : (⟨b.G.F, fun _ => none⟩ : Gs) = b.G := by
      have h2 : b.G.ρ = fun _ => none := funext fun n => (S.lm n).mpr (by rw [hn]; exact Nat.zero_le _)
      cases hG : b.G
      rw [hG] at h2
      simp at h2
      rw [h2]
    rw [this]
    exact z
  · exact z.bare hn
theorem Br.lent (S : Sat w b σ e) {d d' : D} {v : V} (z : Br w b d v) (h : lendD d = some d') (hn : e.mu = [] ∨ noLoc d' = true) : Fz w b.lent.G d' v := by
  have fin : ∀ {d : D}, isF d = true → Br w b d v → (e.mu = [] ∨ noLoc d = true) → Fz w b.lent.G d v := fun {d} hF z hn => (fz_bare (d := d) hn S hn (z.fz hF)).mono lent_le
  unfold lendD at h
  split at h
  · rename_i ds
    split at h
    · rename_i hf
      cases h
      obtain ⟨a, vs, l, rfl, h1, h2, h3⟩ := z.olst
      have z3 := (h3.fz hf).1
      refine fz_lst.mpr ⟨a, vs, rfl, ?_, h2, ?_⟩
      · show lentF b a = _
        unfold lentF
        split
        · rename_i u hu
          rw [S.ex a u hu] at h1
          exact h1
        · rw [h1]
      · rcases hn with hn | hn
        · refine FzL.mono lent_le ?_
          have : (⟨b.G.F, fun _ => none⟩ : Gs) = b.G := by
            have h2 : b.G.ρ = fun _ => none := funext fun n => (S.lm n).mpr (by rw [hn]; exact Nat.zero_le _)
            cases hG : b.G
            rw [hG] at h2
            simp at h2
            rw [h2]
          rw [this]
          exact z3
        · exact FzL.mono lent_le (FzL.bare z3 (by simpa [noLoc] using hn))
    · cases h
  · split at h
    · rename_i hF
      cases h
      exact fin hF z hn
    · cases h
theorem BrL.lent (S : Sat w b σ e) : ∀ {ds ds' : List D} {vs : List V}, BrL w b ds vs → lendL ds = some ds' → (e.mu = [] ∨ noLocL ds' = true) → FzL w b.lent.G ds' vs
  | [], ds', vs, z, h, _ => by
    cases h
    exact fzl_nil.mpr z
  | d :: ds, ds', vs, z, h, hn => by
    obtain ⟨v, r, rfl, z1, z2⟩ := z
    obtain ⟨d1, h1, h2⟩ := Option.bind_eq_some_iff.mp (show (lendD d).bind (fun d' => (lendL ds).map (d' :: ·)) = some ds' from h)
    obtain ⟨ds1, h3, rfl⟩ := Option.map_eq_some_iff.mp h2
    have hn' : (e.mu = [] ∨ noLoc d1 = true) ∧ (e.mu = [] ∨ noLocL ds1 = true) := by
      rcases hn with hn | hn
      · exact ⟨.inl hn, .inl hn⟩
      · have : noLoc d1 = true ∧ noLocL ds1 = true := by simpa [noLocL] using hn
        exact ⟨.inr this.1, .inr this.2⟩
    exact fzl_cons.mpr ⟨v, r, rfl, z1.lent S h1 hn'.1, BrL.lent S z2 h3 hn'.2⟩
end
def okMu (e : En) (ds : List D) : Bool := match e.mu with
  | [] => true
  | _ :: _ => noLocL ds
def eCallL (p : PF) (ar : LM) : EM := fun e => (ar e).bind fun ds e1 => match lendL ds with
  | some ds' => if okMu e1 ds' then (match p ds' with
    | .ok d => if flat d then .ok d e1 else .stuck
    | _ => .stuck) else .stuck
  | none => .stuck
section
variable {X : Cx} {W : Wx} {s : Bool} {w : Wd} {pos p : Pos} {x : Str} {a : Expr} {es : List Expr} {ar : LM} {q : PF} {k : Nat}
end
end Vm

set_option maxHeartbeats 1000000
namespace Vm
open PySem L2
def mergeN (es more : List (NestedKey × Addr × V)) : List (NestedKey × Addr × V) := more.foldl (fun acc e => putN acc e.1 e.2.1 e.2.2) es
theorem NE.merge : ∀ {more : List (NestedKey × Addr × V)} {ps : List (NestedKey × Addr × Value)} {es : List (NestedKey × Addr × V)} {xs : List (NestedKey × Addr × Value)}, NE more ps → NE es xs → NE (mergeN es more) (storedAllH xs ps)
  | _, _, _, _, .nil, h => h
  | _, _, es, xs, .cons (a := p) (b := q) (l₁ := r) (l₂ := t) h g, k => by
    have : NE (putN es p.1 p.2.1 p.2.2) (storedH xs q.1 q.2.1 q.2.2) := by
      rw [← h.1, ← h.2.1]
      exact NE.put h.2.2 k
    show NE (mergeN (putN es p.1 p.2.1 p.2.2) r) (storedAllH (storedH xs q.1 q.2.1 q.2.2) t)
    exact NE.merge g this
def rDictN (X : Cx) (w : Wd) : List V → Hp → VK → Prop := fun xs H Q => ∃ (a : Addr) (ts : List Addr) (es : List (NestedKey × Addr × V)), xs = [.ref a] ∧ SqL w.K H a (ts.map V.ref) ∧ Paired (fun t e => SqT w.K H t [.ref e.2.1, e.2.2]) ts es ∧ NKs X H es ∧
  ∀ p, H p = none → Q (.ref p) (upd H p (nst w p (mergeN [] es)))
def npairs? : List D → Option (List (D × D))
  | [] => some []
  | .tup [k, v] :: r => if (nkey k).isSome then (npairs? r).map ((k, v) :: ·) else none
  | _ :: _ => none
def dDictN : D → Option D := fun d => (litems? d).bind fun ds => if ds.length ≤ LIM then (npairs? ds).map fun ps => .odix (ps.foldl (fun acc p => putD acc p.1 p.2) []) else none
theorem FzN.merge {w : Wd} {G : Gs} {H : Hp} : ∀ {ps : List (D × D)} {more : List (NestedKey × Addr × V)} {acc : List (D × D)} {es : List (NestedKey × Addr × V)}, FzN w G ps more → OwnN w G H acc es [] → OwnN w G H (ps.foldl (fun acc p => putD acc p.1 p.2) acc) (mergeN es more) []
  | [], kvs, acc, ks, h, z => by
    cases fzn_nil.mp h
    exact z
  | (k, d) :: ps, kvs, acc, ks, h, z => by
    obtain ⟨key, a, v, t, rfl, h0, hd, hk, h1, h2⟩ := fzn_cons.mp h
    obtain ⟨l', k1, _, k3⟩ := z.put h0 hd hk h1 List.nodup_nil
    have : l' = [] := by
      cases l' with
      | nil => rfl
      | cons a l => cases k3 a (List.mem_cons_self ..)
    subst this
    show OwnN w G H (ps.foldl (fun acc p => putD acc p.1 p.2) (putD acc k d)) (mergeN (putN ks key a v) t) []
    exact FzN.merge h2 k1
def un2O (g g' : D → Option D) : D → Option D := fun x => match g x with
  | some d => some d
  | none => g' x
def dDictA := un2O dDictP dDictN
end Vm

set_option maxHeartbeats 1000000
namespace VmT
open PySem PyProof.Rows HT
open PySem.SeqAt
open PySem.AutoSeq1 (wpAny_loadPart')
open PySem.MeetsSeq PySem.MeetsSeq2 PySem.MeetsSeq3
section
variable {prog : Program} {w : World} {A : Around} {E : Value → Shared → Prop} {s : Shared}
end
end VmT
namespace Vm
open PySem L2
def rRev (K : PySem.W.Frag) : V → Hp → VK → Prop := fun x H1 Q => ∃ a xs, x = .ref a ∧ ((SqL K H1 a xs ∧ ∀ p, H1 p = none → Q (.ref p) (upd H1 p (.lst xs.reverse))) ∨ (SqT K H1 a xs ∧ ∀ p, H1 p = none → Q (.ref p) (upd H1 p (.tup xs.reverse))))
def dRevA : D → Option D := fun d => match d with
  | .tup ds => some (.tup ds.reverse)
  | .tux ds => some (.tup ds.reverse)
  | d => dRev d
theorem FzL.rev {w : Wd} {G : Gs} {ds : List D} {vs : List V} (h : FzL w G ds vs) : FzL w G ds.reverse vs.reverse := FzL.of (by simp [h.length]) fun i d v e1 e2 => by
  have hl := h.length
  have hi : i < ds.length := by
    have := (List.getElem?_eq_some_iff.mp e1).1
    simpa using this
  rw [List.getElem?_reverse hi] at e1
  rw [List.getElem?_reverse (by omega)] at e2
  obtain ⟨v', h1, h2⟩ := h.get e1
  rw [hl] at e2
  rw [h1] at e2
  cases e2
  exact h2
section
variable {X : Cx} {W : Wx} {s : Bool} {w : Wd} {pos p2 pu pc : Pos} {x : Expr} {fx : EM} {j : Nat}
end
end Vm

namespace VmH
open PySem PySem.Spec PyProof.Rows L2 He
theorem ins_ok {K : PySem.W.Frag} {x : Str} (h : insB K x = true) (cl : Cls K (ga K x)) : C8.InsC K (ga K x) ∧ Vm.NotC K (ga K x) := by
  unfold insB at h
  simp only [Bool.and_eq_true] at h
  obtain ⟨h1, h2, h3, h4, h5⟩ := h
  exact ⟨⟨cl, eqO_ok h1, eqO_ok h2, of_decide_eq_true h3, of_decide_eq_true h4, if_pos (beq_self_eq_true _)⟩, fun t ht => of_decide_eq_true (List.all_eq_true.mp h5 t ht)⟩
end VmH

set_option maxHeartbeats 1000000
namespace VmX
open PySem PySem.Spec PyProof.Rows L2 NdefX
structure Ei (P : Program) (K : PySem.W.Frag) (C fI : Addr) (F : NF) (x fld : Str) : Prop where
  T : OexC K C
  iC : PySem.W.findIn K (.ref C) "__init__" = some (some (.ref fI))
  tI : PySem.W.typeIn K (.ref fI) = some (.type "function")
  noat : PySem.W.findIn K (.ref C) fld = some none
  body : ∃ p0 p1 p2 p3 p4 p5 p6 p7 p8 p9, F.body = [.Expr (.Call (.Attribute (.Call (.Name "super" p0) [] [] p1) "__init__" p2) [.Name x p3] [] p4) p5, .Assign [.Attribute (.Name "self" p6) fld p7] (.Name x p8) p9] ∧ (∃ pl : Sem Bool, ∀ env : Env, eval (.Call (.Attribute (.Call (.Name "super" p0) [] [] p1) "__init__" p2) [.Name x p3] [] p4) env = (do
      let ov ← attributeBase (.Call (.Name "super" p0) [] [] p1) "__init__" env (eval (.Call (.Name "super" p0) [] [] p1) env)
      standAt p2.atName
      let (f, first) ← holding [ov] (getMethod ov "__init__" pl)
      callWith p4 f first (backTo p4 (starEach [.Name x p3] env)) [])) ∧ (∀ env : Env, swapsWith (.Call (.Attribute (.Call (.Name "super" p0) [] [] p1) "__init__" p2) [.Name x p3] [] p4) none p5.line env = pure false) ∧ ∀ env : Env, swapsWith (.Name x p8) (some (.Attribute (.Name "self" p6) fld p7)) p9.line env = pure false
  hd : ∃ ar, (F.params.posonlyargs ++ F.params.args).head? = some ar ∧ ar.arg = "self"
  sc : NScope ["self", x, "__class__"] ["self", x] ["__class__"] F.scope
  sup : F.scope.names.lookup ("super" : Str) = some .globalImplicit
  cell : ∃ cc cl cld csl, F.cl = [(("__class__" : Str), cc)] ∧ K.lookup cc = some ⟨cl, cld, .cell (some (.ref C)), csl⟩
  code : ∃ ccl cdd vs ccs file tf, K.lookup F.c = some ⟨ccl, cdd, .fields vs, ccs⟩ ∧ vs[2]? = some (.str file tf) ∧ ((P.main.file : Str) == file) = true
  cls : ∃ cd, PySem.W.clsIn K C = some cd
  own : PySem.W.mroIn K C (.ref C) = some true
  supC : PySem.W.ks_superIn K C C "__init__" = some (some (.builtin "ValueError.__init__"))
  opq : PySem.W.nsIn K cStatics "thirdparty.any" = some none
  veC : PySem.W.subIn K (.ref C) (.type "ValueError") = some true
  top : (P.main.scope.names.lookup ("super" : Str)).isSome = false
def spE (C : Addr) (fld : Str) : Sp := fun vs H Q _ => ∃ a y, vs = [.ref a, y] ∧ H a = some (exo a C none) ∧ ∀ d, H d = none → d ≠ a → Q .non (upd (upd H d (exd d [(fld, y)])) a (exo a C (some d)))
theorem call_mw {prog : Program} {w : World} {A : Around} {E : Value → Shared → Prop} {hh : Heap} {g : Array GenState} {d : Drawn} {tk : Nat} {os : OsState} {nm q : Str} {C N : Addr} {bs bm : List Value} {hdct : Bool} {sn : List Str} {sub : List Value} {ab : Bool} {col : Option Bool} {dd : Option Addr} {k0 k1 k2 k3 k5 : Option Value}
    {u e t0 : Addr} {rest : List Value} {Q : Value → Shared → Prop}
    (hC : hh.get? C = some (excClassObj nm q C N bs bm hdct sn sub ab col dd k0 k1 k2 k3 k5 "ValueError.__new__")) (he : hh.get? e = some (PySem.W.excObj C t0 none .none)) (hu : hh.get? u = some (PySem.W.kxs_mw "ValueError.__init__" e)) (hz : rest.length ≤ sizeLine)
    (hq : ∀ h' t1, (∀ b o, b ≠ e → hh.get? b = some o → h'.get? b = some o) → h'.get? e = some (PySem.W.excObj C t1 none .none) → Q .none ⟨h', g, d, tk, os⟩) :
    wpAny (model prog w) A (call (.ref u) rest) Q E ⟨hh, g, d, tk, os⟩ := by
  have kind : (Value.type "method-wrapper" == Value.type "method" || Value.type "method-wrapper" == Value.type "builtin_function_or_method" || Value.type "method-wrapper" == Value.type "method-wrapper") = true := by decide
  have init : codeAny (model prog w) A (.call (.ref u) ⟨rest, []⟩) (callEnd Q E) ⟨hh, g, d, tk, os⟩ := by
    apply codeAny_of_tree
    show wpAny _ A.in1 (callAny (.ref u) ⟨rest, []⟩) _ _ _
    simp only [callAny]
    refine wpAny_bind (wpAny_load hu ?_)
    simp only [PySem.W.kxs_mw, kind, if_true]
    refine PySem.W.KFB.if_so (by decide) ?_
    refine wpAny_bind (PySem.W.check_bound_init PySem.F.excBase_ValueError.toExcCallFacts hC he rfl ?_)
    exact wpAny_bind (wpAny_pure (wpAny_pure ⟨Code.quiet_builtin _ (by decide +kernel), codeAny_builtin PySem.F.excBase_ValueError.initEntry (PySem.W.exc_init_tree (cls := .ref C) (t0 := t0) (dv := none) (c2 := .none) (c3 := .none) (b4 := .bool false) he hz fun h' k e' _ => hq h' _ k e')⟩))
  exact wpAny_call init
theorem cls_at {K : PySem.W.Frag} {h : Heap} {C : Addr} {cd : ClassData} (e : PySem.W.clsIn K C = some cd) (X : K.In h) : ∃ o, h.get? C = some o ∧ o.data = .cls cd := by
  cases q : K.lookup C with
  | none =>
    unfold PySem.W.clsIn at e
    rw [q] at e
    cases e
  | some o =>
    obtain ⟨oc, od, dt, sl⟩ := o
    unfold PySem.W.clsIn at e
    rw [q] at e
    cases dt <;> first | (cases e; exact ⟨_, X _ _ q, rfl⟩) | cases e
theorem ei_ok {CX : CXT} {P : Program} {w : World} {K : PySem.W.Frag} {mg : Str → Option Value} {base : Heap} {k : Nat} {C fI : Addr} {F : NF} {x fld : Str} {dV kV doc pm ct oc : Value} {an od : Option Addr} {osl : Array (Option Value)}
    (lk : K.lookup fI = some ⟨oc, od, .func (PySem.W.fnX F.name F.qual F.params F.body F.scope F.cl dV kV doc pm an (.ref F.c) ct), osl⟩) (hcd : PySem.W.codeIn K (.ref F.c) F.qual = true) (I : Ei P K C fI F x fld) (hms : mg "super" = none) (hdb : (x == ("__debug__" : Str)) = false) (hcd2 : (x == ("__classdict__" : Str)) = false) :
    FnOk P w K mg base CX (k + 1) fI (PySem.W.fnX F.name F.qual F.params F.body F.scope F.cl dV kV doc pm an (.ref F.c) ct) ["self", x] (spE C fld) := by
  obtain ⟨T, iC, tI, noat, ⟨p0, p1, p2, p3, p4, p5, p6, p7, p8, p9, hbody, ⟨pl, hev⟩, hsw, hsw2⟩, ⟨ar, hhd, harg⟩, S, sup, ⟨cc, cl, cld, csl, hcl, hcc⟩, ⟨ccl, cdd, vs2, ccs, file, tf, hcode, hvs2, hfile⟩, ⟨cd, hcd1⟩, own, supC, opq, veC, top⟩ := I
  refine ⟨fun vs H Q E ⟨a, y, e, _⟩ => by rw [e]; rfl, fun A outer s H args us vs Q E hr e0 hb r hsp => ?_⟩
  obtain ⟨a, y, rfl, ea, hq⟩ := hsp
  have KX : K.In s.heap := e0.mod.kin.keeps fun b o e => (e0.bs b o e).1
  have lim : s.heap.NoLimit := e0.mod.nolimit.keeps fun b o e => (e0.bs b o e).1
  refine PySem.codeAny_call_function hr.depth (KX _ _ lk) rfl S.co S.gen rfl (PySem.W.codeRec_of KX hcd) (hb _ _ _ _ ?_)
  refine wpAny_newFunctionEnv S.nocell (fun ⟨n, _⟩ hy => S.par n (List.of_mem_zip hy).1) (fun h₁ hns hsb => ⟨lim.fresh _ hsb, ?_⟩) S.kind
  show codeAny _ _ (.func F.body (envF F fI s.heap.objs.size)) _ _
  have kp : ∀ b o, s.heap.get? b = some o → h₁.get? b = some o := fun b o e => hsb.extBut b o (Nat.ne_of_lt (Heap.lt_size e)) (Heap.get?_push_of_some _ e)
  have hcc0 : base.get? cc = some ⟨cl, cld, .cell (some (.ref C)), csl⟩ := e0.mod.kin _ _ hcc
  have CA : CellsAt F.cl ["__class__"] [some (.ref C)] s.heap H := by
    rw [hcl]
    refine ⟨rfl, fun z c hz => ?_, fun z1 z2 c h1 h2 => ?_, fun i z hi => ?_⟩
    · by_cases hzz : z = "__class__"
      · subst hzz
        have : c = cc := by simpa [List.lookup] using hz.symm
        subst this
        exact ⟨(e0.bs _ _ hcc0).2, _, _, (e0.bs _ _ hcc0).1, rfl⟩
      · have e2 : (z == ("__class__" : Str)) = false := by simpa using hzz
        simp [List.lookup, e2] at hz
    · by_cases hz1 : z1 = "__class__"
      · by_cases hz2 : z2 = "__class__"
        · rw [hz1, hz2]
        · have e2 : (z2 == ("__class__" : Str)) = false := by simpa using hz2
          simp [List.lookup, e2] at h2
      · have e2 : (z1 == ("__class__" : Str)) = false := by simpa using hz1
        simp [List.lookup, e2] at h1
    · cases i with
      | zero =>
        have : z = "__class__" := by simpa using hi.symm
        subst this
        refine ⟨cc, by simp [List.lookup], fun v hv => ?_⟩
        have : v = .ref C := by simpa using hv.symm
        subst this
        exact ⟨_, rfl, _, (e0.bs _ _ hcc0).1, rfl⟩
      | succ i => simp at hi
  have J : L2.Inv (ncx CX P w K mg base [("self" : Str), x, "__class__"] F fI A outer s H E) [] (startF [("self" : Str), x, "__class__"] [.ref a, y] [some (.ref C)]) H { s with heap := h₁, toks := s.toks + ([("self" : Str), x].zip us).length } := inv_startN S hr.hd e0 rfl r CA hns kp
  refine PySem.ks_codeAny_funcAt ?_
  rw [hbody]
  generalize hs1 : ({ s with heap := h₁, toks := s.toks + ([("self" : Str), x].zip us).length } : Shared) = s1 at J ⊢
  obtain ⟨hp, g, d, t, os⟩ := s1
  have KX1 : K.In hp := J.kIn
  obtain ⟨nm, q, N, bs, bm, sn, sub, ab, col, dd, k0, k1, k2, k3, k5, hC, hbm⟩ := T.cls
  obtain ⟨t1, ho⟩ := exo_at J.hok ea
  refine PySem.ks_wpAt_execs_cons (PySem.ks_wpAt_Expr_any (hi := J.quiet) (hs := hsw _) (PySem.ks_wpAt_MethodCall (he := hev _) (PySem.ks_wpAt_super_base (s := ⟨hp, g, d, t, os⟩) (f := fI) (cc := F.c) (ar := ar) (env := envF F fI s.heap.objs.size) (show F.scope.names.lookup ("super" : Str) = _ from sup) (S.frk "__class__" (by simp)) (by decide) rfl (KX1 _ _ lk) rfl hhd rfl (KX1 _ _ hcode) rfl hvs2 hfile top ?_)))
  obtain ⟨mb, hb1, hb2⟩ := J.mod.blt
  refine PySem.W.ks_loadName_global S.kind sup (PySem.Calls.loadGlobal_builtin (env := envF F fI s.heap.objs.size) (J.mod.glob.keeps J.bk) hms (hb1.keeps J.bk) ((hb2 _ (by decide +kernel)).trans (by decide +kernel)) ⟨rfl, ?_⟩)
  refine wpAny_loadName_free S.kind (S.frk "__class__" (by simp)) (show F.cl.lookup ("__class__" : Str) = some cc by rw [hcl]; rfl) ⟨_, KX1 _ _ hcc, rfl⟩ ?_
  obtain ⟨m, hm, hl⟩ := J.loc
  obtain ⟨u0, ru0, lu0⟩ := hl 0 "self" (.ref a) rfl rfl (.inl (S.par "self" (by simp)))
  obtain rfl : u0 = Value.ref a := ru0
  have hself : m "self" = some (.ref a) := by
    rcases lu0 with ⟨_, e⟩ | ⟨e, _⟩
    · exact e
    · have := S.par "self" (by simp)
      have e' : F.scope.names.lookup ("self" : Str) = some .cell ∨ F.scope.names.lookup ("self" : Str) = some .free := e
      rw [this] at e'
      rcases e' with e' | e' <;> cases e'
  rw [harg]
  refine wpAny_loadName_local S.kind (S.par "self" (by simp)) hm hself ?_
  obtain ⟨oD, hD1, hD2⟩ := cls_at hcd1 KX1
  refine PySem.ks_wpAny_isType_cls hD1 hD2 ⟨rfl, ?_⟩
  refine PySem.ks_wpAny_call_super hD1 hD2 ho rfl (fun c e => by cases e) (PySem.W.looks_mroIn KX1 own) (fun h' e k => ?_)
  have J2 := J.kept (t' := t) k
  have KX2 : K.In h' := J2.kIn
  have ho2 := k _ _ ho
  unfold PySem.W.ks_superIn at supC
  rw [hcd1] at supC
  have I2 : PySem.W.InstAt h' a (PySem.W.excObj C t1 none .none) C none := ⟨ho2, rfl, rfl, trivial⟩
  refine PySem.W.kxs_getMethod PySem.W.kxs_ValueError e (PySem.W.looks_opaque KX2 opq) (l₀ := cd.mro) (fun A Q E s k q => wpAny_bind ((PySem.W.looks_clsIn KX2 hcd1) A _ E s k (wpAny_pure q))) rfl KX2 supC (I2.type.andThen (PySem.W.looks_subIn KX2 veC)) (PySem.W.ks_ne KX2 I2 hcd1) (by decide) ?_
  have k3 : ∀ b o, h'.get? b = some o → (h'.push (PySem.W.kxs_mw "ValueError.__init__" a)).get? b = some o := fun b o e => Heap.get?_push_of_some _ e
  have J3 := J2.kept (t' := t + 1) k3
  have hu3 : (h'.push (PySem.W.kxs_mw "ValueError.__init__" a)).get? h'.objs.size = some (PySem.W.kxs_mw "ValueError.__init__" a) := Heap.get?_push_at rfl rfl
  have Ip : L2.Inv (ncx CX P w K mg base [("self" : Str), x, "__class__"] F fI A outer s H E) [(h'.objs.size, PySem.W.kxs_mw "ValueError.__init__" a)] (startF [("self" : Str), x, "__class__"] [.ref a, y] [some (.ref C)]) H ⟨h'.push (PySem.W.kxs_mw "ValueError.__init__" a), g, d, t + 1, os⟩ :=
    ⟨J3.ok, J3.os, J3.bare, J3.base, J3.loc, J3.cell, J3.free, J3.freeC, fun p hp => by
      have hp' : p ∈ ([] : List (Addr × Obj)) ++ [(h'.objs.size, PySem.W.kxs_mw "ValueError.__init__" a)] := hp
      have : p = (h'.objs.size, PySem.W.kxs_mw "ValueError.__init__" a) := by simpa using hp'
      subst this
      exact ⟨hu3, J2.hok.fresh (Nat.le_refl _), fun z => absurd J2.lt (by rw [← z]; exact Nat.lt_irrefl _), J2.nofs (Nat.le_refl _), fun v z => by cases z⟩, J3.hok, J3.len⟩
  have hst : starEach [.Name x p3] (envF F fI s.heap.objs.size) = (false, eval (.Name x p3) (envF F fI s.heap.objs.size)) :: starEach [] (envF F fI s.heap.objs.size) := rfl
  have PAx : PA (ncx CX P w K mg base [("self" : Str), x, "__class__"] F fI A outer s H E) [.Name x p3] _ := pa_cons (pv 1 rfl (.inl (S.par x (by simp))) hdb hcd2) pa_nil hst
  have key : ∀ {R : List Value → Shared → Prop}, (∀ us s2, L2.Inv (ncx CX P w K mg base [("self" : Str), x, "__class__"] F fI A outer s H E) [(h'.objs.size, PySem.W.kxs_mw "ValueError.__init__" a)] (startF [("self" : Str), x, "__class__"] [.ref a, y] [some (.ref C)]) H s2 → Vals [y] us → R us s2) →
      wpAny (model P w) (A.deeper (envF F fI s.heap.objs.size)) (spliced (backTo p4 (starEach [.Name x p3] (envF F fI s.heap.objs.size)))) R (ncx CX P w K mg base [("self" : Str), x, "__class__"] F fI A outer s H E).xe ⟨h'.push (PySem.W.kxs_mw "ValueError.__init__" a), g, d, t + 1, os⟩ := fun {R} hR =>
    thn (PAx.run p4 _ _ _ H (fun vs H1 => vs = [y] ∧ H1 = H) Ip ⟨y, rfl, rfl, rfl⟩) fun us s2 ⟨vs, H1, I4, r1, ev, eH⟩ => by
      subst ev eH
      exact hR us s2 I4 r1
  rw [hst] at key
  show wpAny _ _ (callWith p4 (.ref h'.objs.size) [] (backTo p4 (starEach [.Name x p3] (envF F fI s.heap.objs.size))) []) _ _ _
  rw [hst]
  refine PySem.W.kxs_callWith (u := h'.objs.size) (x := a) (i := "ValueError.__init__") rfl (PySem.Calls.evalArgs_plain (key fun us s2 I4 r1 => ?_))
  have hu4 := (I4.pin (h'.objs.size, PySem.W.kxs_mw "ValueError.__init__" a) (by simp)).1
  refine ⟨hu4, ?_⟩
  obtain ⟨hp4, g4, d4, tk4, os4⟩ := s2
  obtain ⟨t4, ho4⟩ := exo_at I4.hok ea
  have J4 : L2.Inv (ncx CX P w K mg base [("self" : Str), x, "__class__"] F fI A outer s H E) [] (startF [("self" : Str), x, "__class__"] [.ref a, y] [some (.ref C)]) H ⟨hp4, g4, d4, tk4, os4⟩ := ⟨I4.ok, I4.os, I4.bare, I4.base, I4.loc, I4.cell, I4.free, I4.freeC, (fun p hp => absurd (show p ∈ ([] : List (Addr × Obj)) ++ [] from hp) (by simp)), I4.hok, I4.len⟩
  refine call_mw (I4.kIn _ _ hC) ho4 hu4 (by show us.length ≤ _; rw [← r1.length, sizeLine_eq]; show 1 ≤ 16777216; omega) fun h5 t5 k5 he5 => ?_
  have J5 := J4.write (t' := tk4) (x := a) (e := a) (o := exo a C none) (by rw [ea]; exact True.intro) (.inl rfl) k5 ⟨_, he5⟩ (exo_ok he5)
  have eu : upd H a (exo a C none) = H := by
    funext b
    by_cases hb : b = a
    · rw [hb, upd_same, ea]
    · rw [upd_ne hb]
  rw [eu] at J5
  refine wpAt_of_wpAny ?_
  have PB : PSs (ncx CX P w K mg base [("self" : Str), x, "__class__"] F fI A outer s H E) [.Assign [.Attribute (.Name "self" p6) fld p7] (.Name x p8) p9] _ :=
    pss_one (ps_ost (pv 0 rfl (.inl (S.par "self" (by simp))) (by decide) (by decide)) (pv 1 rfl (.inl (S.par x (by simp))) hdb hcd2) (hsw2 _))
  refine wpAny_mono (PB.run [] _ _ H { nx := fun _ H' => Q .non H', rt := Q } J5 ⟨y, rfl, .ref a, rfl, a, C, rfl, T, noat, .inl ⟨ea, fun d h1 h2 => hq d h1 h2⟩⟩) (fun fl s' hs => ?_) fun e s' hs => hs
  have fin : ∀ {σ' : L2.St} {H' : Hp} {v : V} {u : Value}, L2.Inv (ncx CX P w K mg base [("self" : Str), x, "__class__"] F fI A outer s H E) [] σ' H' s' → L2.RelV v u → Q v H' → CE outer P w H s Q u s' :=
    fun {σ' H' v u} J rv q => ⟨v, H', J.os, J.bare, J.base, J.hok, rv, q⟩
  cases fl with
  | ret u =>
    obtain ⟨v, σ', H', J, rv, q⟩ := hs
    exact fin J rv q
  | next =>
    obtain ⟨σ', H', J, q⟩ := hs
    exact fin (v := V.non) (u := Value.none) J rfl q
  | brk =>
    obtain ⟨_, _, _, q⟩ := hs
    exact False.elim q
  | cont =>
    obtain ⟨_, _, _, q⟩ := hs
    exact False.elim q
end VmX

set_option maxHeartbeats 1000000
namespace VmX
open PySem PySem.Spec PyProof.Rows L2
def exK (cls : Value) (d : Option Addr) (a : Addr) : HO := .ext fun h => ∃ (oe : Obj) (vs : Array Value), h.get? a = some oe ∧ oe.cls = cls ∧ oe.dict = d ∧ oe.data = .fields vs
section
variable {X : Cx} {pins : List (Addr × Obj)} {σ : L2.St} {H : Hp} {s : Shared}
theorem exK_ok {P : Program} {w : World} {H : Hp} {h : Heap} {a : Addr} {cls : Value} {d : Option Addr} {oe : Obj} {vs : Array Value} (e : h.get? a = some oe) (z : Zc cls d oe) (hd : oe.data = .fields vs) : ObjOk P w H h a (exK cls d a) :=
  ⟨⟨oe, vs, e, z.1, z.2, hd⟩, ⟨_, e⟩, fun h1 h2 ⟨oe, vs, q, k⟩ st => ⟨oe, vs, st _ q, k⟩⟩
theorem inv_track {a : Addr} {o : HO} (I : L2.Inv X pins σ H s) (na : H a = none) (n0 : X.s_0.heap.get? a = none) (nL : a ≠ X.env.locals) (nC : ∀ v, ¬ s.heap.IsCell a v) (nP : ∀ p ∈ X.pn ++ pins, p.1 ≠ a)
    (hok : ObjOk X.prog X.w (upd H a o) s.heap a o) : L2.Inv X pins σ (upd H a o) s := by
  have ne : ∀ b u, X.s_0.heap.get? b = some u → b ≠ a := fun b u e z => by rw [z, n0] at e; cases e
  refine ⟨I.ok, I.os, I.bare, ⟨I.base.keep, I.base.slot, fun b u e n hx => ?_, I.base.there, fun b xs e => ?_, fun b o' xs e => ?_, fun b ps e => ?_⟩, I.loc, I.cell, ?_, fun y c e => ?_, fun p hp => ?_, fun b u e => ?_, I.len⟩
  · rw [upd_ne (ne b u e)]
    exact I.base.free b u e n hx
  · have q := I.base.tups b xs e
    rw [upd_ne (ne_of_none q na)]
    exact q
  · have q := I.base.frzs b o' xs e
    rw [upd_ne (ne_of_none q na)]
    exact q
  · obtain ⟨more, q⟩ := I.base.tbls b ps e
    exact ⟨more, by rw [upd_ne (ne_of_none q na)]; exact q⟩
  · rw [upd_ne (Ne.symm nL)]
    exact I.free
  · obtain ⟨v, z⟩ := I.cell y c e
    have nc : c ≠ a := fun q => nC v (by rw [← q]; exact z)
    rw [upd_ne nc]
    exact I.freeC y c e
  · obtain ⟨h1, h2, h3, h4, h5⟩ := I.pin p hp
    exact ⟨h1, by rw [upd_ne (nP p hp)]; exact h2, h3, h4, h5⟩
  · by_cases hb : b = a
    · subst hb
      rw [upd_same] at e
      cases e
      exact hok
    · rw [upd_ne hb] at e
      exact (I.hok b u e).stay (fun _ _ _ q => q) (fun c q => by rw [upd_ne (ne_of_none q na)]; exact q) fun c xs q => by rw [upd_ne (ne_of_none q na)]; exact q
end
def wKeep (K : PySem.W.Frag) (c : Value) (i : Nat) (ts : Addr → Value → Option Addr → TS) (D : Ends) : WX := fun cls d σ H =>
  PySem.W.exmOne K cls c = some true ∧ ∀ a, H a = none → ts a cls d { nx := fun σ' H' => H' a = none → D.nx (σ'.set i none) (upd H' a (exK cls d a)), rt := fun _ _ => False, bk := fun _ _ => False, ct := fun _ _ => False } (σ.set i (some (.ref a))) H
structure Cau (X : Cx) (pins : List (Addr × Obj)) (σ : L2.St) (H : Hp) (a : Addr) (n0 : Prop) (good : Shared → Prop) : Prop where
  na : H a = none
  new : n0
  apart : ∀ p ∈ X.pn ++ pins, p.1 ≠ a
  nL : a ≠ X.env.locals
  nF : a ∉ X.fs
  inv : ∀ s, good s → L2.Inv X pins σ H s
section
variable {X : Cx} {x n : Str} {c : Value} {i : Nat} {body suite : List Stmt} {b₀ : Stmt} {np pos pos' : Pos} {tb : WX → TS} {ts : Addr → Value → Option Addr → TS}
theorem keep_suite {pins : List (Addr × Obj)} {σ : L2.St} {H : Hp} {D : Ends} {s : Shared} {a : Addr} {oe : Obj} {vs : Array Value} {cls : Value} {d : Option Addr} {E : Value → Shared → Prop} (hN : X.N.Nodup) (hi : X.N[i]? = some n) (hln : X.env.kindOf n = some .local)
    (C : Cau X pins σ H a (X.s_0.heap.get? a = none) (fun t => t = s)) (he : s.heap.get? a = some oe) (hz : Zc cls d oe) (hd : oe.data = .fields vs)
    (hsu : ∀ (a : Addr) (oe : Obj) (cls : Value) (d : Option Addr) (pn : List (Addr × Obj)), Zc cls d oe → (∃ vs, oe.data = .fields vs) → PSs (X.suite a ((a, oe) :: pn)) (b₀ :: suite) (ts a cls d))
    (ht : ts a cls d { nx := fun σ' H' => H' a = none → D.nx (σ'.set i none) (upd H' a (exK cls d a)), rt := fun _ _ => False, bk := fun _ _ => False, ct := fun _ _ => False } (σ.set i (some (.ref a))) H) {Q : Flow → Shared → Prop}
    (hQ : ∀ s7 σ7 H7, L2.Inv X pins σ7 H7 s7 → D.nx σ7 H7 → Q .next s7) :
    wpAny (model X.prog X.w) (X.A.mark (some (.ref a))) (storeName X.env n (.ref a)) (fun _ s5 => wpAny (model X.prog X.w) (X.A.mark (some (.ref a))) (execs (b₀ :: suite) X.env) (fun f s6 => f = .next ∧ wpAny (model X.prog X.w) X.A (do bindName X.env n .none; unbindBehindTheSuite X.env n pos') (fun _ s7 => Q .next s7) E s6) (fun _ _ => False) s5) (fun _ _ => False) s := by
  have J := C.inv s rfl
  have S4 := J.suite he hd C.na C.nL C.nF
  refine store_ok (X := X.suite a ((a, oe) :: (X.pn ++ pins))) (v := .ref a) S4 hN hi (.inl hln) rfl (fun s5 S5 => ?_) (.inr hln)
  have run := (hsu a oe cls d (X.pn ++ pins) hz ⟨_, hd⟩).run [] s5 _ H _ S5 ht
  refine wpAny_mono run (fun f s6 end_ => ?_) fun _ _ z => z
  have only : f = .next ∧ ∃ σ6 H6, L2.Inv (X.suite a ((a, oe) :: (X.pn ++ pins))) [] σ6 H6 s6 ∧ (H6 a = none → D.nx (σ6.set i none) (upd H6 a (exK cls d a))) := by
    cases f with
    | next => exact ⟨rfl, end_⟩
    | brk => exact let ⟨_, _, _, z⟩ := end_; z.elim
    | cont => exact let ⟨_, _, _, z⟩ := end_; z.elim
    | ret u => exact let ⟨_, _, _, _, _, z⟩ := end_; z.elim
  obtain ⟨rfl, σ6, H6, S6, q6⟩ := only
  refine ⟨rfl, gone_ok (pins := (a, oe) :: pins) (X := X) ⟨J.ok, S6.os, S6.bare, S6.base, S6.loc, S6.cell, S6.free, S6.freeC, fun p hp => S6.pin p ?_, S6.hok, S6.len⟩ hN hi hln fun s7 J7 => ?_⟩
  · have : p ∈ X.pn ∨ p = (a, oe) ∨ p ∈ pins := by simpa using hp
    show p ∈ ((a, oe) :: (X.pn ++ pins)) ++ []
    simp only [List.append_nil, List.mem_cons, List.mem_append]
    rcases this with h | h | h
    · exact .inr (.inl h)
    · exact .inl h
    · exact .inr (.inr h)
  have p7 := J7.pin (a, oe) (by simp)
  have J8 : L2.Inv X pins (σ6.set i none) H6 s7 := ⟨J7.ok, J7.os, J7.bare, J7.base, J7.loc, J7.cell, J7.free, J7.freeC, fun p hp => J7.pin p (by
    have : p ∈ X.pn ∨ p ∈ pins := by simpa using hp
    simp only [List.mem_append, List.mem_cons]
    exact this.imp id .inr), J7.hok, J7.len⟩
  refine hQ s7 _ _ (inv_track J8 p7.2.1 C.new C.nL (fun v z => ?_) C.apart (exK_ok p7.1 hz hd)) (q6 p7.2.1)
  obtain ⟨o, ho, hv⟩ := z
  rw [p7.1] at ho
  cases ho
  rw [hd] at hv
  cases hv
theorem ps_try_keep (hex : X.ex = []) (hs : X.stack = X.env :: X.outer) (hf : X.env.frame = some X.env.locals) (hN : X.N.Nodup) (hi : X.N[i]? = some n) (hln : X.env.kindOf n = some .local) (hc : Names X x c)
    (hb : ∀ (W : WX) (pn : List (Addr × Obj)) (xe : Value → Shared → Prop), Takes (X.tr pn xe) W → PSs (X.tr pn xe) body (tb W))
    (hsu : ∀ (a : Addr) (oe : Obj) (cls : Value) (d : Option Addr) (pn : List (Addr × Obj)), Zc cls d oe → (∃ vs, oe.data = .fields vs) → PSs (X.suite a ((a, oe) :: pn)) (b₀ :: suite) (ts a cls d)) :
    PS X (.Try body [.ExceptHandler (some (.Name x np)) (some n) (b₀ :: suite) pos'] [] [] pos) (fun D σ H => tb (wKeep X.K c i ts D) D σ H) := by
  constructor
  intro pins s σ H D I hD
  have frames : X.A.frames = some (X.env :: X.outer) := I.ok.frames.trans (congrArg some hs)
  -- what the try does with whatever its body lets out
  let back : Value → Shared → Prop := fun e t => wpAny (model X.prog X.w) X.A (noteFrame e X.env) (fun _ t => wpAny (model X.prog X.w) X.A (setFlight e none) (fun _ t => wpAny (model X.prog X.w) X.A (handleBy e X.env [.ExceptHandler (some (.Name x np)) (some n) (b₀ :: suite) pos']) (SP X pins D) X.xe t) X.xe t) X.xe t
  have caught : Takes (X.tr (X.pn ++ pins) back) (wKeep X.K c i ts D) := by
    rintro _ t ⟨a, B, sI, pins', σ', H', cls, d, rfl, I', nb, up, sky, na, os, ag, hcls, hts⟩
    have J : L2.Inv X pins σ' H' sI := I'.ofTry I.ok
    have sky2 : Sky B (X.env :: X.outer) a (Zc cls d) X.env.locals t.heap := hs ▸ sky
    show wpAny (model X.prog X.w) X.A (noteFrame (.ref a) X.env) _ X.xe t
    refine Sky.land Zc.steady frames hf sky2 fun h3 fl3 up3 => ?_
    have state : ∀ h4, HandSPX.FlyingZ B (X.env :: X.outer) a (Zc cls d) h4 → sI.heap.UpToSlots h4 → Cau X pins σ' H' a (X.s_0.heap.get? a = none) (fun t' => t' = { t with heap := h4 }) ∧ ∃ oe vs, h4.get? a = some oe ∧ Zc cls d oe ∧ oe.data = .fields vs := fun h4 fl4 up4 => by
      obtain ⟨oe, vs, at_, z, dat⟩ := fl4.there
      have out : a ∉ frs (X.env :: X.outer) := fun hm => by
        obtain ⟨_, o', e', no⟩ := fl4.2.2.1.mem hm
        rw [at_] at e'
        cases e'
        exact no _ dat
      have fresh : sI.heap.get? a = none := by
        cases q : sI.heap.get? a with
        | none => rfl
        | some o => exact absurd (nb a o q (by rw [hs]; exact out)) (by rw [fl4.2.1]; intro z; cases z)
      refine ⟨⟨na, ?_, fun p hp q => ?_, fun q => out ?_, fun q => out ?_, fun _ e => e ▸ J.landed nb fl4.1 up4 os ag⟩, oe, vs, at_, z, dat⟩
      · cases q : X.s_0.heap.get? a with
        | none => rfl
        | some o =>
          obtain ⟨_, q'⟩ := J.base.there a o q (by rw [hex]; simp)
          rw [fresh] at q'
          cases q'
      · have := (J.pin p hp).1
        rw [q, fresh] at this
        cases this
      · exact List.mem_filterMap.mpr ⟨X.env, List.mem_cons_self, by rw [hf, q]⟩
      · obtain ⟨e, he, r⟩ := List.mem_filterMap.mp q
        exact List.mem_filterMap.mpr ⟨e, List.mem_cons_of_mem _ he, r⟩
    obtain ⟨C3, oe3, vs3, at3, z3, d3⟩ := state h3 fl3 (up.trans up3)
    have J3 := C3.inv _ rfl
    have S3 := J3.suite at3 d3 na C3.nL C3.nF
    refine wpAny_handleBy_cons (codeAny_handlers_test ?_) (fun q => by cases q)
    have asks := PySem.W.exm_one (M := model X.prog X.w) J3.kIn (fun A Q E s k q => wpAny_typeOf_ref (k _ _ at3) (by rw [z3.1]; exact q)) hcls
    have name : ∀ {Q E : Value → Shared → Prop}, Q c { t with heap := h3 } → wpAny (model X.prog X.w) (X.A.mark (some (.ref a))) (eval (.Name x np) X.env) Q E { t with heap := h3 } := fun q => by
      rcases hc with ⟨hg, hdbg, hm | ⟨hm, hv, hnn⟩⟩
      · exact ld_glob (X := X.suite a ((a, oe3) :: (X.pn ++ pins))) S3 hg hm q hdbg
      · exact ld_blt (X := X.suite a ((a, oe3) :: (X.pn ++ pins))) S3 hg hm hv q hnn hdbg
    refine name (asks.here (codeAny_handlers_suite_as (HandSPX.lands_againZ fl3 fun h4 fl4 up4 => ?_)))
    obtain ⟨C4, oe4, vs4, at4, z4, d4⟩ := state h4 fl4 ((up.trans up3).trans up4)
    refine wpAny_mono (keep_suite (Q := SP X pins D) (E := X.xe) (pos' := pos') hN hi hln C4 at4 z4 d4 hsu (hts a na) fun s7 σ7 H7 J7 q7 => ⟨σ7, H7, J7, q7⟩) (fun _ s5 h5 => wpAny_mono h5 (fun f s6 ⟨e, h6⟩ => ?_) fun _ _ z => z.elim) fun _ _ z => z.elim
    subst e
    exact h6
  refine wpAny_Try_except (wpAny_mono ((hb _ (X.pn ++ pins) back caught).run [] s σ H D (I.toTry _) hD) (fun f s1 q => ?_) fun _ _ z => z)
  cases f with
  | next => exact let ⟨σ', H', J, q⟩ := q; wpAny_execs_nil ⟨σ', H', J.ofTry I.ok, q⟩
  | brk => exact let ⟨σ', H', J, q⟩ := q; ⟨σ', H', J.ofTry I.ok, q⟩
  | cont => exact let ⟨σ', H', J, q⟩ := q; ⟨σ', H', J.ofTry I.ok, q⟩
  | ret u => exact let ⟨v, σ', H', J, r, q⟩ := q; ⟨v, σ', H', J.ofTry I.ok, r, q⟩
end
end VmX

set_option maxHeartbeats 1000000
namespace Vm
open PySem L2 PyProof.Rows
def ExAt (w : Wd) (b : Bs) (c : Nat) (x : Option D) (d : Option Addr) : Prop := match x with
  | none => True
  | some y => ∃ dd v, d = some dd ∧ b.G.F dd = some (.xd ((w.flds c).zip [v])) ∧ (w.flds c).length = 1 ∧ Fz w b.G y v
def dW (w : Wd) (W : WX) : Wx := fun c x b e => ∀ σ d, Sat w b σ e → ExAt w b c x d → W (.ref (w.cls c)) d σ b.H
theorem ExAt.mono {w : Wd} {b b' : Bs} {c : Nat} {x : Option D} {d : Option Addr} (h : ExAt w b c x d) (k : b.G.le b'.G) : ExAt w b' c x d := by
  cases x with
  | none => trivial
  | some y =>
    obtain ⟨dd, v, h1, h2, h3, h4⟩ := h
    exact ⟨dd, v, h1, k.f _ _ h2, h3, h4.mono k⟩
def spX (w : Wd) (F : FV) : Sp := fun vs H Q E => ∃ b mu ds, H = b.H ∧ Sat w b [] ⟨[], mu⟩ ∧ FzL w b.G ds vs ∧ match F mu ds with
  | .ok d mu' => ∀ v b', Gr false b b' → Sat w b' [] ⟨[], mu'⟩ → Tmp w b b' d v → Q v b'.H
  | .exc c x mu' => ∀ b' d, Gr false b b' → Sat w b' [] ⟨[], mu'⟩ → ExAt w b' c x d → E (.ref (w.cls c)) d b'.H
  | .stuck => False
structure FnX (P : Program) (w : World) (K : PySem.W.Frag) (mg : Str → Option Value) (base : Heap) (k : Nat) (x : Str) (sp : Sp) : Prop where
  ex : ∃ (f : Addr) (fd : FuncData) (ps : List Str), FnOk P w K mg base (L2.CX P w) k f fd ps sp ∧ mg x = some (.ref f) ∧ PySem.W.keepIn K (.ref f) = true ∧ Binds K fd ps []
theorem Def1.fnX {P : Program} {w : World} {K : PySem.W.Frag} {mg : Str → Option Value} {base : Heap} {x qual : Str} {st : Stmt} {k : Nat} {sp : Sp} {ps : List Str} (D : Def1 K mg x qual st) (hb : ∀ f fd, FunD K x qual (defArgs st) (defBody st) (defScope st) [] [] f fd → Binds K fd ps [])
    (h : ∀ f fd, FunD K x qual (defArgs st) (defBody st) (defScope st) [] [] f fd → FnOk P w K mg base (L2.CX P w) k f fd ps sp) : FnX P w K mg base k x sp := by
  obtain ⟨f, fd, hm, F⟩ := D.ex
  exact ⟨f, fd, ps, h f fd F, hm, F.kp, hb f fd F⟩
theorem fn_xp {P : Program} {w : World} {W : Wd} {K : PySem.W.Frag} {mg : Str → Option Value} {base : Heap} {x qual : Str} {params : Arguments} {body : List Stmt} {scope : Scope} {dvs : List V} {kws : List (Str × V)} {f : Addr} {fd : FuncData}
    {N ps : List Str} {k m n : Nat} {bd : SM} (F : FunD K x qual params body scope dvs kws f fd) (S : FnScope N ps scope) (hps : ps.length = m) (hls : N.length - ps.length = n)
    (hb : ∀ (cdv : Value) (A : Around) (outer : List Env) (s : Shared) (H : Hp) (vs : List V) (E : XK), Room k (A.deeper (envOfC qual scope s.heap.objs.size f cdv)) → ∀ WW : WX, Takes (cxOf (L2.CX P w) P w K mg base N qual scope f cdv A outer s H E) WW →
      PSs (cxOf (L2.CX P w) P w K mg base N qual scope f cdv A outer s H E) body (tS W (dW W WW) bd)) :
    FnOk P w K mg base (L2.CX P w) (k + 1) f fd ps (spX W (pureF (runP m n bd))) := by
  have red : ∀ vs H Q E, spX W (pureF (runP m n bd)) vs H Q E → ∃ b mu ds, H = b.H ∧ Sat W b [] ⟨[], mu⟩ ∧ FzL W b.bare.G ds vs ∧ ds.length = m ∧ (match toRo (endP (bd ⟨ds.map some ++ List.replicate n none, []⟩)) mu with
      | .ok d mu' => ∀ v b', Gr false b b' → Sat W b' [] ⟨[], mu'⟩ → Tmp W b b' d v → Q v b'.H
      | .exc c x mu' => ∀ b' d, Gr false b b' → Sat W b' [] ⟨[], mu'⟩ → ExAt W b' c x d → E (.ref (W.cls c)) d b'.H
      | .stuck => False) := fun vs H Q E ⟨b, mu, ds, e, S0, z, h⟩ => by
    obtain ⟨z0, h⟩ := pure_in (P := fun r => match r with
      | .ok d mu' => ∀ v b', Gr false b b' → Sat W b' [] ⟨[], mu'⟩ → Tmp W b b' d v → Q v b'.H
      | .exc c x mu' => ∀ b' d, Gr false b b' → Sat W b' [] ⟨[], mu'⟩ → ExAt W b' c x d → E (.ref (W.cls c)) d b'.H
      | .stuck => False) S0 z h (fun h => h)
    unfold runP at h
    by_cases hl : ds.length = m
    · rw [if_pos hl] at h
      exact ⟨b, mu, ds, e, S0, z0, hl, h⟩
    · rw [if_neg hl] at h
      exact h.elim
  have len : ∀ vs H Q E, spX W (pureF (runP m n bd)) vs H Q E → vs.length = m := fun vs H Q E h => by
    obtain ⟨b, mu, ds, _, _, z, hl, _⟩ := red vs H Q E h
    rw [z.length, hl]
  refine F.ok S (fun vs H Q E h => by rw [len vs H Q E h, hps]) fun cdv A outer s H vs Q E hr h => ⟨_, hb cdv A outer s H vs E hr _ (takes_of rfl rfl rfl rfl), ?_⟩
  have hl := len vs H Q E h
  obtain ⟨b, mu, ds, rfl, S0, z, hl2, h⟩ := red vs H Q E h
  have e1 : L2.start N vs = vs.map some ++ List.replicate n none := by
    unfold L2.start
    rw [hl, ← hps, hls]
  rw [e1]
  refine ⟨b.bare, _, rfl, S0.bare.start z, ?_⟩
  cases hbd : bd ⟨ds.map some ++ List.replicate n none, []⟩ with
  | rt d' e' =>
    rw [hbd] at h
    intro b' σ' v g S' t
    cases hm : e'.mu with
    | nil =>
      have h' : ∀ v b', Gr false b b' → Sat W b' [] ⟨[], mu⟩ → Tmp W b b' d' v → Q v b'.H := by
        simp only [endP, hm] at h
        exact h
      have S2 := S'.top
      rw [hm] at S2
      have g2 : Gr false b.bare b'.top := g.trans Gr.top
      have t2 : Tmp W b.bare b'.top d' v := t.stay (Gr.top (s := false))
      exact h' v (b.wrap b'.top) (Gr.wrap g2) (S0.wrap g2 S2) (t2.wrap S0 S2)
    | cons c r =>
      simp only [endP, hm] at h
      exact h.elim
  | nx e' =>
    rw [hbd] at h
    intro b' σ' g S'
    cases hm : e'.mu with
    | nil =>
      have h' : ∀ v b', Gr false b b' → Sat W b' [] ⟨[], mu⟩ → Tmp W b b' .non v → Q v b'.H := by
        simp only [endP, hm] at h
        exact h
      have S2 := S'.top
      rw [hm] at S2
      have g2 : Gr false b.bare b'.top := g.trans Gr.top
      exact h' .non (b.wrap b'.top) (Gr.wrap g2) (S0.wrap g2 S2) (Fz.tmp (fz_non.mpr rfl))
    | cons c r =>
      simp only [endP, hm] at h
      exact h.elim
  | bk e' => rw [hbd] at h; exact h.elim
  | ct e' => rw [hbd] at h; exact h.elim
  | exc c x e' =>
    rw [hbd] at h
    intro b' σ' g S' σ2 d2 S3 xa
    cases hm : e'.mu with
    | nil =>
      have h' : ∀ b' d, Gr false b b' → Sat W b' [] ⟨[], mu⟩ → ExAt W b' c x d → E (.ref (W.cls c)) d b'.H := by
        simp only [endP, hm] at h
        exact h
      have S2 := S'.top
      rw [hm] at S2
      have g2 : Gr false b.bare b'.top := g.trans Gr.top
      have le : b'.top.G.le (b.wrap b'.top).G := ⟨fun _ _ h => h, fun n a h => by
        have := (S2.lm n).mpr (Nat.zero_le _)
        rw [this] at h
        cases h⟩
      exact h' (b.wrap b'.top) d2 (Gr.wrap g2) (S0.wrap g2 S2) (ExAt.mono (b := b'.top) xa le)
    | cons c r =>
      simp only [endP, hm] at h
      exact h.elim
  | stuck => rw [hbd] at h; exact h.elim
def callX (F : FV) (ds : List D) (e : En) : Rs D := match F e.mu ds with
  | .ok d mu => .ok d ⟨e.sl, mu⟩
  | .exc c x mu => .exc c x ⟨e.sl, mu⟩
  | .stuck => .stuck
def eCallX (F : FV) (ar : LM) : EM := fun e => (ar e).bind fun ds e1 => callX F ds e1
theorem call_spX {w : Wd} {W : WX} {s : Bool} {σ : L2.St} {b b0 : Bs} {e : En} {ds : List D} {vs : List V} {F : FV} {Q : VK} (S : Sat w b σ e) (g0 : Gr s b0 b) (z : FzL w b.G ds vs) (h : PR w (dW w W) s σ b (callX F ds e) fun d b' _ => ∀ v, Tmp w b0 b' d v → Q v b'.H) : spX w F vs b.H Q (WE W σ) := by
  refine ⟨b.top, e.mu, ds, rfl, S.top, z, ?_⟩
  unfold callX at h
  cases hf : F e.mu ds with
  | ok d mu' =>
    rw [hf] at h
    exact fun v b' g S' t => h (b.aft b') (aft_gr g) (S.aft g S') v ((Tmp.aft S t).back g0)
  | exc c x mu' =>
    rw [hf] at h
    exact fun b' d g S' xa => h (b.aft b') (aft_gr g) (S.aft g S') σ d (S.aft g S') (ExAt.mono xa (.refl _))
  | stuck => rw [hf] at h; exact h.elim
section
variable {X : Cx} {W : WX} {s : Bool} {w : Wd} {pos p pos' apos : Pos} {x : Str} {a : Expr} {es : List Expr} {F : FV} {ar : LM} {k : Nat} {f : EM}
theorem vCallX (F0 : FnX X.prog X.w X.K X.mg X.base k x (spX w F)) (tk : Takes X W) (hr : Room k X.A) (ha : PA X (a :: es) (tA w (dW w W) s ar)) (hg : Gl X x := by rfl) (hdb : (x == ("__debug__" : Str)) = false := by decide)
    (he : starEach (a :: es) X.env = (false, eval a X.env) :: starEach es X.env := by rfl) (hpl : (backTo pos (starEach es X.env)).any (·.1) = false := by rfl) : PE X (.Call (.Name x p) (a :: es) [] pos) (tV w (dW w W) s (eCallX F ar)) := by
  obtain ⟨f, fd, ps, h1, h2, h3, h4⟩ := F0.ex
  refine (pe_callS h1 hr hg h2 h3 h4 (fun σ => passAt tk σ) ha hdb he hpl).imp fun σ H Q h => ?_
  obtain ⟨b, e, rfl, S, h⟩ := h
  exact ⟨b, e, rfl, S, (PR.bind h).mono fun ds b1 e1 g1 S1 h1 vs zs => call_spX S1 g1 zs h1⟩
structure ExM (P : Program) (K : PySem.W.Frag) (mg : Str → Option Value) (C : Addr) (fld : Str) : Prop where
  ex : ∃ (fI : Addr) (F : NdefX.NF) (x : Str) (dV kV doc pm ct oc : Value) (an od : Option Addr) (osl : Array (Option Value)), K.lookup fI = some ⟨oc, od, .func (PySem.W.fnX F.name F.qual F.params F.body F.scope F.cl dV kV doc pm an (.ref F.c) ct), osl⟩ ∧ PySem.W.codeIn K (.ref F.c) F.qual = true ∧ VmX.Ei P K C fI F x fld ∧ mg "super" = none ∧
    (x == ("__debug__" : Str)) = false ∧ (x == ("__classdict__" : Str)) = false ∧ Binds K (PySem.W.fnX F.name F.qual F.params F.body F.scope F.cl dV kV doc pm an (.ref F.c) ct) ["self", x] []
def sRaise (c : Nat) (f : EM) : SM := fun e => ofE (f e) fun d e1 => .exc c (some d) e1
theorem zRaise {fld : Str} (c : Nat) (o : Okx w X) (M : ExM X.prog X.K X.mg (w.cls c) fld) (hfl : w.flds c = [fld]) (tk : Takes X W) (hr : Room 2 X.A) (hm : X.mg x = some (.ref (w.cls c))) (ha : PE X a (tZ w (dW w W) s f)) (hg : Gl X x := by rfl)
    (hdb : (x == ("__debug__" : Str)) = false := by decide) (he : starEach [a] X.env = (false, eval a X.env) :: starEach [] X.env := by rfl) (hpl : (backTo pos (starEach [] X.env)).any (·.1) = false := by rfl) :
    PS X (.Raise (some (.Call (.Name x p) [a] [] pos)) none pos') (tS w (dW w W) (sRaise c f)) := by
  obtain ⟨fI, F, xp, dV, kV, doc, pm, ct, oc, an, od, osl, lk, hcd, I, hms, hdb1, hcd1, hb⟩ := M.ex
  have fo := VmX.ei_ok (CX := CX0) (w := X.w) (base := X.base) (k := 0) lk hcd I hms hdb1 hcd1
  refine (ps_raise o.c tk (pmk_oex I.T I.iC I.tI fo hr hb .nil pass0 hg hm (pa_cons ha pa_nil he) hdb he hpl)).imp fun D σ H h => ?_
  obtain ⟨b, e, rfl, S, h⟩ := h
  refine ⟨b, e, rfl, S, (SR.ofE h).mono fun d b1 e1 g1 S1 h1 v z => ⟨by simp, fun a0 ha0 => ⟨a0, v, rfl, upd_same, fun dx hdx hne => ⟨rfl, dx, [(fld, v)], upd_same, ?_, ?_, ?_⟩⟩⟩⟩
  · rw [upd_ne hne, upd_same]
  · rw [upd_ne hne] at hdx
    exact hdx
  · rw [upd_ne hne] at hdx
    have eH : upd (del (upd (upd (upd b1.H a0 (exo a0 (w.cls c) none)) dx (exd dx [(fld, v)])) a0 (exo a0 (w.cls c) (some dx))) a0) dx (.xd [(fld, v)]) = (b1.new dx (.xd [(fld, v)])).H := by
      funext y
      show _ = upd b1.H dx (.xd [(fld, v)]) y
      by_cases h1 : y = dx
      · rw [h1, upd_same, upd_same]
      · rw [upd_ne h1, upd_ne h1]
        by_cases h2 : y = a0
        · rw [h2, del_same, ha0]
        · rw [del_ne h2, upd_ne h2, upd_ne h1, upd_ne h2]
    rw [eH]
    have g : Gr false b1 (b1.new dx (.xd [(fld, v)])) := Gr.new (S1.fresh_F hdx) hdx
    refine h1 (b1.new dx (.xd [(fld, v)])) σ g (S1.new hdx) σ (some dx) (S1.new hdx) ⟨dx, v, rfl, ?_, by rw [hfl]; rfl, z.mono g.g⟩
    show upd b1.G.F dx _ dx = _
    rw [upd_same, hfl]
    rfl
end
end Vm

set_option maxHeartbeats 1000000
namespace Vm
open PySem L2 PyProof.Rows
def sTry (i j : Nat) (es : List Nat) (bd : SM) : SM := fun e => match bd e with
  | .exc c (some x) e1 => if es.contains c = true ∧ i < e1.sl.length ∧ j < e1.sl.length then .nx ⟨(e1.sl.set j (some (.exn c [x]))).set i none, e1.mu⟩ else .stuck
  | .exc _ none _ => .stuck
  | r => r
section
variable {w : Wd} {b : Bs} {σ : L2.St} {e : En}
theorem Sat.any (S : Sat w b σ e) {i : Nat} {v : Option V} (h : e.at (.s i) = none) : Sat w b (σ.set i v) e := by
  refine ⟨S.ex, by rw [List.length_set]; exact S.le, S.lm, fun y d hd => ?_, S.em, S.ap, S.nd, S.fo⟩
  obtain ⟨u, h1, h2⟩ := S.sl y d hd
  refine ⟨u, ?_, h2⟩
  cases y with
  | s k =>
    have hk : i ≠ k := fun z => by
      subst z
      rw [h] at hd
      cases hd
    show ((σ.set i v)[k]?).getD none = some u
    rw [List.getElem?_set_ne hk]
    exact h1
  | m n => exact h1
end
section
variable {X : Cx} {W : Wx} {w : Wd} {x n m : Str} {i j : Nat} {body : List Stmt} {np pos pos' p1 p2 p3 : Pos} {bd : SM} {es : List Nat} {hE : Addr}
theorem zTry (o : Okx w X) (hij : i ≠ j) (hex : X.ex = []) (hs : X.stack = X.env :: X.outer) (hf : X.env.frame = some X.env.locals) (hmE : X.mg x = some (.ref hE)) (hfl : ∀ c ∈ es, (w.flds c).length = 1) (hce : ∀ c ∈ es, PySem.W.exmOne w.K (.ref (w.cls c)) (.ref hE) = some true)
    (hb : ∀ (WW : WX) (pn : List (Addr × Obj)) (xe : Value → Shared → Prop), Takes (X.tr pn xe) WW → PSs (X.tr pn xe) body (tS w (dW w WW) bd))
    (hi : X.N[i]? = some n := by rfl) (hj : X.N[j]? = some m := by rfl) (hln : X.env.kindOf n = some .local := by rfl) (hlm : X.env.kindOf m = some .local := by rfl) (hg : Gl X x := by rfl) (hdb : (x == ("__debug__" : Str)) = false := by decide)
    (hdn : (n == ("__debug__" : Str)) = false := by decide) (hcn : (n == ("__classdict__" : Str)) = false := by decide) (hsw : swapsWith (.Name n p2) (some (.Name m p1)) p3.line X.env = pure false := by rfl) :
    PS X (.Try body [.ExceptHandler (some (.Name x np)) (some n) [.Assign [.Name m p1] (.Name n p2) p3] pos'] [] [] pos) (tS w W (sTry i j es bd)) := by
  refine (VmX.ps_try_keep hex hs hf o.N hi hln ⟨hg, hdb, .inl hmE⟩ (fun WW pn xe tk => hb WW pn xe tk) (fun a oe cls d pn hz hd => pss_one (ps_set (X := X.suite a ((a, oe) :: pn)) o.N hj (.inl hlm) (pv i hi (.inl hln) hdn hcn) hsw (.inr hlm)))).len.imp fun D σ H h hlen => ?_
  obtain ⟨b, e, rfl, S, h⟩ := h
  refine ⟨b, e, rfl, S, ?_⟩
  unfold sTry at h
  cases hbd : bd e with
  | nx e1 => rw [hbd] at h; exact h
  | bk e1 => rw [hbd] at h; exact h
  | ct e1 => rw [hbd] at h; exact h
  | rt d e1 => rw [hbd] at h; exact h
  | stuck => rw [hbd] at h; exact h
  | exc c ox e1 =>
    rw [hbd] at h
    cases ox with
    | none => exact h.elim
    | some xd =>
      have h : SR w W b (if es.contains c = true ∧ i < e1.sl.length ∧ j < e1.sl.length then .nx ⟨(e1.sl.set j (some (.exn c [xd]))).set i none, e1.mu⟩ else .stuck) D := h
      split at h
      · rename_i hc
        obtain ⟨hc, hil, hjl⟩ := hc
        have hc : c ∈ es := by simpa using hc
        intro b1 σ1 g1 S1 σ2 d2 S2 xa
        refine ⟨by rw [o.K]; exact hce c hc, fun a ha => ?_⟩
        obtain ⟨dd, v, rfl, k1, k2, k3⟩ := xa
        rw [S2.le] at hil hjl
        refine ⟨.ref a, by rw [List.getElem?_set_self hil], fun _ => ?_⟩
        show D.nx (((σ2.set i (some (.ref a))).set j (some (.ref a))).set i none) (upd b1.H a (exH (w.cls c) dd a))
        have T1 : Sat w (b1.new a (exH (w.cls c) dd a)) σ2 e1 := S2.new ha
        have gN : Gr false b1 (b1.new a (exH (w.cls c) dd a)) := Gr.new (S2.fresh_F ha) ha
        have z : Fz w (b1.new a (exH (w.cls c) dd a)).G (.exn c [xd]) (.ref a) := fz_exn.mpr ⟨a, dd, [v], rfl, upd_same, gN.g.f _ _ k1, k2.symm, FzL.one (k3.mono gN.g)⟩
        obtain ⟨b3, q1, q2, q3, q4⟩ := T1.setZ (s := false) (i := j) hjl z
        have T4 := q4.drop (.s i)
        have e4 : (σ2.set j (some (.ref a))).set i none = ((σ2.set i (some (.ref a))).set j (some (.ref a))).set i none := by
          apply List.ext_getElem?
          intro k
          by_cases hki : i = k
          · subst hki
            rw [List.getElem?_set_self (by simpa using hil), List.getElem?_set_self (by simpa using hil)]
          · rw [List.getElem?_set_ne hki, List.getElem?_set_ne hki]
            by_cases hkj : j = k
            · subst hkj
              rw [List.getElem?_set_self hjl, List.getElem?_set_self (by simpa using hjl)]
            · rw [List.getElem?_set_ne hkj, List.getElem?_set_ne hkj, List.getElem?_set_ne hki]
        have T5 := T4.any (i := i) (v := none) (at_put_same (by
          show i < (e1.sl.set j _).length
          rw [List.length_set, S2.le]
          exact hil))
        have := h (b3.drop (.s i)) _ (g1.trans ((gN.trans q3).drop)) T5
        have eH : (b3.drop (.s i)).H = upd b1.H a (exH (w.cls c) dd a) := q1
        rw [eH] at this
        rw [← e4]
        exact this
      · exact h.elim
end
def eExnF (es : List Nat) (f : EM) : EM := fun e => (f e).bind fun d e1 => match d with
  | .exn c [x] => if es.contains c then .ok x e1 else .stuck
  | _ => .stuck
def ExnF (w : Wd) (es : List Nat) (fn : Str) : Prop := ∀ c ∈ es, XfC w.K (w.cls c) ∧ PySem.W.findIn w.K (.ref (w.cls c)) fn = some none ∧ w.flds c = [fn]
def tXk (K : PySem.W.Frag) (fn : Str) (te : TE) : TE := fun σ H Q => te σ H fun x H1 => ∃ (a C dd : Addr) (v : V), x = .ref a ∧ XfC K C ∧ PySem.W.findIn K (.ref C) fn = some none ∧ H1 a = some (exH C dd a) ∧ H1 dd = some (.xd [(fn, v)]) ∧ Q v H1
theorem pe_xk {X : Cx} {e : Expr} {te : TE} {pos : Pos} {n : Str} (he : PE X e te) (hb : attributeBase e n X.env (eval e X.env) = eval e X.env := by rfl) : PE X (.Attribute e n pos) (tXk X.K n te) := by
  refine ⟨fun pins s σ H Q I h => ?_⟩
  refine attr_of hb (thn (he.run pins s σ H _ I h) fun u s1 hh => ?_)
  obtain ⟨x, H1, I1, rx, a, C, dd, v, ex, T, hno, ea, ed, q⟩ := hh
  subst ex
  obtain rfl : u = Value.ref a := rx
  have hx : ObjOk X.prog X.w H1 s1.heap a (exH C dd a) := I1.hok a _ ea
  obtain ⟨⟨oe, vs, ha, h1, h2, h3⟩, _, _⟩ := hx
  have hd : ObjOk X.prog X.w H1 s1.heap dd (.xd [(n, v)]) := I1.hok dd _ ed
  obtain ⟨mA, hns, hr⟩ := hd
  obtain ⟨od, ho, hl⟩ := lookIn_ns hns
  obtain ⟨u, hu, ru⟩ := RelO.some_of (v := v) (o := mA n) (by have := hr n; simpa [List.lookup] using this)
  have J : PySem.W.InstAt s1.heap a oe C (some od) := ⟨ha, h1, by unfold PySem.W.notCls; rw [h3] <;> rfl, by rw [h2]; exact ho⟩
  exact PySem.HandSPX.exc_get I1.kIn J T.ga T.gg T.exC (PySem.W.findObj_own T.hdC hno rfl (by rw [hl, hu])) (handed_of ru) ⟨v, H1, I1.tok _, ru, q⟩
section
variable {X : Cx} {W : Wx} {s : Bool} {w : Wd} {x : Expr} {pos p p2 : Pos} {f : EM} {es : List Nat} {fn : Str}
theorem zExnF (o : Okx w X) (T : ExnF w es fn) (h : PE X x (tZ w W s f)) (hb : attributeBase x fn X.env (eval x X.env) = eval x X.env := by rfl) : PE X (.Attribute x fn pos) (tZ w W s (eExnF es f)) := (pe_xk h hb).imp fun σ H Q ⟨b, e, he, S, h⟩ => by
  subst he
  refine ⟨b, e, rfl, S, (PR.bind h).mono fun d b1 e1 g1 S1 h1 v z => ?_⟩
  cases d <;> try exact h1.elim
  rename_i c ds
  cases ds with
  | nil => exact h1.elim
  | cons y r =>
    cases r with
    | cons _ _ => exact h1.elim
    | nil =>
      have h1 : PR w W s σ b1 (if es.contains c then Rs.ok y e1 else .stuck) fun d b' _ => ∀ v, Fz w b'.G d v → Q v b'.H := h1
      split at h1
      · rename_i hc
        obtain ⟨T1, T2, T3⟩ := T c (by simpa using hc)
        obtain ⟨a, dd, vs, rfl, k1, k2, k3, k4⟩ := fz_exn.mp z
        obtain ⟨v, r, rfl, k5, k6⟩ := fzl_cons.mp k4
        cases fzl_nil.mp k6
        rw [T3] at k2
        refine ⟨a, w.cls c, dd, v, rfl, by rw [o.K]; exact T1, by rw [o.K]; exact T2, S1.ex _ _ k1, S1.ex _ _ k2, ?_⟩
        exact h1 b1 (Gr.refl b1) S1 v k5
      · exact h1.elim
def dIsE (es : List Nat) (c : Nat) : D → Option D := fun d => match d with
  | .exn c' _ => if es.contains c' then some (.bl (decide (c' = c))) else none
  | d => (tyB d).map fun _ => .bl false
def rIsX (K : PySem.W.Frag) : List V → Hp → VK → Prop := fun xs H Q => ∃ (a C dd : Addr) (fs : List (Str × V)) (c : V) (cv : Value) (b : Bool), xs = [.ref a, c] ∧ H a = some (exH C dd a) ∧ H dd = some (.xd fs) ∧ ExcC K C ∧ (∀ u, RelV c u → u = cv) ∧ PySem.W.kitOne K (.ref C) cv = some b ∧ Q (.bl b) H
def ExnI (w : Wd) (es : List Nat) (c : Nat) : Prop := NotC w.K (w.cls c) ∧ ∀ c' ∈ es, ExcC w.K (w.cls c') ∧ PySem.W.kitOne w.K (.ref (w.cls c')) (.ref (w.cls c)) = some (decide (c' = c))
end
end Vm

set_option maxHeartbeats 1000000
namespace VmX
open PySem PySem.Spec PyProof.Rows L2
abbrev Calm (A : Around) : Prop := A.guards = some []
theorem Calm.deeper {A : Around} (h : Calm A) (env : Env) : Calm (A.deeper env) := h
structure FnG (P : Program) (w : World) (K : PySem.W.Frag) (mg : Str → Option Value) (base : Heap) (CX : CXT) (k : Nat) (f : Addr) (fd : FuncData) (ps : List Str) (sp : Sp) : Prop where
  len : ∀ vs H Q E, sp vs H Q E → vs.length = ps.length
  run : ∀ (A : Around) (outer : List Env) (s : Shared) (H : Hp) (args : Args) (us : List Value) (vs : List V) (Q : VK) (E : XK), Room k A → Calm A → Env0 P w K mg base A outer s H → BindsTo s fd args (ps.zip us) → Vals vs us → sp vs H Q E →
    codeAny (model P w) A (.call (.ref f) args) (CR CX outer P w H s Q E) s
section
variable {P : Program} {w : World} {K : PySem.W.Frag} {mg : Str → Option Value} {base : Heap} {CX : CXT} {j k : Nat} {f : Addr} {fd : FuncData} {ps : List Str} {sp : Sp}
theorem FnG.of (F : FnOk P w K mg base CX k f fd ps sp) : FnG P w K mg base CX k f fd ps sp := ⟨F.len, fun A outer s H args us vs Q E hr _ => F.run A outer s H args us vs Q E hr⟩
theorem FnG.mono (F : FnG P w K mg base CX j f fd ps sp) (h : j ≤ k) : FnG P w K mg base CX k f fd ps sp := ⟨F.len, fun A outer s H args us vs Q E hr => F.run A outer s H args us vs Q E (hr.mono h)⟩
theorem leave {X : Cx} {H : Hp} {s s' : Shared} {Q : VK} {fl : Flow} (hP : X.prog = P) (hw : X.w = w) (h0 : X.H_0 = H) (hs0 : X.s_0 = s) (hex : X.ex = []) (q : SP X [] { nx := fun _ H' => Q .non H', rt := Q } fl s') : CE X.outer P w H s Q (match fl with | .ret v => v | _ => .none) s' := by
  subst hP hw h0 hs0
  have done : ∀ {σ H' v u}, L2.Inv X [] σ H' s' → RelV v u → Q v H' → CE X.outer X.prog X.w X.H_0 X.s_0 Q u s' := fun J rv q => ⟨_, _, J.os, J.bare, by have := J.base; rw [hex] at this; exact this, J.hok, rv, q⟩
  cases fl with
  | next => exact let ⟨_, _, J, q⟩ := q; done (v := .non) (u := .none) J rfl q
  | ret u => exact let ⟨_, _, _, J, r, q⟩ := q; done J r q
  | brk => exact let ⟨_, _, _, z⟩ := q; z.elim
  | cont => exact let ⟨_, _, _, z⟩ := q; z.elim
theorem leave_ne {X : Cx} {s' : Shared} {Q : VK} {fl : Flow} (q : SP X [] { nx := fun _ H' => Q .non H', rt := Q } fl s') : fl ≠ .brk ∧ fl ≠ .cont := by
  cases fl with
  | brk => exact let ⟨_, _, _, z⟩ := q; z.elim
  | cont => exact let ⟨_, _, _, z⟩ := q; z.elim
  | next => exact ⟨by simp, by simp⟩
  | ret u => exact ⟨by simp, by simp⟩
end
section
variable {P : Program} {w : World} {K : PySem.W.Frag} {mg : Str → Option Value} {base : Heap} {x qual : Str} {params : Arguments} {body : List Stmt} {scope : Scope} {dvs : List V} {kws : List (Str × V)} {f : Addr} {fd : FuncData}
theorem okG {CX : CXT} {N ps : List Str} {k : Nat} {sp : Sp} (F : FunD K x qual params body scope dvs kws f fd) (S : FnScope N ps scope) (len : ∀ vs H Q E, sp vs H Q E → vs.length = ps.length)
    (hbody : ∀ (cdv : Value) (A : Around) (outer : List Env) (s : Shared) (H : Hp) (vs : List V) (Q : VK) (E : XK), Room k (A.deeper (envOfC qual scope s.heap.objs.size f cdv)) → Calm A → sp vs H Q E →
      ∃ t, PSs (cxOf CX P w K mg base N qual scope f cdv A outer s H E) body t ∧ t { nx := fun _ H' => Q .non H', rt := Q } (start N vs) H) : FnG P w K mg base CX (k + 1) f fd ps sp := by
  obtain ⟨oc, od, dV, kV, doc, pm, an, cdv, ct, osl, rfl, lk, hcd, _, _⟩ := F.ex
  refine ⟨len, fun A outer s H args us vs Q E hr hg e0 hb r hsp => ?_⟩
  have stays : ∀ b o, base.get? b = some o → s.heap.get? b = some o := fun b o e => (e0.bs b o e).1
  have KX := e0.mod.kin.keeps stays
  have kinds : ∀ q ∈ ps.zip us, scope.names.lookup q.1 = some .local ∨ (scope.names.lookup q.1 = some .cell ∧ ((cellsFrom (s.heap.objs.size + 1) scope.names []).lookup q.1).isSome = true) := fun q hq =>
    (S.par q.1 (List.of_mem_zip (a := q.1) (b := q.2) hq).1).imp id fun c => ⟨c, PySem.W.cellsFrom_some _ _ _ (.inl c)⟩
  have enter := wpAny_newFunctionEnv_cells (M := model P w) (A := A.in1) (E := fun e s' => CR CX outer P w H s Q E (.error e) s') (globals := mainGlobals) (qual := qual ++ ".<locals>.") (func := some f) (code := cdv) (builtins := builtinsNs) (Q := fun env s1 => s1.heap.NoLimit ∧ codeAny (model P w) A (.func body env) (CR CX outer P w H s Q E) s1) S.kind kinds (fun env he s1 x => by
    subst he
    refine ⟨(e0.mod.nolimit.keeps stays).keeps x.toInCall.keep, codeAny_func ?_⟩
    obtain ⟨t, ht, hq⟩ := hbody cdv A outer s H vs Q E (hr.deeper _) hg hsp
    have start_ : L2.Inv (cxOf CX P w K mg base N qual scope f cdv A outer s H E) [] (start N vs) H s1 := inv_start (qual := qual) (f := f) (cd := cdv) S hr.hd e0 (len _ _ _ _ hsp) r x
    show wpAny (model P w) (A.deeper (envOfC qual scope s.heap.objs.size f cdv)) (execs body (envOfC qual scope s.heap.objs.size f cdv)) _ _ s1
    refine wpAny_mono (ht.run [] s1 _ H _ start_ hq) (fun fl s' out => ?_) fun _ _ z => z
    have n := leave_ne out
    have l := leave (P := P) (w := w) rfl rfl rfl rfl rfl out
    cases fl with
    | ret u => exact l
    | next => exact l
    | brk => exact absurd rfl n.1
    | cont => exact absurd rfl n.2)
  exact codeAny_call_function hr.depth (KX _ _ lk) rfl S.co S.gen rfl (PySem.W.codeRec_of KX hcd) (hb _ _ _ _ enter)
end
section
variable {X : Cx} {CX : CXT} {k : Nat} {f : Addr} {fd : FuncData} {ps : List Str} {sp : Sp} {E : L2.St → XK} {x : Str} {p pos : Pos} {e : Expr} {es : List Expr} {t : TA}
end
theorem script_heap {P : Program} {w : World} {K : PySem.W.Frag} {h : Heap} {a : Addr} {vs : List Value} {ns : List Int} (KX : K.In h) (ha : h.get? a = some { cls := .type "list", data := .seq vs.toArray }) (hi : IntsAre vs ns) (hl : ns.length ≤ sizeLine) :
    ∃ H : Hp, Only H ∧ SqL K H a (ns.map V.int) ∧ HOk P w H h ∧ (∀ b, b ≠ a → H b = none) ∧ (H a = none ∨ K.lookup a = none) := by
  cases hk : K.lookup a with
  | some o =>
    have e := (KX a o hk).symm.trans ha
    cases e
    refine ⟨fun _ => none, fun _ => .inl rfl, .inr ⟨_, vs.toArray, _, hk, rfl, rfl, rfl, ?_, ?_⟩, (fun b u z => nomatch (show (none : Option HO) = some u from z)), fun _ _ => rfl, .inl rfl⟩
    · rw [List.size_toArray, hi.length]
      exact hl
    · have := vals_ints hi
      simpa using this
  | none =>
    let H : Hp := fun b => if b = a then some (.frz { cls := .type "list", data := .seq vs.toArray } (.lst (ns.map V.int))) else none
    have Ha : H a = some (.frz { cls := .type "list", data := .seq vs.toArray } (.lst (ns.map V.int))) := if_pos rfl
    have Hn : ∀ b, b ≠ a → H b = none := fun b hb => if_neg hb
    refine ⟨H, fun b => ?_, .inl (.inr ⟨_, Ha⟩), fun b u z => ?_, Hn, .inr rfl⟩
    · rcases Classical.em (b = a) with rfl | hb
      · exact .inr ⟨_, _, Ha⟩
      · exact .inl (Hn b hb)
    · rcases Classical.em (b = a) with rfl | hb
      · rw [Ha] at z
        cases z
        exact ⟨ha, by rw [List.length_map]; exact hl, vs, _, vals_ints hi, ha⟩
      · rw [Hn b hb] at z
        cases z
theorem law_callG {P : Program} {w : World} {K : PySem.W.Frag} {mg mb : Str → Option Value} {k : Nat} {fa a : Addr} {fd : FuncData} {x : Str} {sp : Sp} {s₁ : Shared} {vs : List Value} {ns : List Int}
    (KX : K.In s₁.heap) (hns : s₁.heap.Ns mainGlobals mg) (hb : s₁.heap.Ns builtinsNs mb) (hbb : ∀ x : Str, x ≠ "__name__" → mb x = bootBuiltins x) (hlim : s₁.heap.NoLimit) (hg : s₁.gens = #[])
    (ha : s₁.heap.get? a = some { cls := .type "list", data := .seq vs.toArray }) (hi : IntsAre vs ns) (hl : ns.length ≤ sizeLine) (hr : Room k callerA)
    (F : ∀ base : Heap, K.In base → base.Ns mainGlobals mg → FnG P w K mg base CX0 k fa fd [x] sp) (hbind : ∀ (s : Shared) (u : Value), BindsTo s fd ⟨[u], []⟩ [(x, u)])
    (hsp : ∀ H : Hp, Only H → SqL K H a (ns.map V.int) → sp [.ref a] H (fun v _ => v = .bl true) E0) :
    codeAny (model P w) callerA (.call (.ref fa) ⟨[.ref a], []⟩) (fun r s' => r = .ok (.ret (.bool true)) ∧ OldK s₁.heap s'.heap ∧ s'.os = s₁.os ∧ AllBare s'.gens) s₁ := by
  obtain ⟨H, only, sq, hok, off, own⟩ := script_heap (P := P) (w := w) KX ha hi hl
  have free : ∀ {b : Addr} {o : Obj}, s₁.heap.get? b = some o → (∀ its n, o.data ≠ .seq its n) → H b = none := fun {b o} e d => off b fun z => by
    rw [z, ha] at e
    cases e
    exact d _ _ rfl
  have ground : ∀ {b : Addr} {m : Str → Option Value}, s₁.heap.Ns b m → (hidT s₁.heap H).Ns b m := fun {b m} ⟨o, es, ep, e, d, r⟩ => ⟨o, es, ep, hidT_get e (free e fun its n z => by rw [d] at z; cases z), d, r⟩
  have kin : K.In (hidT s₁.heap H) := fun b o e => hidT_get (KX b o e) (by
    rcases Classical.em (b = a) with rfl | hb
    · exact own.resolve_right fun z => by rw [z] at e; cases e
    · exact off b hb)
  obtain ⟨ml, hl1, hl2⟩ := hlim
  have e0 : Env0 P w K mg (hidT s₁.heap H) callerA [] s₁ H := {
    frames := rfl
    mod := ⟨kin, ground hns, ⟨mb, ground hb, hbb⟩, ⟨ml, ground hl1, hl2⟩⟩
    bs := fun b o e => of_hidT e
    bsz := Nat.le_of_eq (hidT_size _ _)
    funs := trivial
    frf := fun b hb => absurd (show b ∈ ([] : List Addr) from hb) (by simp)
    hok := hok
    bare := .of_eq hg }
  refine codeAny_mono ((F _ kin (ground hns)).run callerA [] s₁ H ⟨[.ref a], []⟩ [.ref a] [.ref a] _ _ hr rfl e0 (hbind s₁ (.ref a)) (.cons rfl .nil) (hsp H only sq)) fun r s' out => ?_
  cases r with
  | error e => exact out.elim
  | ok fl =>
    cases fl with
    | next => exact out.elim
    | brk => exact out.elim
    | cont => exact out.elim
    | ret u =>
      obtain ⟨v, H', os, bare, un, hok', rv, rfl⟩ := out
      have eu : u = Value.bool true := rv
      refine ⟨by rw [eu], OldK.of_keep fun b o e => ?_, os, bare⟩
      cases q : H b with
      | none => exact un.keep b o e q (by simp [frs]) (by simp)
      | some hb =>
        obtain ⟨o1, xs, z⟩ := (only b).resolve_left (by rw [q]; simp)
        have old := (hok b _ z).1
        have new := (hok' b _ (un.frzs b o1 _ z)).1
        rw [e] at old
        cases old
        exact new
theorem walk_ofG {l : PySem.W.OpenLaw} {n k : Nat} {q : Program} {loose : List Str} {XP : (Str → Option Value) → Heap → Prop} {YP : World → Heap → Prop} {d : DefRec} {x : Str}
    (hn : l.most = some n) (hn2 : n ≤ sizeLine) (hdf : d.params.defaults = []) (hr : Room k callerA)
    (F : ∀ (w : World) (mg : Str → Option Value) (fa : Addr) (h : Heap), YP w h → h.Ns mainGlobals mg → mg d.name = some (.ref fa) →
      ∃ (K : PySem.W.Frag) (fd : FuncData) (sp : Sp), K.In h ∧ (∀ (s : Shared) (u : Value), BindsTo s fd ⟨[u], []⟩ [(x, u)]) ∧
        (∀ (H : Hp) (a : Addr) (ns : List Int), ns.length ≤ n → Only H → SqL K H a (ns.map V.int) → sp [.ref a] H (fun v _ => v = .bl true) E0) ∧
        ∀ base : Heap, K.In base → base.Ns mainGlobals mg → FnG l.prog w K mg base CX0 k fa fd [x] sp) :
    PySem.W.WalkO q loose XP YP l.row.toRowW d [] (fun f vs => PySem.call f vs) :=
  Att.attach_call hn hdf fun w s₀ s₁ mg mb fa o pm cd doc a vs ns G Y _ _ _ hmg hobj hints hlen hg => by
    obtain ⟨K, fd, sp, KX, hb, hsp, hF⟩ := F w mg fa _ Y G.T.g hmg
    exact law_callG KX G.T.g G.T.b G.T.builtins G.T.nolimit hg hobj hints (Nat.le_trans hlen hn2) hr hF hb fun H only sq => hsp H a ns hlen only sq
end VmX

set_option maxHeartbeats 1000000
namespace Vm
open PySem L2 PyProof.Rows
def strOkL (l : List Nat) : Bool := l.all (· < 0x110000)
theorem strOk_list {x : Str} : PyData.strOk x = strOkL x.cps.toList := by
  unfold PyData.strOk strOkL
  rw [Array.all_toList]
theorem strOk_app {x y : Str} (h : PyData.strOk x = true) (h' : PyData.strOk y = true) : PyData.strOk (x ++ y) = true := by
  rw [strOk_list] at h h' ⊢
  show strOkL (x.cps ++ y.cps).toList = true
  unfold strOkL at h h' ⊢
  rw [Array.toList_append, List.all_append, h, h']
  rfl
theorem char_lt (c : Char) : c.toNat < 0x110000 := by
  rcases c.valid with h | h
  · exact Nat.lt_trans h (by decide)
  · exact h.2
theorem strOk_of (s : String) : PyData.strOk (Str.ofString s) = true := by
  rw [strOk_list, Str.ofString_eq_toList]
  unfold strOkL
  simp only [List.all_eq_true, List.mem_map, decide_eq_true_eq]
  rintro _ ⟨c, _, rfl⟩
  exact char_lt c
theorem reprChar_ok {q c : Nat} (hc : c < 0x110000) : ∀ d ∈ Builtin.Str.reprChar q c, d < 0x110000 := by
  have dig : ∀ (l : List Char), ∀ d ∈ l.map Char.toNat, d < 0x110000 := fun l d hd => by
    obtain ⟨c, _, rfl⟩ := List.mem_map.mp hd
    exact char_lt c
  intro d hd
  unfold Builtin.Str.reprChar at hd
  dsimp only at hd
  repeat' split at hd
  all_goals simp only [List.mem_append, List.mem_cons, List.mem_replicate, List.not_mem_nil, or_false] at hd
  all_goals first
    | omega
    | (rcases hd with hd | hd <;> first | omega | (rcases hd with hd | hd <;> first | omega | exact dig _ _ hd))
theorem reprText_ok {x : Str} (h : PyData.strOk x = true) : PyData.strOk (PySem.reprText x) = true := by
  rw [strOk_list] at h ⊢
  have hq : PySem.reprQuote x < 0x110000 := by
    unfold PySem.reprQuote
    split <;> decide
  have go : ∀ (l : List Nat) (acc : Array Nat), (∀ c ∈ l, c < 0x110000) → (∀ c ∈ acc.toList, c < 0x110000) → ∀ c ∈ (l.foldl (fun out c => out ++ (Builtin.Str.reprChar (PySem.reprQuote x) c).toArray) acc).toList, c < 0x110000 := by
    intro l
    induction l with
    | nil => exact fun acc _ h => h
    | cons c r ih =>
      intro acc hl ha
      refine ih _ (fun d hd => hl d (List.mem_cons_of_mem _ hd)) fun d hd => ?_
      rw [Array.toList_append] at hd
      rcases List.mem_append.mp hd with hd | hd
      · exact ha d hd
      · exact reprChar_ok (hl c (List.mem_cons_self ..)) d (by simpa using hd)
  unfold strOkL at h ⊢
  simp only [List.all_eq_true, decide_eq_true_eq] at h ⊢
  intro c hc
  unfold PySem.reprText at hc
  simp only [Array.toList_push, List.mem_append, List.mem_singleton] at hc
  rcases hc with hc | rfl
  · rw [← Array.foldl_toList] at hc
    exact go _ _ h (by intro d hd; have : d = PySem.reprQuote x := by simpa using hd
                       rw [this]; exact hq) c hc
  · exact hq
theorem join_ok {sep : Str} (hs : PyData.strOk sep = true) : ∀ {ts : List Str}, (∀ t ∈ ts, PyData.strOk t = true) → PyData.strOk (Str.join sep ts) = true
  | [], _ => by
    show PyData.strOk Str.empty = true
    decide +kernel
  | [x], h => h x (List.mem_cons_self ..)
  | x :: y :: r, h => strOk_app (strOk_app (h x (List.mem_cons_self ..)) hs) (join_ok hs fun t ht => h t (List.mem_cons_of_mem _ ht))
mutual
theorem shown_ok : ∀ p : PyData, p.canLay0 = true → PyData.strOk p.shown = true
  | .none, _ => by simp only [PyData.shown]; exact strOk_of _
  | .bool b, _ => by simp only [PyData.shown]; split <;> exact strOk_of _
  | .int i, _ => by simp only [PyData.shown]; exact strOk_of _
  | .str x, h => by
    simp only [PyData.shown]
    exact reprText_ok (by simpa only [PyData.canLay0] using h)
  | .list xs, h => by
    rw [PyData.shown_list]
    exact strOk_app (strOk_app (strOk_of _) (join_ok (strOk_of _) (shownAll_ok xs (by simpa only [PyData.canLay0] using h)))) (strOk_of _)
  | .tuple xs, h => by
    rw [PyData.shown_tuple]
    exact strOk_app (strOk_app (strOk_of _) (join_ok (strOk_of _) (shownAll_ok xs (by simpa only [PyData.canLay0] using h)))) (by split <;> exact strOk_of _)
  | .dict _, h => by simp only [PyData.canLay0] at h; cases h
theorem shownAll_ok : ∀ ps : List PyData, PyData.canLayAll0 ps = true → ∀ t ∈ PyData.shownAll ps, PyData.strOk t = true
  | [], _, t, ht => by
    simp only [PyData.shownAll] at ht
    cases ht
  | p :: ps, h, t, ht => by
    have h' : p.canLay0 = true ∧ PyData.canLayAll0 ps = true := by simpa only [PyData.canLayAll0, Bool.and_eq_true] using h
    simp only [PyData.shownAll] at ht
    rcases List.mem_cons.mp ht with rfl | ht
    · exact shown_ok p h'.1
    · exact shownAll_ok ps h'.2 t ht
end
def shOk (p : PyData) : Bool := p.intsShort 13 && (p.showable && decide (p.weight ≤ 2 ^ 20))
def dRepr : D → Option D := fun d => match d with
  | .int i => if i.natAbs.log2 < 1920 then some (.str (PyData.int i).shown) else none
  | .dic [] => some (.str (PyData.dict []).shown)
  | d => if pln DEP d = true ∧ shOk (pd d) = true then some (.str (pd d).shown) else none
def rRep (X : Cx) : List V → Hp → VK → Prop := fun xs H Q => (∃ v p, xs = [v] ∧ Dp X.K H v p ∧ p.canLay0 = true ∧ p.depth ≤ DEP ∧ ((∃ i : Int, p = .int i ∧ i.natAbs.log2 < 1920) ∨ shOk p = true) ∧ Q (.str p.shown) H) ∨
  ∃ a o, xs = [.ref a] ∧ H a = some (.frz o (.dK [])) ∧ Q (.str (PyData.dict []).shown) H
theorem call_rep {X : Cx} (hq : X.A.guards = some []) (hu : X.A.units + 65 < cLine) : CallR X (.builtin "repr") (rRep X) := by
  intro pins s σ H xs us Q I r h
  rcases h with ⟨v, p, rfl, hd, hc, hdp, hs, q⟩ | ⟨a, o, rfl, ha, q⟩
  · obtain ⟨u, rfl, ru⟩ := vals1 r
    obtain ⟨as, rd⟩ := Dp.reads I p v u hd ru
    have dp : p.depth + 1 < 65 := by
      have : DEP = 12 := rfl
      omega
    have big : (∀ i : Int, p ≠ .int i) → p.showable = true ∧ p.shown.length ≤ sizeLine := fun hn => by
      rcases hs with ⟨i, e, _⟩ | hs
      · exact absurd e (hn i)
      · unfold shOk at hs
        simp only [Bool.and_eq_true, decide_eq_true_eq] at hs
        refine ⟨hs.2.1, PyData.shown_fits_of_layable0 (B := 13) (by decide) (by decide) ?_ hs.1⟩
        unfold PyData.layable0
        rw [hc]
        simp only [Bool.true_and, Bool.and_eq_true, decide_eq_true_eq]
        exact ⟨by omega, hs.2.2⟩
    have nodict := PyData.hasDict_of_canLay p hc
    cases rd with
    | none => exact PySem.P.repr_of_none ⟨.str _, H, I.tok _, ⟨_, rfl⟩, q⟩
    | bool b => exact PySem.P.repr_of_bool ⟨.str _, H, I.tok _, ⟨_, rfl⟩, by simpa only [PyData.shown] using q⟩
    | int i t =>
      refine PySem.P.repr_of_int ?_ ⟨.str _, H, I.tok _, ⟨_, rfl⟩, q⟩
      rcases hs with ⟨j, e, hj⟩ | hs
      · cases e
        exact hj
      · unfold shOk at hs
        simp only [Bool.and_eq_true, decide_eq_true_eq] at hs
        simpa [PyData.showable] using hs.2.1
    | str x t =>
      have b := big (fun i z => by cases z)
      exact PySem.P.repr_of_str ⟨.str _, H, I.tok _, ⟨_, rfl⟩, by simpa only [PyData.shown] using q⟩ (by simpa only [PyData.shown] using b.2)
    | list h1 h2 h3 h4 =>
      have b := big (fun i z => by cases z)
      exact repr_of_reads' (.list h1 h2 h3 h4) b.1 (PyData.noDict_hsm nodict) hq (by omega) (fun _ _ e => e) (fun h' u tk k => ⟨.str _, H, I.kept k, ⟨_, rfl⟩, q⟩) b.2
    | tuple h1 h2 h3 h4 =>
      have b := big (fun i z => by cases z)
      exact repr_of_reads' (.tuple h1 h2 h3 h4) b.1 (PyData.noDict_hsm nodict) hq (by omega) (fun _ _ e => e) (fun h' u tk k => ⟨.str _, H, I.kept k, ⟨_, rfl⟩, q⟩) b.2
    | dict h1 h2 h3 h4 h5 => simp only [PyData.canLay0] at hc; cases hc
  · obtain ⟨u, rfl, rfl⟩ := vals1 r
    obtain ⟨_, _, hsys, vs, kv, o', es, ep, e1, ex, e2, _, e3, _⟩ := I.hok a _ ha
    cases kv
    have es0 : es.toList = [] := by
      cases hl : es.toList with
      | nil => rfl
      | cons _ _ => rw [hl] at e3; cases e3
    have rd : Reads s.heap (.ref a) (.dict []) (a :: [] ++ []) := .dict (as := []) (bs := []) e1 ex.1 e2 (by rw [es0]; exact .nil) (by rw [es0]; exact .nil)
    refine repr_of_reads' rd (by simp [PyData.showable, PyData.showableKv]) (fun _ hm => ?_) hq (by simp only [PyData.depth, PyData.depthKv]; omega) (fun _ _ e => e) (fun h' u tk k => ⟨.str _, H, I.kept k, ⟨_, rfl⟩, q⟩) (by decide)
    have : sysModules = a := by simpa using hm
    rw [this] at hsys
    simp at hsys
section
variable {X : Cx} {W : Wx} {s : Bool} {w : Wd} {pos p : Pos} {a : Expr} {fa : EM}
theorem zRepr (o : Okx w X) (hq : X.A.guards = some []) (hg : Gl X "repr") (hm : X.mg "repr" = none) (ha : PE X a (tB w W s fa)) (hs : starEach [a] X.env = (false, eval a X.env) :: starEach [] X.env := by rfl) (hpl : (backTo pos (starEach [] X.env)).any (·.1) = false := by rfl) :
    PE X (.Call (.Name "repr" p) [a] [] pos) (tZ w W s (un dRepr fa)) :=
  (pe_callB (call_rep hq o.u) hg hm (by rfl) (pa_cons ha pa_nil hs) (by decide) (by decide) hs hpl).imp fun σ H Q ⟨b, e, he, S, h⟩ => by
  subst he
  refine ⟨b, e, rfl, S, (PR.bind h).mono fun d b1 e1 g1 S1 h1 v z => ?_⟩
  obtain ⟨t, ht, R⟩ := PR.ret h1
  have plain : ∀ p, pd d = p → pln DEP d = true → ((∃ i : Int, p = .int i ∧ i.natAbs.log2 < 1920) ∨ shOk p = true) → t = .str p.shown → rRep X [v] b1.H Q := fun p hp hpl hs et => by
    obtain ⟨l, z, _⟩ := z
    obtain ⟨k1, k2, k3⟩ := z.dp S1.ex hpl
    rw [hp] at k1 k2 k3
    rw [et] at R
    exact .inl ⟨v, p, rfl, by rw [o.K]; exact k1, k2, k3, hs, R.now S1 (fz_str.mpr ⟨rfl, shown_ok p k2⟩)⟩
  have rest : (if pln DEP d = true ∧ shOk (pd d) = true then some (D.str (pd d).shown) else none) = some t → rRep X [v] b1.H Q := fun h => by
    split at h
    · rename_i hh
      cases h
      exact plain _ rfl hh.1 (.inr hh.2) rfl
    · cases h
  cases d with
  | int i =>
    have ht' : (if i.natAbs.log2 < 1920 then some (D.str (PyData.int i).shown) else none) = some t := ht
    split at ht'
    · rename_i hi
      cases ht'
      exact plain (.int i) (by simp [pd]) (by rfl) (.inl ⟨i, rfl, hi⟩) rfl
    · cases ht'
  | dic kvs =>
    cases kvs with
    | nil =>
      cases ht
      obtain ⟨a', o', ks, rfl, k1, _, k3⟩ := fz_dic.mp (z.fz rfl)
      cases fzk_nil.mp k3
      exact .inr ⟨a', o', rfl, S1.ex _ _ k1, R.now S1 (fz_str.mpr ⟨rfl, by simp only [PyData.shown_dict]; decide +kernel⟩)⟩
    | cons _ _ => exact rest ht
  | _ => exact rest ht
end
end Vm

set_option maxHeartbeats 1000000
namespace Vm
open PySem L2 PyProof.Rows
structure FnC (P : Program) (w : World) (K : PySem.W.Frag) (mg : Str → Option Value) (base : Heap) (k : Nat) (x : Str) (sp : Sp) : Prop where
  ex : ∃ (f : Addr) (fd : FuncData) (ps : List Str), VmX.FnG P w K mg base CX0 k f fd ps sp ∧ mg x = some (.ref f) ∧ PySem.W.keepIn K (.ref f) = true ∧ Binds K fd ps []
structure FnCX (P : Program) (w : World) (K : PySem.W.Frag) (mg : Str → Option Value) (base : Heap) (k : Nat) (x : Str) (sp : Sp) : Prop where
  ex : ∃ (f : Addr) (fd : FuncData) (ps : List Str), VmX.FnG P w K mg base (L2.CX P w) k f fd ps sp ∧ mg x = some (.ref f) ∧ PySem.W.keepIn K (.ref f) = true ∧ Binds K fd ps []
section
variable {P : Program} {w : World} {K : PySem.W.Frag} {mg : Str → Option Value} {base : Heap} {x qual : Str} {st : Stmt} {k : Nat} {sp : Sp} {ps : List Str}
end
section
variable {W : Wd} {N ps : List Str} {m n : Nat} {bd : SM} {vs : List V} {H : Hp} {Q : VK} {E : XK}
theorem ent_v (hps : ps.length = m) (hls : N.length - ps.length = n) (h : spF W (runF m n bd) vs H Q E) : vs.length = m ∧ tS W W0 bd { nx := fun _ H' => Q .non H', rt := Q } (L2.start N vs) H := by
  obtain ⟨b, mu, ds, rfl, S0, z, h⟩ := h
  unfold runF at h
  by_cases hl2 : ds.length = m
  · have hl : vs.length = m := by rw [z.length, hl2]
    refine ⟨hl, ?_⟩
    have e1 : L2.start N vs = vs.map some ++ List.replicate n none := by
      unfold L2.start
      rw [hl, ← hps, hls]
    rw [e1]
    refine ⟨b, _, rfl, S0.start z, ?_⟩
    rw [if_pos hl2] at h
    unfold runB at h
    cases hbd : bd ⟨ds.map some ++ List.replicate n none, mu⟩ with
    | rt d' e' =>
      rw [hbd] at h
      exact fun b' σ' v g S' t => h v b'.top (g.trans Gr.top) S'.top (t.stay (Gr.top (s := false)))
    | nx e' =>
      rw [hbd] at h
      exact fun b' σ' g S' => h .non b'.top (g.trans Gr.top) S'.top (Fz.tmp (fz_non.mpr rfl))
    | bk e' => rw [hbd] at h; exact h.elim
    | ct e' => rw [hbd] at h; exact h.elim
    | exc _ _ e' => rw [hbd] at h; exact h.elim
    | stuck => rw [hbd] at h; exact h.elim
  · rw [if_neg hl2] at h
    exact h.elim
theorem tS.w0 {D : Ends} {σ : L2.St} (h : tS W (dW W fun cls d _ H => E0 cls d H) bd D σ H) (hb : ∀ b e, SR W (dW W fun cls d _ H => E0 cls d H) b (bd e) D → SR W W0 b (bd e) D) : tS W W0 bd D σ H := by
  obtain ⟨b, e, h1, h2, h3⟩ := h
  exact ⟨b, e, h1, h2, hb b e h3⟩
end
section
variable {P : Program} {w : World} {W : Wd} {K : PySem.W.Frag} {mg : Str → Option Value} {base : Heap} {x qual : Str} {params : Arguments} {body : List Stmt} {scope : Scope} {dvs : List V} {kws : List (Str × V)} {f : Addr} {fd : FuncData}
    {N ps : List Str} {k m n : Nat} {bd : SM}
theorem fn_vC (F : FunD K x qual params body scope dvs kws f fd) (S : FnScope N ps scope) (hps : ps.length = m) (hls : N.length - ps.length = n)
    (hb : ∀ (cdv : Value) (A : Around) (outer : List Env) (s : Shared) (H : Hp) (vs : List V) (E : XK), Room k (A.deeper (envOfC qual scope s.heap.objs.size f cdv)) → VmX.Calm A →
      PSs (cxOf CX0 P w K mg base N qual scope f cdv A outer s H E).nox body (tS W W0 bd)) :
    VmX.FnG P w K mg base CX0 (k + 1) f fd ps (spF W (runF m n bd)) :=
  VmX.okG F S (fun vs H Q E h => by rw [(ent_v (N := N) hps hls h).1, hps]) fun cdv A outer s H vs Q E hr hg h => ⟨_, (hb cdv A outer s H vs E hr hg).nox, (ent_v hps hls h).2⟩
end
section
variable {X : Cx} {W : Wx} {WW : WX} {s : Bool} {w : Wd} {pos p : Pos} {x : Str} {a : Expr} {es : List Expr} {F : FV} {ar : LM} {k : Nat}
end
theorem Okx.tr {w : Wd} {X : Cx} (o : Okx w X) (pn : List (Addr × Obj)) (xe : Value → Shared → Prop) : Okx w (X.tr pn xe) := ⟨o.P, o.W, o.K, o.u, o.c, o.N⟩
end Vm

namespace VmH
open PySem PySem.Spec PyProof.Rows L2 He
theorem oexB_ok {K : PySem.W.Frag} {C : Addr} (h : oexB K C = true) : ∃ nm q N bs bm sn sub ab col dd k0 k1 k2 k3 k5, K.lookup C = some (excClassObj nm q C N bs bm true sn sub ab col dd k0 k1 k2 k3 k5 "ValueError.__new__") ∧ PySem.HandSPX.refsVE bm = true := by
  unfold oexB at h
  split at h
  · rename_i t dd nm bs C' bm ns qn sn sub ab col k0 k1 k2 k3 n k5 hl
    simp only [Bool.and_eq_true, beq_iff_eq] at h
    obtain ⟨rfl, rfl, rfl, hb⟩ := h
    exact ⟨nm, qn, ns, bs, bm, sn, sub, ab, col, dd, k0, k1, k2, k3, k5, hl, hb⟩
  · cases h
structure XS (d : XD) (x : Str) : Prop where
  body : ∃ p0 p1 p2 p3 p4 p5 p6 p7 p8 p9, defBody d.st = [.Expr (.Call (.Attribute (.Call (.Name "super" p0) [] [] p1) "__init__" p2) [.Name x p3] [] p4) p5, .Assign [.Attribute (.Name "self" p6) d.fld p7] (.Name x p8) p9] ∧ (∃ pl : Sem Bool, ∀ env : Env, eval (.Call (.Attribute (.Call (.Name "super" p0) [] [] p1) "__init__" p2) [.Name x p3] [] p4) env = (do
      let ov ← attributeBase (.Call (.Name "super" p0) [] [] p1) "__init__" env (eval (.Call (.Name "super" p0) [] [] p1) env)
      standAt p2.atName
      let (f, first) ← holding [ov] (getMethod ov "__init__" pl)
      callWith p4 f first (backTo p4 (starEach [.Name x p3] env)) [])) ∧ (∀ env : Env, swapsWith (.Call (.Attribute (.Call (.Name "super" p0) [] [] p1) "__init__" p2) [.Name x p3] [] p4) none p5.line env = pure false) ∧ ∀ env : Env, swapsWith (.Name x p8) (some (.Attribute (.Name "self" p6) d.fld p7)) p9.line env = pure false
  hd : ∃ ar, ((defArgs d.st).posonlyargs ++ (defArgs d.st).args).head? = some ar ∧ ar.arg = "self"
  sc : NdefX.NScope ["self", x, "__class__"] ["self", x] ["__class__"] (defScope d.st)
  sup : (defScope d.st).names.lookup ("super" : Str) = some .globalImplicit
  nd : (x == ("__debug__" : Str)) = false
  nc : (x == ("__classdict__" : Str)) = false
  bind : ∀ (name qual : Str) (cl : List (Str × Addr)) (T : Addr) (kV doc pm : Value) (an : Option Addr) (cdv ct : Value) (us : List Value) (its : Array Value), us.length = 2 → its.size = 1 → ∃ k, bindArgs (PySem.W.fnX name qual (defArgs d.st) (defBody d.st) (defScope d.st) cl (.ref T) kV doc pm an cdv ct) ⟨us, []⟩ = seqItems? (.ref T) >>= k ∧ k (some its) = pure ([("self" : Str), x].zip us)
section
variable {P : Program} {K : PySem.W.Frag} {mg : Str → Option Value} {xs : List XD} {d : XD} {file x : Str}
structure XFacts (K : PySem.W.Frag) (xs : List XD) (d : XD) : Prop where
  xf : XfC K (ga K d.x)
  ec : ExcC K (ga K d.x)
  nc : Vm.NotC K (ga K d.x)
  na : PySem.W.findIn K (.ref (ga K d.x)) d.fld = some none
  em : PySem.W.exmOne K (.ref (ga K d.x)) (.ref (ga K "HushError")) = some true
  ki : ∀ d' ∈ xs, PySem.W.kitOne K (.ref (ga K d'.x)) (.ref (ga K d.x)) = some (decide (d'.x = d.x))
  eo : ∀ d' ∈ xs, PySem.W.exmOne K (.ref (ga K d.x)) (.ref (ga K d'.x)) = some (decide (d'.x = d.x))
theorem xfacts (b : excB file K xs d = true) : XFacts K xs d := by
  unfold excB at b
  simp only [Bool.and_eq_true] at b
  obtain ⟨b1, b2, b3, b4, b5, b6, b7, b8, b9, b10, b11, b12, b13, b14, b16, b15, b17⟩ := b
  have x := xfB_ok b1
  unfold isB at b2
  simp only [Bool.and_eq_true] at b2
  obtain ⟨i1, i2, i3, i4⟩ := b2
  refine ⟨x, ⟨x.ga, x.gg, x.exC, x.hdC, eqO_ok i1, eqO_ok i2, of_decide_eq_true i3, of_decide_eq_true i4⟩, fun t ht => ?_, eqO_ok b9, of_decide_eq_true b14, fun d' hd => of_decide_eq_true (List.all_eq_true.mp b15 d' hd), fun d' hd => of_decide_eq_true (List.all_eq_true.mp b17 d' hd)⟩
  unfold notB at b3
  exact of_decide_eq_true (List.all_eq_true.mp b3 t ht)
theorem exM_of (h : fnX K d = d.val) (b : excB file K xs d = true) (s : XS d x) (hf : ((P.main.file : Str) == file) = true) (top : (P.main.scope.names.lookup ("super" : Str)).isSome = false) (hms : mg "super" = none) : Vm.ExM P K mg (ga K d.x) d.fld := by
  have xf := xfacts b
  unfold excB at b
  simp only [Bool.and_eq_true] at b
  obtain ⟨b1, b2, b3, b4, b5, b6, b7, b8, b9, b10, b11, b12, b13, b14, b16, b15, b17⟩ := b
  unfold subB at b6
  simp only [Bool.and_eq_true] at b6
  obtain ⟨s1, s2, s3, s4, s5⟩ := b6
  have T : OexC K (ga K d.x) := ⟨oexB_ok b4, eqO_ok b10, of_decide_eq_true b11, of_decide_eq_true b12, b13⟩
  unfold cloB at b5
  unfold fnX at h
  cases q : K.lookup (ma K (ga K d.x) "__init__") with
  | none => rw [q] at b5; cases b5
  | some o =>
    obtain ⟨oc, od, dt, osl⟩ := o
    rw [q] at b5 h
    cases dt with
    | func fd =>
      obtain ⟨n1, n2, n3, n4, n5, n6, n7, n8, n9, n10, n11, n12, n13, n14, n15⟩ := fd
      have e2 : (some (n1, n2, n3, n4, n5, n6, n7.map (·.1), n15) : FnV2) = some (("__init__" : Str), d.x ++ ".__init__", defArgs d.st, FuncBody.stmts (defBody d.st), defScope d.st, mainGlobals, [("__class__" : Str)], builtinsNs) := h
      simp only [Option.some.injEq, Prod.mk.injEq] at e2
      obtain ⟨h1, h2, h3, h4, h5, h6, h7, h8⟩ := e2
      dsimp only at b5
      split at b5
      · rename_i _ _ y cc c
        split at b5
        · rename_i C' _ _ vs _ l1 l2
          split at b5
          · rename_i f tf hv
            simp only [Bool.and_eq_true, beq_iff_eq, decide_eq_true_eq] at b5
            obtain ⟨k1, k2, k3⟩ := b5
            subst k1 k2 h1 h2 h3 h4 h5 h6 h8
            have hy : y = ("__class__" : Str) := by simpa using h7
            subst hy
            refine ⟨ma K (ga K d.x) "__init__", ⟨"__init__", d.x ++ ".__init__", defArgs d.st, defBody d.st, defScope d.st, [("__class__", cc)], c⟩, x, n8, n9, n10, n11, n14, oc, n12, od, osl, q, k3, ⟨T, eqO_ok b7, of_decide_eq_true b8, eqO_ok b9, s.body, s.hd, s.sc, s.sup, ⟨cc, _, _, _, rfl, l1⟩, ⟨_, _, vs, _, f, tf, l2, hv, hf⟩, Option.isSome_iff_exists.mp s1, of_decide_eq_true s2, eqO_ok s3, eqO_ok s4, of_decide_eq_true s5, top⟩, hms, s.nd, s.nc, ?_⟩
            unfold dflB at b16
            rw [q] at b16
            dsimp only at b16
            split at b16
            · split at b16
              · rename_i T _ _ _ its _ _ lT
                refine fun sh us X hl => BindsTo.of_looks fun M => ?_
                obtain ⟨k, e1, e2⟩ := s.bind _ _ [("__class__", cc)] T n9 n10 n11 n12 (.ref c) n14 us its (by simpa using hl) (by simpa using b16)
                rw [e1, List.append_nil]
                exact looks_items X lT rfl (.of_pure e2)
              · cases b16
            · cases b16
          · cases b5
        · cases b5
      · cases b5
    | _ => cases b5
end
end VmH

set_option maxHeartbeats 1000000
namespace Vm
open PySem L2 PyProof.Rows
def sSet2 (i1 i2 : Nat) (f1 f2 fv : EM) : SM := fun e => ofE (fv e) fun d e1 => match d with
  | .tup [d1, d2] => hasO i1 e1 .stuck (ofE (f1 e1) fun j1 e2 => match chg i1 (kSetA j1 d1) e2 with
    | some e3 => hasO i2 e3 .stuck (ofE (f2 e3) fun j2 e4 => nxO (chg i2 (kSetA j2 d2) e4))
    | none => .stuck)
  | _ => .stuck
section
variable {X : Cx} {W : Wx} {s : Bool} {w : Wd} {pos p1 p2 : Pos} {x : Expr} {f1 f2 fv : EM}
end
def dIsiD (T : String) : D → Option D := fun d => match d with
  | .dic _ => (kitB "dict" T).map D.bl
  | d => dIsiN T d
def dIsB : D → D → Option D
  | .bl a, .bl b => some (.bl (a == b))
  | _, _ => none
def bls? : List D → Option (List Bool)
  | [] => some []
  | .bl x :: r => (bls? r).map (x :: ·)
  | _ :: _ => none
def firstB (q : Bool) : List Bool → Nat → Option Nat
  | [], _ => none
  | b :: r, n => if b = q then some n else firstB q r (n + 1)
def dIndexB : D → D → Option D
  | .lst ds, .bl q => match bls? ds with
    | some ns => (firstB q ns 0).map fun j => .int (j : Nat)
    | none => none
  | _, _ => none
section
variable {X : Cx} {W : Wx} {s : Bool} {w : Wd} {pos apos : Pos} {x : Expr} {f fa : EM}
end
end Vm

set_option maxHeartbeats 1000000
namespace Vm
open PySem L2 PyProof.Rows
structure NeC (K : PySem.W.Frag) (C f : Addr) : Prop where
  cls : ∃ nm q N bs hdct sn sub ab col dd k0 k1 k2 k3 k5 newId oc od es ep osl, K.lookup C = some (excClassObj nm q C N bs [.type "object"] hdct sn sub ab col dd k0 k1 k2 k3 k5 newId) ∧ K.lookup N = some ⟨oc, od, .dict es ep, osl⟩ ∧ StrKeys es ∧ nsFind es "__eq__" = some (.ref f) ∧ nsFind es "__ne__" = none
  fn : PySem.W.isFn K (.ref f) = true
def rNeO (C : Addr) (sp : Sp) : R2 := fun x y H Q => ∃ a b dx dy fs gs, x = .ref a ∧ y = .ref b ∧ H a = some (.ins C dx fs) ∧ H b = some (.ins C dy gs) ∧ sp [.ref a, .ref b] H (fun v H' => ∃ r, v = .bl r ∧ Q (.bl (!r)) H') E0
theorem op_neO {X : Cx} {C f : Addr} {fd : FuncData} {ps : List Str} {sp : Sp} {k : Nat} (N : NeC X.K C f) (F : FnOk X.prog X.w X.K X.mg X.base CX0 k f fd ps sp) (hr : Room (k + 1) X.A) (hb : Binds X.K fd ps []) : OpR X (compareOp .NotEq) (rNeO C sp) := by
  intro pins s σ H x y v u Q I rx ry h
  obtain ⟨a, b, dx, dy, fs, gs, rfl, rfl, ha, hb', hsp⟩ := h
  cases rx
  cases ry
  obtain ⟨mA, JA, _⟩ := ins_get I.hok ha
  obtain ⟨mB, JB, _⟩ := ins_get I.hok hb'
  obtain ⟨oa, JA, _⟩ := JA.look
  obtain ⟨ob, JB, _⟩ := JB.look
  have run : wpAny (model X.prog X.w) X.A.in1 (call (.ref f) [.ref a, .ref b]) (fun v s' => ∃ r, v = .bool r ∧ EP X pins σ Q (.bool (!r)) s') X.xe s := by
    have args : Vals [V.ref a, V.ref b] [Value.ref a, Value.ref b] := .cons rfl (.cons rfl .nil)
    have long := F.len _ _ _ _ hsp
    have binds := hb s [.ref a, .ref b] I.kIn (by simpa using long)
    rw [List.append_nil] at binds
    refine wpAny_call (codeAny_mono (F.run X.A.in1 X.stack s H ⟨[.ref a, .ref b], []⟩ _ _ _ E0 hr.in1 I.env0.in1 binds args hsp) fun r s' out => ?_)
    cases r with
    | error e => exact out.elim
    | ok fl =>
      cases fl with
      | ret w =>
        obtain ⟨z, H', J, rz, r, rfl, q⟩ := I.after out
        exact ⟨r, rz, .bl (!r), H', J, rfl, q⟩
      | next => exact out.elim
      | brk => exact out.elim
      | cont => exact out.elim
  obtain ⟨hp, g, d, t, os⟩ := s
  obtain ⟨nm, q, Nn, bs, hdct, sn, sub, ab, col, dd, k0, k1, k2, k3, k5, newId, oc, od, es, ep, osl, c1, c2, c3, c4, c5⟩ := N.cls
  have kin := I.kIn
  obtain ⟨of, f1, f2⟩ : ∃ of, X.K.lookup f = some of ∧ of.cls = .type "function" := by
    have e : PySem.W.typeIn X.K (.ref f) = some (.type "function") := beq_iff_eq.mp N.fn
    have e' : (X.K.lookup f).map (·.cls) = some (.type "function") := e
    cases z : X.K.lookup f with
    | none => rw [z] at e'; cases e'
    | some of => rw [z] at e'; exact ⟨of, rfl, Option.some.inj e'⟩
  exact compareOp_ne_ownEq PySem.F.cmp_object ⟨_, of, nm, q, Nn, bs, hdct, sn, sub, ab, col, dd, k0, k1, k2, k3, k5, newId, fun n => nsFind es n, _, JA.at_, JA.cls, kin _ _ c1, ⟨_, es, ep, kin _ _ c2, rfl, c3, fun _ => rfl⟩, c4, kin _ _ f1, f2, PySem.F.cmp_object.mro, PySem.F.cmp_object.eq.lookup, c5⟩ JB.at_ JB.cls (by have := hr.units; omega) run
end Vm

set_option maxHeartbeats 1000000
namespace Vm
open PySem L2 PyProof.Rows
structure NeF (P : Program) (w : World) (K : PySem.W.Frag) (mg : Str → Option Value) (base : Heap) (k : Nat) (C : Addr) (sp : Sp) : Prop where
  ex : ∃ (f : Addr) (fd : FuncData) (ps : List Str), NeC K C f ∧ FnOk P w K mg base CX0 k f fd ps sp ∧ Binds K fd ps []
structure Ne1 (K : PySem.W.Frag) (C : Addr) (x qual : Str) (st : Stmt) : Prop where
  ex : ∃ f fd, NeC K C f ∧ FunD K x qual (defArgs st) (defBody st) (defScope st) [] [] f fd
theorem Ne1.fn {P : Program} {w : World} {K : PySem.W.Frag} {mg : Str → Option Value} {base : Heap} {C : Addr} {x qual : Str} {st : Stmt} {k : Nat} {sp : Sp} {ps : List Str} (D : Ne1 K C x qual st) (hb : ∀ f fd, FunD K x qual (defArgs st) (defBody st) (defScope st) [] [] f fd → Binds K fd ps [])
    (h : ∀ f fd, FunD K x qual (defArgs st) (defBody st) (defScope st) [] [] f fd → FnOk P w K mg base CX0 k f fd ps sp) : NeF P w K mg base k C sp := by
  obtain ⟨f, fd, h1, h3⟩ := D.ex
  exact ⟨f, fd, ps, h1, h f fd h3, hb f fd h3⟩
def eNeO (c : Nat) (F : FV) (f1 f2 : EM) : EM := fun e => (f1 e).bind fun x e1 => (f2 e1).bind fun y e2 => match x, y with
  | .ins c1 xs, .ins c2 ys => if c1 = c ∧ c2 = c then (callF F [.ins c1 xs, .ins c2 ys] e2).bind fun r e3 => (match r with
    | .bl t => .ok (.bl (!t)) e3
    | _ => .stuck) else .stuck
  | _, _ => .stuck
section
variable {X : Cx} {W : Wx} {s : Bool} {w : Wd} {pos apos : Pos} {a b ob : Expr} {F : FV} {k : Nat} {fa fb fo : EM} {m : Str}
theorem ne_sp (c : Nat) {σ : L2.St} {H : Hp} {Q : VK} (h : tZ w W s (eNeO c F fa fb) σ H Q) : tOp (rNeO (w.cls c) (spF w F)) (tZ w W s fa) (tZ w W s fb) σ H Q := by
  obtain ⟨b, e, rfl, S, h⟩ := h
  refine ⟨b, e, rfl, S, (PR.bind h).mono fun x b1 e1 g1 S1 h1 vx zx => ⟨b1, e1, rfl, S1, (PR.bind h1).mono fun y b2 e2 g2 S2 h2 vy zy => ?_⟩⟩
  cases x <;> try exact h2.elim
  cases y <;> try exact h2.elim
  rename_i c1 xs c2 ys
  have h3 : PR w W s σ b2 (if c1 = c ∧ c2 = c then (callF F [.ins c1 xs, .ins c2 ys] e2).bind fun r e3 => (match r with
    | .bl t => .ok (.bl (!t)) e3
    | _ => .stuck) else (.stuck : Rs D)) fun d b' _ => ∀ v, Fz w b'.G d v → Q v b'.H := h2
  split at h3
  · rename_i hc
    obtain ⟨rfl, rfl⟩ := hc
    have zx := zx.mono g2.g
    obtain ⟨ax, dx, vs, rfl, k1, k2, k3⟩ := fz_ins.mp zx
    obtain ⟨ay, dy, us, rfl, j1, j2, j3⟩ := fz_ins.mp zy
    refine ⟨ax, ay, dx, dy, _, _, rfl, rfl, S2.ex _ _ k1, S2.ex _ _ j1, ?_⟩
    refine call_sp S2 (Gr.refl _) (fzl_cons.mpr ⟨_, _, rfl, zx, fzl_cons.mpr ⟨_, _, rfl, zy, fzl_nil.mpr rfl⟩⟩) ((PR.bind h3).mono fun r b3 e3 g3 S3 h4 v t => ?_)
    cases r <;> try exact h4.elim
    rename_i t'
    have := t.fz rfl
    obtain rfl := fz_bl.mp this
    exact ⟨t', rfl, h4 b3 (Gr.refl _) S3 _ (fz_bl.mpr rfl)⟩
  · exact h3.elim
theorem op_neF {c : Nat} (F0 : NeF X.prog X.w X.K X.mg X.base k (w.cls c) (spF w F)) (hr : Room (k + 1) X.A) : OpR X (compareOp .NotEq) (rNeO (w.cls c) (spF w F)) := by
  obtain ⟨f, fd, ps, h1, h2, h3⟩ := F0.ex
  exact op_neO h1 h2 hr h3
theorem zNeOT (c : Nat) (F0 : NeF X.prog X.w X.K X.mg X.base k (w.cls c) (spF w F)) (hr : Room (k + 1) X.A) (ha : PE X a (tZ w W s fa)) (hb : PE X b (tZ w W s fb)) (hm : behindInMarks .NotEq b = false := by rfl) :
    PT X (.Compare a [.NotEq] [b] pos) (tT w W s (eTest (eNeO c F fa fb))) := (pt_cmpR (op_neF F0 hr) ha hb hm).imp fun _ _ _ h => ne_sp c (test_z h)
theorem vMeth0 (c : Nat) {pl : Sem Bool} (o : Okx w X) (F0 : Mt X.prog X.w X.K X.mg X.base k (w.cls c) m (spF w F)) (hr : Room k X.A) (ho : PE X ob (tZ w W s fo)) (hn : m ∉ w.flds c)
    (ht : eval (.Call (.Attribute ob m apos) [] [] pos) X.env = (do
      let ov ← eval ob X.env
      standAt apos.atName
      let (f, first) ← holding [ov] (getMethod ov m pl)
      callWith pos f first (backTo pos (starEach [] X.env)) (backToKw pos (keywordEach [] X.env))) := by rfl) :
    PE X (.Call (.Attribute ob m apos) [] [] pos) (tV w W s (eMeth c F fo aNil)) := by
  obtain ⟨f, fd, ps, h1, h2, h3, h4⟩ := F0.ex
  refine (pe_meth0 (pl := pl) ho h1 h2 h3 hr h4 .nil pass0 ht).imp fun σ H Q ⟨b, e, he, S, h⟩ => ?_
  subst he
  refine ⟨b, e, rfl, S, (PR.bind h).mono fun d b1 e1 g1 S1 h1 v z => ?_⟩
  cases d <;> try exact h1.elim
  rename_i c' ds
  have h5 : PR w W s σ b1 (if c' = c then callF F [.ins c' ds] e1 else .stuck) fun d b' _ => ∀ v, Tmp w b b' d v → Q v b'.H := h1
  split at h5
  · rename_i hc
    subst hc
    obtain ⟨x, dx, vs, rfl, k1, k2, k3⟩ := fz_ins.mp z
    refine ⟨x, dx, _, rfl, S1.ex _ _ k1, lookup_zip_none hn, ?_⟩
    show spF w F [.ref x] b1.H Q E0
    exact call_sp S1 g1 (fzl_cons.mpr ⟨_, _, rfl, z, fzl_nil.mpr rfl⟩) h5
  · exact h5.elim
end
end Vm

set_option maxHeartbeats 1000000
namespace VmH
open PySem PySem.Spec PyProof.Rows L2 He
theorem neB_ok {K : PySem.W.Frag} {x : Str} (h : neB K x = true) (hr : rolsOf x = none := by rfl) : Vm.NeC K (ga K x) (ma K (ga K x) "__eq__") := by
  unfold neB at h
  rw [hr] at h
  unfold neB0 at h
  simp only at h
  split at h
  · rename_i t dd nm bs C' o N qn hd sn sub ab col k0 k1 k2 k3 n k5 hl
    simp only [Bool.and_eq_true, beq_iff_eq] at h
    obtain ⟨rfl, rfl, rfl, h⟩ := h
    split at h
    · rename_i oc od es ep osl hN
      simp only [Bool.and_eq_true] at h
      obtain ⟨h1, h2, h3, h4⟩ := h
      refine ⟨⟨nm, qn, N, bs, hd, sn, sub, ab, col, dd, k0, k1, k2, k3, k5, n, oc, od, es, ep, osl, hl, hN, fun e he => ?_, Option.some.inj (eqO_ok h2), Option.isNone_iff_eq_none.mp h3⟩, h4⟩
      obtain ⟨i, hi, e2⟩ := Array.mem_iff_getElem.mp he
      have q := Array.all_eq_true.mp h1 i hi
      rw [e2] at q
      split at q
      · rename_i s t hk
        exact ⟨s, t, hk⟩
      · cases q
    · cases h
  · cases h
end VmH

set_option maxHeartbeats 1000000
namespace Vm
open PySem L2 PyProof.Rows
section
variable {w : Wd} {G : Gs} {H : Hp}
end
def mkTupO (xs : List D) : Option D := if xs.length ≤ LIM then some (.otup xs) else none
def eTupO (g : LM) : EM := fun e => (g e).bind fun xs e1 => lift (mkTupO xs) e1
section
variable {X : Cx} {W : Wx} {s : Bool} {w : Wd} {pos : Pos} {x : Expr} {es : List Expr} {f : EM} {g : LM}
end
def dIxB : D → D → Option D
  | .otup xs, .int i => atI xs i
  | .olst xs, .int i => atI xs i
  | _, _ => none
section
variable {X : Cx} {W : Wx} {s : Bool} {w : Wd} {pos : Pos} {a c : Expr} {fa fb : EM}
end
def kAppIx (k : Nat) (y : D) : D → Option D
  | .otup ds => match ds[k]? with
    | some (.olst xs) => if xs.length < LIM then some (.otup (ds.set k (.olst (xs ++ [y])))) else none
    | _ => none
  | _ => none
def slotD (e : En) (i : Nat) : Option D := (e.sl[i]?).getD none
def sAppIx (i k : Nat) (f : EM) : SM := fun e => match (slotD e i).bind (kAppIx k .non) with
  | none => .stuck
  | some _ => ofE (f e) fun d e1 => match (slotD e1 i).bind (kAppIx k d) with
    | none => .stuck
    | some d2 => .nx ⟨e1.sl.set i (some d2), e1.mu⟩
section
variable {X : Cx} {W : Wx} {s : Bool} {w : Wd} {pos p p2 p3 ap cp : Pos} {x : Expr} {f : EM}
end
end Vm

set_option maxHeartbeats 1000000
namespace Vm
open PySem L2 PyProof.Rows
def Itn (w : Wd) (d : Addr) (o : Obj) (es : List (NestedKey × Addr × V)) : It :=
  ⟨fun i H => H d = some (.frz o (nst w d es)) ∧ i < es.length, fun i H x H' => H' = H ∧ ∃ k q v, es[i]? = some (k, q, v) ∧ x = .ref q, fun i H => H d = some (.frz o (nst w d es)) ∧ es.length ≤ i⟩
section
variable {P : Program} {w' : World} {w : Wd} {K : PySem.W.Frag} {tg : Expr} {d : Addr} {o : Obj} {es : Array DictEntry} {ep : Nat}
end
def iKeysN (w : Wd) (td : TE) : TI := fun σ H R => td σ H fun x H1 => ∃ d o kvs, x = .ref d ∧ H1 d = some (.frz o (nst w d kvs)) ∧ R (Itn w d o kvs) H1
theorem FzN.key {w : Wd} {G : Gs} : ∀ {kvs : List (D × D)} {es : List (NestedKey × Addr × V)} {i : Nat} {k d : D}, FzN w G kvs es → kvs[i]? = some (k, d) → ∃ nk q v, es[i]? = some (nk, q, v) ∧ Fz w G k (.ref q) ∧ Fz w G d v
  | [], es, i, k, d, h, e => by simp at e
  | (k0, d0) :: r, es, 0, k, d, h, e => by
    obtain ⟨nk, a, v, t, rfl, _, _, h1, h2, _⟩ := fzn_cons.mp h
    simp at e
    obtain ⟨rfl, rfl⟩ := e
    exact ⟨nk, a, v, rfl, h1, h2⟩
  | (k0, d0) :: r, es, i + 1, k, d, h, e => by
    obtain ⟨nk, a, v, t, rfl, _, _, _, _, h3⟩ := fzn_cons.mp h
    obtain ⟨nk', a', v', e', h1, h2⟩ := FzN.key (i := i) h3 (by simpa using e)
    exact ⟨nk', a', v', by simpa using e', h1, h2⟩
def itKeysN (f : EM) : LM := fun e => (f e).bind fun x e1 => match x with
  | .dix kvs => .ok (kvs.map Prod.fst) e1
  | _ => .stuck
section
variable {X : Cx} {W : Wx} {s : Bool} {w : Wd} {x tg : Expr} {f : EM}
end
end Vm

set_option maxHeartbeats 1000000
namespace Vm
open PySem L2 PyProof.Rows
section
variable {X : Cx} {W : Wx} {s : Bool} {w : Wd} {pos : Pos} {x c : Expr} {fk fv : EM}
end
end Vm

set_option maxHeartbeats 1000000
namespace VmS
open PySem PySem.Spec PyProof.Rows L2
abbrev Ent := Int × Value
def TextE (w : World) (e : Ent) : Prop := ∃ (x : Str) (tk : Tok), e = (hashStr w x, .str x tk)
def textOf (e : Ent) : Str := match e.2 with
  | .str x _ => x
  | _ => ⟨#[]⟩
def SetS (w : World) (h : Heap) (a : Addr) (L : List Ent) : Prop := ∃ (o : Obj) (es : Array Ent) (ep : Nat) (t : SetTable), h.get? a = some o ∧ o.ExactSet ∧ o.data = .set es ep t ∧ es.toList.Perm L ∧ es.size < scanBound ∧ t.fits es.size = true ∧ Ris t.place.toList ∧
  (w.params.followText "set-order" = true ∨ t.led = true)
section
variable {P : Program} {w : World} {h h' : Heap} {a : Addr} {L L' : List Ent}
theorem SetS.at (R : SetS w h a L) (k : ∀ o, h.get? a = some o → h'.get? a = some o) : SetS w h' a L := by
  obtain ⟨o, es, ep, t, ho, r⟩ := R
  exact ⟨o, es, ep, t, k o ho, r⟩
end
section
variable {P : Program} {w : World} {A : Around} {E : Value → Shared → Prop} {s : Shared} {a : Addr} {L : List Ent}
end
end VmS

set_option maxHeartbeats 3200000
namespace VmS
open PySem PySem.Spec PyProof.Rows L2
structure Seen (w : World) (xs : List Str) (i : Nat) (L : List Ent) : Prop where
  txt : ∀ e ∈ L, TextE w e
  nd : (L.map textOf).Nodup
  mem : ∀ x, x ∈ L.map textOf ↔ x ∈ xs.take i
  len : L.length ≤ i
theorem Seen.zero {w : World} {xs : List Str} : Seen w xs 0 [] := ⟨(fun _ h => by cases h), List.nodup_nil, (fun x => by simp), Nat.le_refl _⟩
theorem take_add {α : Type} {l : List α} {i : Nat} {x : α} (h : l[i]? = some x) : l.take (i + 1) = l.take i ++ [x] := by
  obtain ⟨hi, rfl⟩ := List.getElem?_eq_some_iff.mp h
  rw [List.take_succ_eq_append_getElem hi]
theorem Seen.old {w : World} {xs : List Str} {i : Nat} {L : List Ent} {x : Str} (g : Seen w xs i L) (h : xs[i]? = some x) (k : x ∈ L.map textOf) : Seen w xs (i + 1) L := by
  refine ⟨g.txt, g.nd, fun y => ?_, Nat.le_succ_of_le g.len⟩
  rw [take_add h, List.mem_append, List.mem_singleton, g.mem]
  exact ⟨.inl, fun z => z.elim id fun e => e ▸ (g.mem x).mp k⟩
theorem Seen.new {w : World} {xs : List Str} {i : Nat} {L : List Ent} {x : Str} {tk : Tok} (g : Seen w xs i L) (h : xs[i]? = some x) (k : x ∉ L.map textOf) : Seen w xs (i + 1) ((hashStr w x, .str x tk) :: L) := by
  refine ⟨fun e he => ?_, List.nodup_cons.mpr ⟨k, g.nd⟩, fun y => ?_, Nat.succ_le_succ g.len⟩
  · rcases List.mem_cons.mp he with rfl | he
    · exact ⟨x, tk, rfl⟩
    · exact g.txt e he
  · rw [take_add h, List.mem_append, List.mem_singleton, List.map_cons, List.mem_cons, g.mem]
    exact Or.comm
section
variable {P : Program} {w : World} {A : Around} {E : Value → Shared → Prop} {s : Shared}
abbrev newSet (w : World) : Obj := { cls := .type "set", dict := none, data := .set #[] 0 (.fresh 0 0 (!w.params.followText "set-order")) }
theorem SetS.fresh {h : Heap} {a : Addr} (ho : h.get? a = some (newSet w)) : SetS w h a [] := by
  refine ⟨_, #[], 0, _, ho, ⟨rfl, rfl, rfl⟩, rfl, .refl _, by unfold scanBound; decide, rfl, ris_range 0, ?_⟩
  show _ ∨ (!w.params.followText "set-order") = true
  cases w.params.followText "set-order"
  · exact .inr rfl
  · exact .inl rfl
end
end VmS

set_option maxHeartbeats 1000000
namespace Vm
open PySem PySem.Calls L2 PyProof.Rows PySem.W VmS
def rSetT (w : Wd) : List V → Hp → VK → Prop := fun xs H Q => ∃ (a : Addr) (ss : List Str), xs = [.ref a] ∧ SqL w.K H a (ss.map V.str) ∧ ss.length ≤ 1000 ∧
  ∀ p L, H p = none → Seen w.W ss ss.length L → Q (.ref p) (upd H p (.ext fun h => SetS w.W h p L))
theorem vals_strs : ∀ {ss : List Str} {us : List Value}, Vals (ss.map V.str) us → StrsAre us ss
  | [], us, r => by cases r; exact .nil
  | x :: ss, us, r => by
    cases r with
    | cons r1 r2 =>
      obtain ⟨t, rfl⟩ := r1
      exact .cons x t (vals_strs r2)
def leS (x y : Str) : Bool := leD (.str x) (.str y)
def rSortT (w : Wd) : List V → Hp → VK → Prop := fun xs H Q => ∃ (a : Addr) (L : List Ent), xs = [.ref a] ∧ H a = some (.ext fun h => SetS w.W h a L) ∧ (∀ e ∈ L, TextE w.W e) ∧ L.length ≤ 1000 ∧
  ∀ ss : List Str, ss.Perm (L.map textOf) → ss.Pairwise (fun x y => leS x y = true) → ∀ p, H p = none → Q (.ref p) (upd H p (.lst (ss.map V.str)))
def rSortDk (w : Wd) : List V → Hp → VK → Prop := fun xs H Q => ∃ (a : Addr) (kvs : List (Key × V)) (L : List Str), xs = [.ref a] ∧ H a = some (.dK kvs) ∧ kvs.map (·.1) = L.map Sum.inr ∧ L.length ≤ 1000 ∧
  (L.Nodup → ∀ ss : List Str, ss.Perm L → ss.Pairwise (fun x y => leS x y = true) → ∀ p, H p = none → Q (.ref p) (upd H p (.lst (ss.map V.str))))
end Vm

set_option maxHeartbeats 1000000
namespace Vm
open PySem L2 PyProof.Rows VmS
def txts? : List D → Option (List Str)
  | [] => some []
  | .str x :: r => (txts? r).map (x :: ·)
  | _ => none
def dedS : List Str → List Str
  | [] => []
  | x :: r => if r.contains x then dedS r else x :: dedS r
def sortS (ss : List Str) : List D := isortD ((dedS ss).map .str)
def setSorted (ds : List D) : Option D := (txts? ds).bind fun ss => if ss.length ≤ 1000 then some (.olst (sortS ss)) else none
def dSortSet : D → Option D
  | .lst ds => setSorted ds
  | .rol ds => setSorted ds
  | .olst ds => setSorted ds
  | _ => none
section
variable {X : Cx} {W : Wx} {s : Bool} {w : Wd} {pos pos2 p p2 : Pos} {a : Expr} {fa : EM}
end
end Vm

set_option maxHeartbeats 1000000
namespace Vm
open PySem L2 PyProof.Rows VmS
theorem dc_it {J : It} {n : Nat} {G : Hp → Prop} {Y : Nat → Hp → V → Hp → Prop} (wk : Walk J n G Y) {g : TG} {tt : TT} {tk tv : TE} {vs : List Nat} {σ : L2.St} {H1 : Hp} {A : Addr} {Qd : Hp → Prop} (Pv : Nat → Hp → Prop) (h0 : Pv 0 (upd H1 A (.dK []))) (hG : ∀ i H, i ≤ n → Pv i H → G H)
    (hs : ∀ i x H H', i < n → Pv i H → Y i H x H' → g x (wipe σ vs) H' fun σ2 H2 => wipe σ2 vs = wipe σ vs ∧ tt σ2 H2 fun b H3 =>
      if b = true then tk σ2 H3 fun y H4 => tv σ2 H4 fun z H5 => ∃ kvs k, y = kV k ∧ H5 A = some (.dK kvs) ∧ kvs.length < sizeLine ∧ Pv (i + 1) (upd H5 A (.dK (putK kvs k z))) else Pv (i + 1) H3) (hd : ∀ H, Pv n H → Qd H) :
    ∃ W : Nat → Nat → Hp → Prop, (∃ m, W 0 m (upd H1 A (.dK []))) ∧ ∀ i m H, W i m H →
      (J.stop i H ∧ Qd H) ∨ (J.go i H ∧ ∃ Nx : Hp → Prop, (∀ H', Nx H' → ∃ m', m' < m ∧ W (i + 1) m' H') ∧ ∀ x H', J.yld i H x H' → g x (wipe σ vs) H' fun σ2 H2 => wipe σ2 vs = wipe σ vs ∧ tt σ2 H2 fun b H3 =>
        if b = true then tk σ2 H3 fun y H4 => tv σ2 H4 fun z H5 => ∃ kvs k, y = kV k ∧ H5 A = some (.dK kvs) ∧ kvs.length < sizeLine ∧ Nx (upd H5 A (.dK (putK kvs k z))) else Nx H3) := by
  refine ⟨fun i m H => i + m = n ∧ Pv i H, ⟨n, by omega, h0⟩, fun i m H ⟨e, p⟩ => ?_⟩
  have q := hG i H (by omega) p
  cases m with
  | zero =>
    obtain rfl : i = n := by omega
    exact .inl ⟨wk.stops H q, hd H p⟩
  | succ m => exact .inr ⟨wk.goes i H (by omega) q, Pv (i + 1), fun H' p' => ⟨m, Nat.lt_succ_self m, by omega, p'⟩, fun x H' y => hs i x H H' (by omega) p (wk.yields i H x H' (by omega) q y)⟩
theorem lcGo_app {g : GM} {tt : TM} {te : EM} {vs : List Nat} : ∀ {ds acc rs : List D} {e e' : En}, lcGo g tt te vs ds acc e = .ok rs e' → ∃ t, rs = acc ++ t
  | [], acc, rs, e, e', h => by cases h; exact ⟨[], by simp⟩
  | d :: ds, acc, rs, e, e', h => by
    unfold lcGo at h
    cases hg : g d e with
    | none => rw [hg] at h; cases h
    | some e1 =>
      rw [hg] at h
      simp only at h
      cases ht : tt e1 with
      | stuck => rw [ht] at h; cases h
      | exc _ _ _ => rw [ht] at h; cases h
      | ok k e2 =>
        rw [ht] at h
        cases k with
        | false => exact lcGo_app (ds := ds) h
        | true =>
          have h : ((te e2).nox.bind fun y e3 => if acc.length < LIM then lcGo g tt te vs ds (acc ++ [y]) (wipeE e3 vs) else .stuck) = .ok rs e' := h
          cases he : te e2 with
          | stuck => rw [he] at h; cases h
          | exc _ _ _ => rw [he] at h; cases h
          | ok y e3 =>
            rw [he] at h
            have h : (if acc.length < LIM then lcGo g tt te vs ds (acc ++ [y]) (wipeE e3 vs) else .stuck) = .ok rs e' := h
            split at h
            · obtain ⟨t, rfl⟩ := lcGo_app (ds := ds) h
              exact ⟨y :: t, by simp⟩
            · cases h
structure KeysOk (acc : List D) (kvs : List (Key × V)) (L : List Str) : Prop where
  k : kvs.map (·.1) = L.map Sum.inr
  m : ∀ x, x ∈ L ↔ D.str x ∈ acc
  l : L.length ≤ acc.length
  o : ∀ x ∈ L, PyData.strOk x = true
theorem putK_keys (kvs : List (Key × V)) (k : Key) (v : V) : (k ∈ kvs.map (·.1) → (putK kvs k v).map (·.1) = kvs.map (·.1)) ∧ (k ∉ kvs.map (·.1) → (putK kvs k v).map (·.1) = kvs.map (·.1) ++ [k]) := by
  unfold putK
  by_cases h : (kvs.any fun kv => decide (kv.1 = k)) = true
  · have hm : k ∈ kvs.map (·.1) := by
      obtain ⟨p, hp, e⟩ := List.any_eq_true.mp h
      exact List.mem_map.mpr ⟨p, hp, by simpa using e⟩
    refine ⟨fun _ => ?_, fun z => absurd hm z⟩
    rw [if_pos h, List.map_map]
    refine List.map_congr_left fun p _ => ?_
    show (if p.1 = k then (p.1, v) else p).1 = p.1
    split <;> rfl
  · have hm : k ∉ kvs.map (·.1) := fun z => h (by
      obtain ⟨p, hp, e⟩ := List.mem_map.mp z
      exact List.any_eq_true.mpr ⟨p, hp, by simpa using e⟩)
    refine ⟨fun z => absurd z hm, fun _ => ?_⟩
    rw [if_neg h]
    simp
theorem KeysOk.put {acc : List D} {kvs : List (Key × V)} {L : List Str} (h : KeysOk acc kvs L) {x : Str} (hx : PyData.strOk x = true) (v : V) : ∃ L', KeysOk (acc ++ [.str x]) (putK kvs (.inr x) v) L' := by
  have hin : (Sum.inr x : Key) ∈ kvs.map (·.1) ↔ x ∈ L := by
    rw [h.k, List.mem_map]
    exact ⟨fun ⟨y, hy, e⟩ => Sum.inr.inj e ▸ hy, fun hy => ⟨x, hy, rfl⟩⟩
  by_cases c : x ∈ L
  · refine ⟨L, by rw [(putK_keys _ _ _).1 (hin.mpr c)]; exact h.k, fun y => ?_, by rw [List.length_append]; have := h.l; omega, h.o⟩
    rw [List.mem_append, List.mem_singleton, h.m]
    refine ⟨.inl, fun z => z.elim id fun e => ?_⟩
    rw [D.str.inj e]
    exact (h.m x).mp c
  · refine ⟨L ++ [x], by rw [(putK_keys _ _ _).2 fun z => c (hin.mp z), h.k]; simp, fun y => ?_, by simp only [List.length_append, List.length_cons, List.length_nil]; have := h.l; omega, fun y hy => ?_⟩
    · rw [List.mem_append, List.mem_append, List.mem_singleton, List.mem_singleton, h.m]
      exact ⟨fun z => z.imp id fun e => by rw [e], fun z => z.imp id fun e => D.str.inj e⟩
    · rcases List.mem_append.mp hy with q | q
      · exact h.o y q
      · rw [List.mem_singleton.mp q]; exact hx
section
variable {W : Wx} {s : Bool} {w : Wd} {it : LM} {g : GM} {tt : TM} {te : EM} {vs : List Nat}
end
section
variable {X : Cx} {W : Wx} {s : Bool} {w : Wd} {pos dpos p : Pos} {kx tg iter : Expr} {ifs : List Expr} {scope : Scope} {own : List (Str × Nat)} {it : LM} {g : GM} {tt : TM} {te : EM} {j} {pt : Pos}
end
end Vm

set_option maxHeartbeats 1000000
namespace Vm
open PySem L2 PySem.Spec PyProof.Rows
def tTupX (t : TA) : TE := fun σ H Q => t σ H fun xs H1 => xs.length ≤ sizeLine ∧ ∀ p o, H1 p = none → o.dict = none → Q (.ref p) (upd H1 p (.frz o (.tup xs)))
def mkTux (xs : List D) : Option D := if xs.length ≤ LIM then some (.tux xs) else none
def eTupX (g : LM) : EM := fun e => (g e).bind fun xs e1 => lift (mkTux xs) e1
def rCatK (K : PySem.W.Frag) : R2 := fun x y H Q => ∃ a b xs ys, x = .ref a ∧ y = .ref b ∧ SqT K H a xs ∧ SqT K H b ys ∧ xs.length + ys.length ≤ sizeLine ∧
  (xs = [] → Q (.ref b) H) ∧ (xs ≠ [] → ys = [] → Q (.ref a) H) ∧ (xs ≠ [] → ys ≠ [] → ∀ p o, H p = none → o.dict = none → Q (.ref p) (upd H p (.frz o (.tup (xs ++ ys)))))
def tups? : D → Option (Bool × List D)
  | .tup xs => some (false, xs)
  | .tux xs => some (true, xs)
  | _ => none
def dCatK : D → D → Option D := fun x y => (tups? x).bind fun p => (tups? y).bind fun q => if p.2.length + q.2.length ≤ LIM then (match p.2, q.2 with
  | [], _ => if q.1 then some (.tux q.2) else none
  | _, [] => if p.1 then some (.tux p.2) else none
  | xs, ys => some (.tux (xs ++ ys))) else none
def dSlK : D → Option Int → Option Int → Option D
  | .tux xs, l, h => if HT.sIx xs.length 0 l = 0 ∧ HT.sIx xs.length xs.length h = xs.length then some (.tux xs) else some (.tup (cutD xs l h))
  | _, _, _ => none
def dIndexI : D → D → Option D
  | .tux ds, .int k => match ints? ds with
    | some ns => if k ∈ ns then some (.int (ns.idxOf k : Nat)) else none
    | none => none
  | _, _ => none
section
variable {X : Cx} {W : Wx} {s : Bool} {w : Wd} {pos p2 apos : Pos} {x : Expr} {es : List Expr} {f fa fx : EM} {g : LM} {lo hi : Option Expr} {fl fh : OM}
end
end Vm

set_option maxHeartbeats 1000000
namespace Vm
open PySem L2 PyProof.Rows
def okAp : D → Bool
  | .otup [_, .olst xs] => decide (xs.length < LIM)
  | _ => false
def apD : D → D
  | .otup [d0, .olst xs] => .otup [d0, .olst (xs ++ [.non])]
  | d => d
section
variable {w : Wd} {G : Gs} {H : Hp}
end
def preA (ds : List D) (k : Nat) : List D := (ds.take k).map apD ++ ds.drop k
def enA (e : En) (i ja jb : Nat) (ds : List D) : En := ⟨((e.sl.set i (some (.olst ds))).set ja none).set jb none, e.mu⟩
def sForApp (i ja jb : Nat) : SM := fun e => match slotD e i with
  | some (.olst ds) => if (i ≠ ja ∧ i ≠ jb ∧ ja ≠ jb) ∧ ds.all okAp = true then .nx (enA e i ja jb (ds.map apD)) else .stuck
  | _ => .stuck
section
variable {X : Cx} {W : Wx} {w : Wd} {pos p pa pb p2 p3 p4 tp ap cp : Pos}
end
abbrev Tr := D × V × List Addr
def TrOk (w : Wd) (G : Gs) (H : Hp) (u : Value) (p : Tr) : Prop := RelV p.2.1 u ∧ Own w G H p.1 p.2.1 p.2.2
def trA (bs : List Tr) : List Addr := bs.flatMap fun p => p.2.2
section
variable {w : Wd} {G : Gs} {H : Hp} {X : Cx}
end
def tupO : D → Bool
  | .otup (_ :: _) => true
  | d => tupN d
def okO (ds : List D) : Bool := decide (ds.length ≤ LIM) && (plnL DEP ds && ((ds.all fun a => ds.all fun b => PySem.W.alike (pd a) (pd b)) && ds.all tupO))
def rSortO (w : Wd) : List V → Hp → VK → Prop := fun xs H Q => ∃ (G : Gs) (a : Addr) (vs : List V) (ds : List D) (l : List Addr), xs = [.ref a] ∧ SqL w.K H a vs ∧ OwnL w G H ds vs l ∧ ds.length ≤ sizeLine ∧ (∀ a u, G.F a = some u → H a = some u) ∧ okO ds = true ∧
  ∀ vs' l', OwnL w G H (isortD ds) vs' l' → l'.Perm l → ∀ p, H p = none → Q (.ref p) (upd H p (.lst vs'))
def dSortO : D → Option D
  | .olst ds => if okO ds then some (.olst (isortD ds)) else none
  | _ => none
section
variable {X : Cx} {W : Wx} {s : Bool} {w : Wd} {pos p : Pos} {a : Expr} {fa : EM}
end
end Vm

set_option maxHeartbeats 1000000
namespace Vm
open PySem L2 PyProof.Rows
abbrev IX := List D → Option (List D ⊕ (Nat × Option D))
def endIX (c : Nat) (r : So) : Option (List D ⊕ (Nat × Option D)) := match r with
  | .nx e => (endI c (.nx e)).map Sum.inl
  | .exc c' x e => match e.mu with
    | [] => some (.inr (c', x))
    | _ :: _ => none
  | _ => none
@[irreducible] def runIX (c m n : Nat) (bd : SM) : IX := fun ds => if ds.length = m then endIX c (bd ⟨some (.oins c true []) :: (ds.map some ++ List.replicate n none), []⟩) else none
def mkX (c nf : Nat) (q : IX) : PF := fun ds => match q ds with
  | some (.inl fs) => (match frzTL fs with
    | some fs' => if fs'.length = nf then .ok (.ins c fs') else .stuck
    | none => .stuck)
  | some (.inr (c', x)) => .exc c' x
  | none => .stuck
def spIX (w : Wd) (c : Nat) (q : IX) : Sp := fun vs H Q E => ∃ b mu ds x dx args, vs = .ref x :: args ∧ H = upd (upd b.H dx (.own x)) x (.ins (w.cls c) dx []) ∧ b.H x = none ∧ b.H dx = none ∧ dx ≠ x ∧ Sat w b [] ⟨[], mu⟩ ∧ FzL w b.bare.G ds args ∧ match q ds with
  | some (.inl fs) => ∀ b' l, Gr false b b' → Sat w b' [] ⟨[], mu⟩ → Own (w.on (some x)) b'.G b'.H (.oins c true fs) (.ref x) l → Lone b b' l → (∀ a ∈ l, b.H a = none) → Q .non b'.H
  | some (.inr (c', y)) => ∀ b' d, Gr false b b' → Sat w b' [] ⟨[], mu⟩ → ExAt w b' c' y d → E (.ref (w.cls c')) d b'.H
  | none => False
theorem ExAt.on {w : Wd} {b : Bs} {c : Nat} {y : Option D} {d : Option Addr} {x : Option Addr} (h : ExAt w b c y d) : ExAt (w.on x) b c y d := by
  cases y with
  | none => trivial
  | some y =>
    obtain ⟨dd, v, h1, h2, h3, h4⟩ := h
    exact ⟨dd, v, h1, h2, h3, h4.on⟩
structure MkcX (P : Program) (w : World) (K : PySem.W.Frag) (mg : Str → Option Value) (base : Heap) (k : Nat) (C : Addr) (x : Str) (sp : Sp) : Prop where
  ex : ∃ (f : Addr) (fd : FuncData) (ps : List Str), Mk K C f ∧ FnOk P w K mg base (L2.CX P w) k f fd ps sp ∧ mg x = some (.ref C) ∧ Binds K fd ps []
def eMakeX (p : PF) (ar : LM) : EM := fun e => (ar e).bind fun ds e1 => match pureF p e1.mu ds with
  | .ok d mu => .ok d ⟨e1.sl, mu⟩
  | .exc c x mu => .exc c x ⟨List.replicate e1.sl.length none, mu⟩
  | .stuck => .stuck
section
variable {X : Cx} {WW : WX} {w : Wd} {pos p : Pos} {x : Str} {a : Expr} {es : List Expr} {ar : LM} {k c nf : Nat} {q : IX}
end
end Vm

set_option maxHeartbeats 1000000
namespace Vm
open PySem L2 PyProof.Rows
mutual
def cln : D → Bool
  | .loc _ => false
  | .lst _ => false
  | .rol _ => false
  | .exn _ _ => false
  | .fn _ => false
  | .tup xs => clnL xs
  | .tux xs => clnL xs
  | .dic xs => clnK xs
  | .dix xs => clnK xs
  | .ins _ fs => clnL fs
  | _ => true
def clnL : List D → Bool
  | [] => true
  | d :: ds => cln d && clnL ds
def clnK : List (D × D) → Bool
  | [] => true
  | (k, d) :: ds => cln k && (cln d && clnK ds)
end
def ToG (G G2 : Gs) : Prop := ∀ a u, G.F a = some u → (∀ vs, u ≠ .lst vs) → G2.F a = some u
section
variable {w : Wd} {G G2 : Gs}
mutual
theorem Fz.cln (kk : ToG G G2) : ∀ {d : D} {v : V}, Fz w G d v → cln d = true → Fz w G2 d v
  | .non, v, h, _ => fz_non.mpr (fz_non.mp h)
  | .bl _, v, h, _ => fz_bl.mpr (fz_bl.mp h)
  | .int _, v, h, _ => fz_int.mpr (fz_int.mp h)
  | .str _, v, h, _ => fz_str.mpr (fz_str.mp h)
  | .tup ds, v, h, n => by
    obtain ⟨a, vs, rfl, h1, h2, h3⟩ := fz_tup.mp h
    exact fz_tup.mpr ⟨a, vs, rfl, kk _ _ h1 (fun _ z => by cases z), h2, FzL.cln kk h3 (by simpa [cln] using n)⟩
  | .tux ds, v, h, n => by
    obtain ⟨a, o, vs, rfl, h1, hd, h2, h3⟩ := fz_tux.mp h
    exact fz_tux.mpr ⟨a, o, vs, rfl, kk _ _ h1 (fun _ z => by cases z), hd, h2, FzL.cln kk h3 (by simpa [cln] using n)⟩
  | .lst _, v, h, n => by simp [cln] at n
  | .rol _, v, h, n => by simp [cln] at n
  | .dic ds, v, h, n => by
    obtain ⟨a, o, vs, rfl, h1, h2, h3⟩ := fz_dic.mp h
    exact fz_dic.mpr ⟨a, o, vs, rfl, kk _ _ h1 (fun _ z => by cases z), h2, FzK.cln kk h3 (by simpa [cln] using n)⟩
  | .dix ds, v, h, n => by
    obtain ⟨a, o, vs, rfl, h1, h2, h3⟩ := fz_dix.mp h
    exact fz_dix.mpr ⟨a, o, vs, rfl, kk _ _ h1 (fun _ z => by cases z), h2, FzN.cln kk h3 (by simpa [cln] using n)⟩
  | .ins c ds, v, h, n => by
    obtain ⟨a, dx, vs, rfl, h1, h2, h3⟩ := fz_ins.mp h
    exact fz_ins.mpr ⟨a, dx, vs, rfl, kk _ _ h1 (fun _ z => by cases z), h2, FzL.cln kk h3 (by simpa [cln] using n)⟩
  | .olst _, v, h, _ => by simp [Fz] at h
  | .odic _, v, h, _ => by simp [Fz] at h
  | .odix _, v, h, _ => by simp [Fz] at h
  | .oins _ _ _, v, h, _ => by simp [Fz] at h
  | .loc _, v, h, n => by simp [cln] at n
  | .exn _ _, v, h, n => by simp [cln] at n
  | .fn _, v, h, n => by simp [cln] at n
  | .otbl _, v, h, n => by simp [Fz] at h
  | .otup _, v, h, n => by simp [Fz] at h
theorem FzL.cln (kk : ToG G G2) : ∀ {ds : List D} {vs : List V}, FzL w G ds vs → clnL ds = true → FzL w G2 ds vs
  | [], vs, h, _ => fzl_nil.mpr (fzl_nil.mp h)
  | d :: ds, vs, h, n => by
    obtain ⟨v, r, rfl, h1, h2⟩ := fzl_cons.mp h
    have n' : cln d = true ∧ clnL ds = true := by simpa [clnL] using n
    exact fzl_cons.mpr ⟨v, r, rfl, Fz.cln kk h1 n'.1, FzL.cln kk h2 n'.2⟩
theorem FzK.cln (kk : ToG G G2) : ∀ {ds : List (D × D)} {ks : List (Key × V)}, FzK w G ds ks → clnK ds = true → FzK w G2 ds ks
  | [], vs, h, _ => fzk_nil.mpr (fzk_nil.mp h)
  | (k, d) :: ds, vs, h, n => by
    obtain ⟨key, v, r, rfl, h0, h1, h2⟩ := fzk_cons.mp h
    have n' : cln k = true ∧ cln d = true ∧ clnK ds = true := by simpa [clnK] using n
    exact fzk_cons.mpr ⟨key, v, r, rfl, h0, Fz.cln kk h1 n'.2.1, FzK.cln kk h2 n'.2.2⟩
theorem FzN.cln (kk : ToG G G2) : ∀ {ds : List (D × D)} {ks : List (NestedKey × Addr × V)}, FzN w G ds ks → clnK ds = true → FzN w G2 ds ks
  | [], vs, h, _ => fzn_nil.mpr (fzn_nil.mp h)
  | (k, d) :: ds, vs, h, n => by
    obtain ⟨key, a, v, r, rfl, h0, hd, hk, h1, h2⟩ := fzn_cons.mp h
    have n' : cln k = true ∧ cln d = true ∧ clnK ds = true := by simpa [clnK] using n
    exact fzn_cons.mpr ⟨key, a, v, r, rfl, h0, hd, Fz.cln kk hk n'.1, Fz.cln kk h1 n'.2.1, FzN.cln kk h2 n'.2.2⟩
end
end
def clnF : D → Bool
  | .odix kvs => (kvs.all fun p => isF p.2) && clnK kvs
  | d => isF d && cln d
theorem Own.cln {w : Wd} {G G2 : Gs} {H : Hp} (k : ToG G G2) {d : D} {v : V} {l : List Addr} (h : Own w G H d v l) (c : clnF d = true) : Own w G2 H d v l := by
  have fin : ∀ {d : D}, (isF d && Vm.cln d) = true → Own w G H d v l → Own w G2 H d v l := fun {d} c h => by
    rw [Bool.and_eq_true] at c
    obtain ⟨h1, h2⟩ := (own_fz c.1).mp h
    exact (own_fz c.1).mpr ⟨h1.cln k c.2, h2⟩
  unfold clnF at c
  split at c
  · rename_i kvs
    rw [Bool.and_eq_true] at c
    obtain ⟨a, es, l', rfl, k1, k2, k3, rfl⟩ := own_odix.mp h
    obtain ⟨z, rfl⟩ := k3.fz c.1
    exact own_odix.mpr ⟨a, es, [], rfl, k1, k2, (z.cln k c.2).own, rfl⟩
  · exact fin c h
theorem OwnL.cln {w : Wd} {G G2 : Gs} {H : Hp} (k : ToG G G2) : ∀ {ds : List D} {vs : List V} {l : List Addr}, OwnL w G H ds vs l → ds.all clnF = true → OwnL w G2 H ds vs l
  | [], _, _, h, _ => ownl_nil.mpr (ownl_nil.mp h)
  | d :: ds, _, _, h, c => by
    obtain ⟨v, r, l1, l2, rfl, h1, h2, rfl⟩ := ownl_cons.mp h
    rw [List.all_cons, Bool.and_eq_true] at c
    exact ownl_cons.mpr ⟨v, r, l1, l2, rfl, h1.cln k c.1, OwnL.cln k h2 c.2, rfl⟩
def gotF (b b' : Bs) : Hp := fun a => match b.H a with
  | some _ => b.G.F a
  | none => b'.G.F a
def Bs.gotF (b b' : Bs) : Bs := ⟨⟨Vm.gotF b b', b.G.ρ⟩, b'.H, b.o⟩
theorem gotF_old {b b' : Bs} {a : Addr} {u : HO} (h : b.H a = some u) : gotF b b' a = b.G.F a := by
  unfold gotF
  rw [h]
theorem gotF_new {b b' : Bs} {a : Addr} (h : b.H a = none) : gotF b b' a = b'.G.F a := by
  unfold gotF
  rw [h]
section
variable {w : Wd} {b b' : Bs} {σ : L2.St} {e : En} {s : Bool}
theorem Gr.gotF (S : Sat w b σ e) (g : Gr false b.lent b') : Gr s b (b.gotF b') where
  g := ⟨fun a u h => by
    show Vm.gotF b b' a = some u
    rw [gotF_old (S.ex a u h)]
    exact h, fun _ _ h => h⟩
  k := fun a u h _ => g.k a u h (keeps_no lent_own)
  n := fun a h => by
    cases hb : b.H a with
    | none => exact .inr (.inr rfl)
    | some u =>
      refine .inl fun z => h ?_
      show Vm.gotF b b' a = none
      rw [gotF_old hb]
      exact z
  p := fun a h => .inl h
  q := fun _ n a h => .inl ⟨n, h⟩
  h := g.h
theorem Sat.gotF {w' : Wd} {σ' : L2.St} {e' : En} (S : Sat w b σ e) (g : Gr false b.lent b') (S' : Sat w' b' σ' e') : Sat w (b.gotF b') σ e :=
  S.grow (Gr.gotF (s := true) S g).g (fun _ => rfl) rfl (fun a u h => by
    have h : Vm.gotF b b' a = some u := h
    cases hb : b.H a with
    | none =>
      rw [gotF_new hb] at h
      exact S'.ex a u h
    | some u0 =>
      rw [gotF_old hb] at h
      exact g.k a u (S.ex a u h) (keeps_no lent_own)) (fun a u _ h => g.k a u h (keeps_no lent_own)) fun a h => by
    obtain ⟨h1, u, h2⟩ := S.there h
    show Vm.gotF b b' a = none
    rw [gotF_old h2]
    exact h1
end
def eMakeL (c nf : Nat) (q : IF) (ar : LM) : EM := fun e => (ar e).bind fun ds e1 => match lendL ds with
  | some ds' => if okMu e1 ds' then (match q ds' with
    | some fs => if fs.all clnF then (match frzTL fs with
      | some fs' => if fs'.length = nf then .ok (.ins c fs') e1 else .stuck
      | none => .stuck) else .stuck
    | none => .stuck) else .stuck
  | none => .stuck
section
variable {X : Cx} {W : Wx} {w : Wd} {pos p : Pos} {x : Str} {a : Expr} {es : List Expr} {ar : LM} {k c nf : Nat} {q : IF}
end
end Vm

set_option maxHeartbeats 1000000
namespace Vm
open PySem L2 PyProof.Rows
def dsd (x : Str) : PyData := .tuple [.dict [], .str x, .dict []]
def dReprT : D → Option D := fun d => match d with
  | .tup [.dic [], .str x, .dic []] => if (dsd x).shown.length ≤ 1000000 ∧ PyData.strOk (dsd x).shown = true then some (.str (dsd x).shown) else none
  | d => dRepr d
def rRepT (X : Cx) : List V → Hp → VK → Prop := fun xs H Q => rRep X xs H Q ∨
  ∃ a a1 o1 a2 o2 x, xs = [.ref a] ∧ H a = some (.tup [.ref a1, .str x, .ref a2]) ∧ H a1 = some (.frz o1 (.dK [])) ∧ H a2 = some (.frz o2 (.dK [])) ∧ (dsd x).shown.length ≤ 1000000 ∧ Q (.str (dsd x).shown) H
section
variable {X : Cx} {W : Wx} {s : Bool} {w : Wd} {pos p : Pos} {a : Expr} {fa : EM}
end
end Vm

set_option maxHeartbeats 1000000
namespace VmX
open PySem L2 PyProof.Rows
section
variable {X : Cx} {CX : CXT} {k : Nat} {f : Addr} {fd : FuncData} {ps : List Str} {sp : Sp} {E : L2.St → XK} {x : Str} {p pos : Pos}
end
end VmX
namespace Vm
open PySem L2 PyProof.Rows
section
variable {w : Wd} {b b0 b' : Bs} {σ : L2.St} {e : En} {a : Addr} {u : HO} {s : Bool}
theorem Gr.lockN (g : Gr s b0 b) (hF : b.G.F a = none) (hn : b0.H a = none) : Gr s b0 (b.lockAt a u) where
  g := ⟨fun c x q => (upd_ne (ne_of_none (g.g.f c x q) hF)).trans (g.g.f c x q), g.g.r⟩
  k := fun c x q n => by
    have : c ≠ a := fun z => by
      subst z
      rw [q] at hn; cases hn
    exact (upd_ne this).trans (g.k c x q n)
  n := fun c q => by
    by_cases h : c = a
    · subst h
      exact .inr (.inr hn)
    · have q' : upd b.G.F a u c ≠ none := q
      rw [upd_ne h] at q'
      exact g.n c q'
  p := g.p
  q := g.q
  h := fun c q => by
    have q' : upd b.H a u c = none := q
    by_cases h : c = a
    · rw [h, upd_same] at q'
      cases q'
    · rw [upd_ne h] at q'
      exact g.h c q'
end
section
variable {X : Cx} {W : Wx} {s : Bool} {w : Wd} {pos p : Pos} {x : Str} {F : FV} {k : Nat}
theorem zDicF : PE X (.Dict [] [] pos) (tZ w W s (frzA eDic)) := (pe_locks pe_dnewK).imp fun σ H Q ⟨b, e, he, S, h⟩ => by
  subst he
  intro p hp
  have h1 : PR w W s σ b (.ok (D.dic []) e) fun d b' _ => ∀ v, Fz w b'.G d v → Q v b'.H := h
  refine .lock p (.dK []) upd_same (by first | exact trivial | rfl | decide | constructor) fun od => .now ?_
  have hF : b.G.F p = none := S.fresh_F hp
  have g0 : Gr s b (b.lay p (.dK [])) := Gr.lay hp
  have S0 : Sat w (b.lay p (.dK [])) σ e := S.lay (u := .dK []) hp
  have g1 : Gr s b ((b.lay p (.dK [])).lockAt p (.frz od (.dK []))) := Gr.lockN g0 hF hp
  have S1 : Sat w ((b.lay p (.dK [])).lockAt p (.frz od (.dK []))) σ e := S0.lockAt hF (S.fresh_own hp)
  exact h1 _ g1 S1 (.ref p) (fz_dic.mpr ⟨p, od, [], rfl, upd_same, Nat.zero_le _, fzk_nil.mpr rfl⟩)
end
end Vm

set_option maxHeartbeats 1000000
namespace Vm
open PySem L2
def strD? : D → Option Str
  | .str a => some a
  | _ => none
def strL? : List D → Option (List Str)
  | [] => some []
  | d :: ds => (strD? d).bind fun a => (strL? ds).map (a :: ·)
theorem strL_map : ∀ ss : List Str, strL? (ss.map D.str) = some ss
  | [] => rfl
  | a :: r => by simp only [List.map_cons, strL?, strD?, Option.bind_some, strL_map r, Option.map_some]
theorem strL_eq : ∀ {ds : List D} {ss : List Str}, strL? ds = some ss → ds = ss.map D.str
  | [], ss, h => by cases h; rfl
  | d :: ds, ss, h => by
    unfold strL? at h
    obtain ⟨a, h1, h2⟩ := Option.bind_eq_some_iff.mp h
    obtain ⟨r, h3, rfl⟩ := Option.map_eq_some_iff.mp h2
    cases d <;> try cases h1
    rw [strL_eq h3]
    rfl
def dSplit : D → D → Option D := fun x y => match x, y with
  | .str a, .str b => if (b.length == 0) = false ∧ a.length + 2 ≤ LIM ∧ (Txt.split a b).length ≤ LIM ∧ (Txt.split a b).all PyData.strOk = true then some (.olst ((Txt.split a b).map .str)) else none
  | _, _ => none
def dJoin : D → D → Option D := fun x y => match x with
  | .str a => (match y with
    | .lst ds => some ds
    | .tup ds => some ds
    | _ => none).bind fun ds => (strL? ds).bind fun ys => if (ys.map Str.length).sum + ys.length * a.length ≤ LIM ∧ PyData.strOk (Txt.join a ys) = true then some (.str (Txt.join a ys)) else none
  | _ => none
def dRstrip : D → D → Option D := fun x y => match x, y with
  | .str a, .str b => if a.length ≤ LIM ∧ PyData.strOk (Txt.rstripChars a b) = true then some (.str (Txt.rstripChars a b)) else none
  | _, _ => none
def isStr : D → Bool
  | .str _ => true
  | _ => false
section
variable {w : Wd} {b : Bs} {G : Gs}
theorem fzl_strV : ∀ (ss : List Str), (∀ a ∈ ss, Fz w G (.str a) (.str a)) → FzL w G (ss.map D.str) (ss.map V.str)
  | [], _ => fzl_nil.mpr rfl
  | a :: r, h => fzl_cons.mpr ⟨.str a, r.map V.str, rfl, h a (List.mem_cons_self ..), fzl_strV r fun x hx => h x (List.mem_cons_of_mem _ hx)⟩
theorem fzl_strU : ∀ {ss : List Str} {vs : List V}, FzL w G (ss.map D.str) vs → vs = ss.map V.str
  | [], vs, h => fzl_nil.mp h
  | a :: r, vs, h => by
    obtain ⟨v, vs', rfl, h1, h2⟩ := fzl_cons.mp h
    rw [(fz_str.mp h1).1, fzl_strU h2]
    rfl
end
section
variable {X : Cx} {W : Wx} {s : Bool} {w : Wd} {pos apos p2 : Pos} {x i c : Expr} {fx fi fa fb : EM}
theorem zSplit (o : Okx w X) (hx : PE X x (tZ w W s fx)) (hi : PE X i (tZ w W s fi)) (hs : starEach [i] X.env = [(false, eval i X.env)] := by rfl) (hbase : attributeBase x "split" X.env (eval x X.env) = eval x X.env := by rfl) (hline : (apos.endLine == pos.line) = true := by rfl) :
    PE X (.Call (.Attribute x "split" apos) [i] [] pos) (tV w W s (binG isStr dSplit fx fi)) := (pe_split hx hi hs hbase hline).imp fun σ H Q ⟨b, e, he, S, h⟩ => by
  subst he
  refine ⟨b, e, rfl, S, (PR.bind h).mono fun d b1 e1 g1 S1 h1 v z => ?_⟩
  cases d with
  | str a =>
    obtain ⟨rfl, za⟩ := fz_str.mp z
    refine ⟨⟨a, rfl⟩, b1, e1, rfl, S1, (PR.bind h1).mono fun y b2 e2 g2 S2 h2 vy zy => ?_⟩
    obtain ⟨t, ht, R⟩ := PR.retV (g1.trans g2) h2
    cases y <;> try cases ht
    rename_i q
    obtain ⟨rfl, _⟩ := fz_str.mp zy
    have ht' : (if (q.length == 0) = false ∧ a.length + 2 ≤ LIM ∧ (Txt.split a q).length ≤ LIM ∧ (Txt.split a q).all PyData.strOk = true then some (D.olst ((Txt.split a q).map .str)) else none) = some t := ht
    split at ht'
    · rename_i hc
      cases ht'
      refine ⟨a, q, rfl, rfl, hc.1, lim_size hc.2.1, fun p hp => ?_⟩
      exact R.lst S2 hp (by rw [List.length_map]; exact lim_size hc.2.2.1) (fzl_strV _ fun x hx => fz_str.mpr ⟨rfl, List.all_eq_true.mp hc.2.2.2 x hx⟩)
    · cases ht'
  | _ => exact h1.elim
theorem zJoin (o : Okx w X) (hx : PE X x (tZ w W s fx)) (hi : PE X i (tZ w W s fi)) (hs : starEach [i] X.env = [(false, eval i X.env)] := by rfl) (hbase : attributeBase x "join" X.env (eval x X.env) = eval x X.env := by rfl) (hline : (apos.endLine == pos.line) = true := by rfl) :
    PE X (.Call (.Attribute x "join" apos) [i] [] pos) (tZ w W s (binG isStr dJoin fx fi)) := (pe_join hx hi hs hbase hline).imp fun σ H Q ⟨b, e, he, S, h⟩ => by
  subst he
  refine ⟨b, e, rfl, S, (PR.bind h).mono fun d b1 e1 g1 S1 h1 v z => ?_⟩
  cases d with
  | str a =>
    obtain ⟨rfl, za⟩ := fz_str.mp z
    refine ⟨⟨a, rfl⟩, b1, e1, rfl, S1, (PR.bind h1).mono fun y b2 e2 g2 S2 h2 vy zy => ?_⟩
    obtain ⟨t, ht, R⟩ := PR.ret h2
    unfold dJoin at ht
    simp only at ht
    obtain ⟨ds, h3, h4⟩ := Option.bind_eq_some_iff.mp ht
    obtain ⟨ys, h5, h6⟩ := Option.bind_eq_some_iff.mp h4
    split at h6
    · rename_i hc
      cases h6
      have e := strL_eq h5
      subst e
      have fin : ∀ p, (SqL X.K b2.H p (ys.map V.str) ∨ SqT X.K b2.H p (ys.map V.str)) → ∃ a' p', ∃ ys' : List Str, V.str a = .str a' ∧ [V.ref p] = [.ref p'] ∧ (SqL X.K b2.H p' (ys'.map V.str) ∨ SqT X.K b2.H p' (ys'.map V.str)) ∧ (ys'.map (·.length)).sum + ys'.length * a'.length ≤ 16777216 ∧ Q (.str (Txt.join a' ys')) b2.H := fun p hp =>
        ⟨a, p, ys, rfl, rfl, hp, Nat.le_trans hc.1 (by unfold LIM; omega), R.now S2 (fz_str.mpr ⟨rfl, hc.2⟩)⟩
      cases y <;> try cases h3
      · obtain ⟨p, vs, rfl, k1, k2, k3⟩ := fz_tup.mp zy
        obtain rfl := fzl_strU k3
        exact fin p (.inr (SqT.of (S2.ex _ _ k1)))
      · obtain ⟨p, vs, rfl, k1, k2, k3⟩ := fz_lst.mp zy
        obtain rfl := fzl_strU k3
        exact fin p (.inl (SqL.of (S2.ex _ _ k1)))
    · cases h6
  | _ => exact h1.elim
theorem zRstrip (o : Okx w X) (hx : PE X x (tZ w W s fx)) (hi : PE X i (tZ w W s fi)) (hs : starEach [i] X.env = [(false, eval i X.env)] := by rfl) (hbase : attributeBase x "rstrip" X.env (eval x X.env) = eval x X.env := by rfl) (hline : (apos.endLine == pos.line) = true := by rfl) :
    PE X (.Call (.Attribute x "rstrip" apos) [i] [] pos) (tZ w W s (binG isStr dRstrip fx fi)) := (pe_m1 F.slot_str_rstrip F.type_str_rstrip mt_rstripChars hx hi hs hbase hline).imp fun σ H Q ⟨b, e, he, S, h⟩ => by
  subst he
  refine ⟨b, e, rfl, S, (PR.bind h).mono fun d b1 e1 g1 S1 h1 v z => ?_⟩
  cases d with
  | str a =>
    obtain ⟨rfl, za⟩ := fz_str.mp z
    refine ⟨⟨a, rfl⟩, b1, e1, rfl, S1, (PR.bind h1).mono fun y b2 e2 g2 S2 h2 vy zy => ?_⟩
    obtain ⟨t, ht, R⟩ := PR.ret h2
    cases y <;> try cases ht
    rename_i q
    obtain ⟨rfl, _⟩ := fz_str.mp zy
    have ht' : (if a.length ≤ LIM ∧ PyData.strOk (Txt.rstripChars a q) = true then some (D.str (Txt.rstripChars a q)) else none) = some t := ht
    split at ht'
    · rename_i hc
      cases ht'
      exact ⟨a, q, rfl, rfl, lim_size hc.1, R.now S2 (fz_str.mpr ⟨rfl, hc.2⟩)⟩
    · cases ht'
  | _ => exact h1.elim
def eStarL (fa fb : EM) : EM := fun e => (fa e).bind fun x e1 => (fb e1).bind fun y e2 => match fitems? y with
  | some ys => lift (mkLst (x :: ys)) e2
  | none => .stuck
theorem vStarL (o : Okx w X) (ha : PE X x (tZ w W s fa)) (hb : PE X c (tZ w W s fb)) (hs : starEach [x, .Starred c p2] X.env = (false, eval x X.env) :: starEach [.Starred c p2] X.env := by rfl) (hs2 : starEach [.Starred c p2] X.env = (true, eval c X.env) :: starEach [] X.env := by rfl) :
    PE X (.List [x, .Starred c p2] pos) (tV w W s (eStarL fa fb)) := (pe_lst (pa_cons ha (StX.pa_star hb pa_nil hs2) hs)).imp fun σ H Q ⟨b, e, he, S, h⟩ => by
  subst he
  refine ⟨b, e, rfl, S, (PR.bind h).mono fun d b1 e1 g1 S1 h1 v z => ⟨b1, e1, rfl, S1, (PR.bind h1).mono fun y b2 e2 g2 S2 h2 vy zy => ?_⟩⟩
  split at h2
  · rename_i ys hy
    obtain ⟨t, ht, R⟩ := PR.retV (g1.trans g2) h2
    obtain ⟨rfl, hl⟩ := mkLst_some ht
    obtain ⟨a, vs, rfl, k1, k2, k3⟩ := Br.fseq S2 zy.br hy
    refine ⟨a, vs, rfl, by rw [o.K]; exact k1.symm, ?_⟩
    show (v :: (vs ++ [])).length ≤ sizeLine ∧ ∀ (p : Addr), b2.H p = none → Q (V.ref p) (upd b2.H p (HO.lst (v :: (vs ++ []))))
    rw [List.append_nil]
    have zz : FzL w b2.G (d :: ys) (v :: vs) := fzl_cons.mpr ⟨v, vs, rfl, z.mono g2.g, k3⟩
    exact ⟨by rw [zz.length]; exact hl, fun p hp => R.lst S2 hp hl zz⟩
  · exact h2.elim
end
end Vm

set_option maxHeartbeats 1000000
namespace Vm
open PySem L2 PyProof.Rows VmS
def dDcl : D → Option D
  | .olst rs => (strL? rs).bind fun ss => if ss.Nodup ∧ ss.length ≤ 1000 then some (.odic (ss.map fun k => (.str k, .olst []))) else none
  | _ => none
structure LsOk (b0 b : Bs) (A : Addr) (L : List Str) (kvs : List (Key × V)) (la : List Addr) : Prop where
  k : kvs = (L.zip la).map fun p => (Sum.inr p.1, V.ref p.2)
  l : L.length = la.length
  n : (A :: la).Nodup
  h : ∀ a ∈ la, b.H a = some (.lst []) ∧ b.G.F a = none ∧ ¬ b.own a
  o : ∀ x ∈ L, PyData.strOk x = true
  f : ∀ a ∈ la, b0.H a = none
theorem zip_snoc {α β : Type} : ∀ {l : List α} {r : List β} (a : α) (b : β), l.length = r.length → (l ++ [a]).zip (r ++ [b]) = l.zip r ++ [(a, b)]
  | [], [], _, _, _ => rfl
  | x :: l, y :: r, a, b, h => by
    have := zip_snoc (l := l) (r := r) a b (by simpa using h)
    simp only [List.cons_append, List.zip_cons_cons, this]
theorem zip_own {w : Wd} {G : Gs} {H : Hp} : ∀ {L : List Str} {la : List Addr}, L.length = la.length → (∀ a ∈ la, H a = some (.lst [])) → (∀ x ∈ L, PyData.strOk x = true) → OwnK w G H (L.map fun k => (D.str k, D.olst [])) ((L.zip la).map fun p => (Sum.inr p.1, V.ref p.2)) la
  | [], [], _, _, _ => ownk_nil.mpr ⟨rfl, rfl⟩
  | x :: L, a :: la, h, ha, ho => by
    have ih := zip_own (w := w) (G := G) (H := H) (L := L) (la := la) (by simpa using h) (fun c hc => ha c (List.mem_cons_of_mem _ hc)) fun y hy => ho y (List.mem_cons_of_mem _ hy)
    refine ownk_cons.mpr ⟨Sum.inr x, .ref a, (L.zip la).map fun p => (Sum.inr p.1, V.ref p.2), [a], la, rfl, ?_, ?_, ih, rfl⟩
    · have := ho x (List.mem_cons_self ..)
      simp [dkey, this]
    · exact own_olst.mpr ⟨a, [], [], rfl, ha a (List.mem_cons_self ..), Nat.zero_le _, ownl_nil.mpr ⟨rfl, rfl⟩, rfl⟩
section
variable {W : Wx} {s : Bool} {w : Wd} {it : LM} {g : GM} {tt : TM} {te : EM} {vs : List Nat}
theorem dcl_v {σ : L2.St} {H : Hp} {Q : VK} (h : tV w W s (un dDcl (eLc it g tt te vs)) σ H Q) : tDc (tI w W s it) (tG w vs g) (tT w W0 s tt) (tZ w W0 s te) (tLst tNil) vs σ H Q := by
  obtain ⟨b0, e0, rfl, S0, h⟩ := h
  have hun : un dDcl (eLc it g tt te vs) e0 = (it e0).bind fun ds e1 => un dDcl (fun _ => if clear e1 vs = false then .stuck else (lcGo g tt te vs ds [] (wipeE e1 vs)).bind fun rs e2 => lift (mkLst rs) (Vm.back e1 vs e2)) e1 := by
    unfold un eLc
    cases it e0 <;> rfl
  rw [hun] at h
  refine ⟨b0, e0, rfl, S0, (PR.bind h).mono fun ds b1 e1 g1 S1 h1 J hJ A hA => ?_⟩
  obtain ⟨G, Y, wk, hG, hY⟩ := hJ.ex
  cases hc : clear e1 vs with
  | false =>
    rw [hc] at h1
    exact h1.elim
  | true =>
  rw [hc] at h1
  have h1 : PR w W s σ b1 (((lcGo g tt te vs ds [] (wipeE e1 vs)).bind fun rs e2 => lift (mkLst rs) (Vm.back e1 vs e2)).bind fun d e => lift (dDcl d) e) fun d b' _ => ∀ v, Tmp w b0 b' d v → Q v b'.H := h1
  cases hl : lcGo g tt te vs ds [] (wipeE e1 vs) with
  | stuck => rw [hl] at h1; exact h1.elim
  | exc c x e' => exact absurd hl lcGo_noexc
  | ok rs e2 =>
    rw [hl] at h1
    have h1 : PR w W s σ b1 ((lift (mkLst rs) (Vm.back e1 vs e2)).bind fun d e => lift (dDcl d) e) fun d b' _ => ∀ v, Tmp w b0 b' d v → Q v b'.H := h1
    cases hm : mkLst rs with
    | none => rw [hm] at h1; exact h1.elim
    | some dl =>
    rw [hm] at h1
    have hdl : dl = .olst rs ∧ rs.length ≤ LIM := by
      unfold mkLst at hm
      split at hm
      · rename_i q; cases hm; exact ⟨rfl, q⟩
      · cases hm
    obtain ⟨rfl, hlim⟩ := hdl
    have h1 : PR w W s σ b1 (lift (dDcl (.olst rs)) (Vm.back e1 vs e2)) fun d b' _ => ∀ v, Tmp w b0 b' d v → Q v b'.H := h1
    cases hset : dDcl (.olst rs) with
    | none => rw [hset] at h1; exact h1.elim
    | some dd =>
    rw [hset] at h1
    obtain ⟨ss, h5, h6⟩ := Option.bind_eq_some_iff.mp (show (strL? rs).bind _ = some dd from hset)
    split at h6
    case isFalse => cases h6
    rename_i hss
    cases h6
    have hrs := strL_eq h5
    have hrl : rs.length = ss.length := by rw [hrs, List.length_map]
    have hAF : b1.G.F A = none := S1.fresh_F hA
    have hAo := S1.fresh_own hA
    have nofree : ∀ {b : Bs} {a : Addr}, ¬ b.own a → ¬ (b.free vs).own a := fun h ⟨y, hy⟩ => h ⟨y, (free_sub hy).1⟩
    have keep : ∀ {b b' : Bs} {a : Addr} {u : HO}, Gr s b b' → b.H a = some u → b.G.F a = none → ¬ b.own a → b'.H a = some u ∧ b'.G.F a = none ∧ ¬ b'.own a := fun {b b' a u} gg x1 x2 x3 => by
      refine ⟨gg.k a _ x1 (keeps_no x3), ?_, fun z => (gg.p a z).elim x3 fun z => by rw [x1] at z; cases z⟩
      cases q : b'.G.F a with
      | none => rfl
      | some u' =>
        rcases gg.n a (by rw [q]; intro z; cases z) with z | z | z
        · exact absurd x2 z
        · exact absurd z x3
        · rw [x1] at z; cases z
    have keepL : ∀ {b b' : Bs} {L : List Str} {kvs : List (Key × V)} {la : List Addr}, Gr s b b' → LsOk b1 b A L kvs la → LsOk b1 b' A L kvs la := fun {b b' L kvs la} gg k => ⟨k.k, k.l, k.n, fun a ha => by
      obtain ⟨y1, y2, y3⟩ := k.h a ha
      exact keep gg y1 y2 y3, k.o, k.f⟩
    refine dc_it wk (fun i H => ∃ b' e' L kvs la, H = b'.H ∧ Gr s b1 b' ∧ Sat w b' (wipe σ vs) e' ∧ (b'.H A = some (.dK kvs) ∧ b'.G.F A = none ∧ ¬ b'.own A) ∧ LsOk b1 b' A L kvs la ∧ lcGo g tt te vs (ds.drop i) (L.map D.str) e' = .ok rs e2) ?_ ?_ ?_ ?_
    · refine ⟨(b1.free vs).lay A (.dK []), wipeE e1 vs, [], [], [], rfl, Gr.free.trans (Gr.lay hA), (S1.wipe vs).side hAF (nofree hAo), ⟨upd_same, hAF, nofree hAo⟩, ⟨rfl, rfl, by simp, (fun _ h => by cases h), (fun _ h => by cases h), (fun _ h => by cases h)⟩, hl⟩
    · rintro i H _ ⟨b', e', L, kvs, la, rfl, g2, S2, _⟩
      exact hG b' _ e' g2.gi S2
    · rintro i x H H' hi ⟨b', e', L, kvs, la, rfl, g2, S2, ⟨x1, x2, x3⟩, K, k6⟩ y
      have hd : ds[i]? = some (ds[i]'hi) := List.getElem?_eq_getElem hi
      obtain ⟨b2, rfl, g3, S3, z⟩ := hY b' _ e' i x H' _ g2.gi S2 hd y
      rw [List.drop_eq_getElem_cons hi] at k6
      unfold lcGo at k6
      cases hg : g ds[i] e' with
      | none => rw [hg] at k6; cases k6
      | some e3 =>
        rw [hg] at k6
        simp only at k6
        refine ⟨b2, e', _, e3, rfl, S3, z, hg, fun bt σ2 pt gt S4 hw => ?_⟩
        rw [← pt]
        have hw' : wipe σ2 vs = wipe σ vs := by rw [hw]; exact (wipe_idem σ vs)
        refine ⟨hw', ?_⟩
        cases ht : tt e3 with
        | stuck => rw [ht] at k6; cases k6
        | exc _ _ _ => rw [ht] at k6; cases k6
        | ok k e4 =>
          rw [ht] at k6
          refine ⟨bt, e3, rfl, S4, ?_⟩
          rw [ht]
          intro b3 g4 S5
          have g24 : Gr s b' b3 := ((g3.soft (s := s)).trans gt.soft).trans g4
          cases k with
          | false =>
            have k6 : lcGo g tt te vs (ds.drop (i + 1)) (L.map D.str) (wipeE e4 vs) = .ok rs e2 := k6
            have S6 := S5.wipe vs
            rw [hw'] at S6
            have gx := g24.trans (Gr.free (vs := vs))
            exact ⟨b3.free vs, wipeE e4 vs, L, kvs, la, rfl, g2.trans gx, S6, keep gx x1 x2 x3, keepL gx K, k6⟩
          | true =>
            have k6 : ((te e4).nox.bind fun y e3 => if (L.map D.str).length < LIM then lcGo g tt te vs (ds.drop (i + 1)) (L.map D.str ++ [y]) (wipeE e3 vs) else .stuck) = .ok rs e2 := k6
            cases he : te e4 with
            | stuck => rw [he] at k6; cases k6
            | exc _ _ _ => rw [he] at k6; cases k6
            | ok y5 e5 =>
              rw [he] at k6
              have k6 : (if (L.map D.str).length < LIM then lcGo g tt te vs (ds.drop (i + 1)) (L.map D.str ++ [y5]) (wipeE e5 vs) else .stuck) = .ok rs e2 := k6
              split at k6
              case isFalse => cases k6
              obtain ⟨t6, et⟩ := lcGo_app k6
              obtain ⟨xt, rfl⟩ : ∃ xt, y5 = D.str xt := by
                have : y5 ∈ ss.map D.str := by rw [← hrs, et]; simp
                obtain ⟨xt, _, e⟩ := List.mem_map.mp this
                exact ⟨xt, e.symm⟩
              have hxL : xt ∉ L := by
                have e9 : ss.map D.str = L.map D.str ++ [D.str xt] ++ t6 := by rw [← hrs, et]
                have h11 : (ss.map D.str).Nodup := List.Pairwise.map D.str (fun a c (hac : a ≠ c) z => hac (D.str.inj z)) hss.1
                rw [e9] at h11
                intro z
                exact (List.nodup_append.mp (List.nodup_append.mp h11).1).2.2 (D.str xt) (List.mem_map.mpr ⟨xt, z, rfl⟩) (D.str xt) (List.mem_singleton.mpr rfl) rfl
              refine ⟨b3, e4, rfl, S5, ?_⟩
              rw [he]
              intro b4 g5 S6 v5 z5
              obtain ⟨rfl, hok⟩ := fz_str.mp z5
              have gy := g24.trans g5
              obtain ⟨m1, m2, m3⟩ := keep gy x1 x2 x3
              have K4 := keepL gy K
              refine ⟨Nat.zero_le _, fun p hp => ?_⟩
              have S7 := S6.wipe vs
              rw [hw'] at S7
              have hpA : p ≠ A := fun z => by rw [z, m1] at hp; cases hp
              have hpF : b4.G.F p = none := S6.fresh_F hp
              have hpo := S6.fresh_own hp
              have hkl : kvs.length < sizeLine := by
                have a3 := congrArg List.length et
                have a4 := K.l
                rw [K.k]
                simp only [List.length_map, List.length_append, List.length_zip, List.length_cons, List.length_nil] at a3 ⊢
                unfold sizeLine
                omega
              have hnew : putK kvs (.inr xt) (V.ref p) = kvs ++ [(.inr xt, V.ref p)] := by
                have hn : (Sum.inr xt : Key) ∉ kvs.map (·.1) := by
                  rw [K.k]
                  intro z
                  obtain ⟨q, hq, e⟩ := List.mem_map.mp z
                  obtain ⟨r, hr, rfl⟩ := List.mem_map.mp hq
                  have : r.1 = xt := Sum.inr.inj e
                  exact hxL (this ▸ (List.of_mem_zip hr).1)
                unfold putK
                rw [if_neg]
                intro z
                obtain ⟨q, hq, e⟩ := List.any_eq_true.mp z
                exact hn (List.mem_map.mpr ⟨q, hq, by simpa using e⟩)
              have hpla : p ∉ la := fun z => by
                have := (K4.h p z).1
                rw [hp] at this
                cases this
              refine ⟨kvs, .inr xt, rfl, by show upd b4.H p _ A = _; rw [upd_ne (Ne.symm hpA)]; exact m1, hkl, ((b4.free vs).lay p (.lst [])).lay A (.dK (putK kvs (.inr xt) (.ref p))), wipeE e5 vs, L ++ [xt], _, la ++ [p], rfl, ?_, (S7.side hpF (nofree hpo)).side m2 (nofree m3), ⟨upd_same, m2, nofree m3⟩, ⟨?_, by simp [K.l], ?_, fun a ha => ?_, fun x hx => ?_, fun a ha => ?_⟩, by rw [List.map_append]; exact k6⟩
              · have gg := (g2.trans gy).trans (Gr.free (vs := vs))
                have hb1p : b1.H p = none := gg.h p hp
                refine ⟨gg.g, fun a u q n => ?_, gg.n, gg.p, gg.q, fun a q => ?_⟩
                · show upd (upd (b4.free vs).H p _) A _ a = _
                  rw [upd_ne (ne_of_none q hA), upd_ne (ne_of_none q hb1p)]
                  exact gg.k a u q n
                · by_cases ha : a = A
                  · rw [ha]; exact hA
                  · have q' : upd (upd (b4.free vs).H p (.lst [])) A (.dK (putK kvs (.inr xt) (.ref p))) a = none := q
                    rw [upd_ne ha] at q'
                    by_cases hap : a = p
                    · rw [hap] at q' ⊢
                      rw [upd_same] at q'
                      cases q'
                    · rw [upd_ne hap] at q'
                      exact gg.h a q'
              · rw [hnew, zip_snoc _ _ K.l, List.map_append, ← K.k]
                rfl
              · have : A :: (la ++ [p]) = (A :: la) ++ [p] := rfl
                rw [this]
                refine List.nodup_append.mpr ⟨K.n, by simp, fun a ha c hc e => ?_⟩
                rw [List.mem_singleton.mp hc] at e
                subst e
                rcases List.mem_cons.mp ha with q | q
                · exact hpA q
                · exact hpla q
              · show upd (upd (b4.free vs).H p (.lst [])) A _ a = _ ∧ _
                rcases List.mem_append.mp ha with q | q
                · obtain ⟨y1, y2, y3⟩ := K4.h a q
                  have haA : a ≠ A := fun z => by
                    have := K.n
                    rw [List.nodup_cons] at this
                    exact this.1 (z ▸ q)
                  have hap : a ≠ p := fun z => hpla (z ▸ q)
                  rw [upd_ne haA, upd_ne hap]
                  exact ⟨y1, y2, nofree y3⟩
                · rw [List.mem_singleton.mp q, upd_ne hpA, upd_same]
                  exact ⟨rfl, hpF, nofree hpo⟩
              · rcases List.mem_append.mp hx with q | q
                · exact K.o x q
                · rw [List.mem_singleton.mp q]; exact hok
              · rcases List.mem_append.mp ha with q | q
                · exact K.f a q
                · rw [List.mem_singleton.mp q]
                  exact (g2.trans gy).h p hp
    · rintro H ⟨b', e', L, kvs, la, rfl, g2, S2, ⟨x1, x2, x3⟩, K, k6⟩
      rw [List.drop_length] at k6
      cases k6
      have hLs : L = ss := by
        have : (L.map D.str) = ss.map D.str := hrs
        exact List.map_inj_right (fun a c h => D.str.inj h) |>.mp this
      subst hLs
      have S3 := S1.back hc g2 S2
      refine h1 (b'.free vs) (g2.trans Gr.free) S3 (.ref A) ⟨A :: la, own_odic.mpr ⟨A, kvs, la, rfl, x1, ?_, ?_, rfl⟩, K.n, fun c hc => ?_⟩
      · rw [List.length_map]
        unfold sizeLine
        omega
      · rw [K.k]
        exact zip_own K.l (fun a ha => (K.h a ha).1) K.o
      · rcases List.mem_cons.mp hc with rfl | hc
        · exact ⟨x2, nofree x3, .inl (g1.h _ hA)⟩
        · obtain ⟨y1, y2, y3⟩ := K.h c hc
          exact ⟨y2, nofree y3, .inl (g1.h _ (K.f c hc))⟩
end
section
variable {X : Cx} {W : Wx} {s : Bool} {w : Wd} {pos lp : Pos} {kx tg iter : Expr} {ifs : List Expr} {scope : Scope} {it : LM} {g : GM} {tt : TM} {te : EM}
theorem vDcl (own : List (Str × Nat)) (o : Okx w X) (hi : PI X tg iter (tI w W s it)) (ok : BlkOk X.N X.env.scope scope own)
    (hg : ∀ (s : Shared) (H : Hp) (C : Addr) (cl : List (Str × Addr)) (fp : List Addr), PG (X.blk s H scope (compEnvC scope cl C X.env) fp) tg (tG w (own.map (·.2)) g)) (ht : ∀ (s0 : Shared) (H : Hp) (C : Addr) (cl : List (Str × Addr)) (fp : List Addr), PTs (X.blk s0 H scope (compEnvC scope cl C X.env) fp) ifs (tT w W0 s tt))
    (hk : ∀ (s0 : Shared) (H : Hp) (C : Addr) (cl : List (Str × Addr)) (fp : List Addr), PE (X.blk s0 H scope (compEnvC scope cl C X.env) fp) kx (tZ w W0 s te)) (hs : ∀ x, foldedSetIterable iter X.env x = pure x := by intro _; rfl) :
    PE X (.DictComp kx (.List [] lp) [⟨tg, iter, ifs, 0⟩] scope pos) (tV w W s (un dDcl (eLc it g tt te (own.map (·.2))))) :=
  (pe_dc (own := own) o.c o.N hi ok hg ht hk (fun _ _ _ _ _ => pe_lst pa_nil) hs).imp fun _ _ _ h => dcl_v h
end
end Vm

set_option maxHeartbeats 1000000
namespace Vm
open PySem L2 PyProof.Rows
def sAppK (i : Nat) (fk fx : EM) : SM := fun e => match e.sl[i]? with
  | some (some (.odic _)) => ofE (fk e) fun y e1 => match e1.sl[i]?, dkey y with
    | some (some (.odic kvs)), some _ => (match lkD kvs y with
      | some (.olst _) => sdTail i fx y e1
      | _ => .stuck)
    | _, _ => .stuck
  | _ => .stuck
section
variable {X : Cx} {W : Wx} {s : Bool} {w : Wd} {pos p p2 ap cp : Pos} {x c : Expr} {fk fx : EM}
theorem zAppK (i : Nat) {y : Str} (o : Okx w X) (hk : PE X c (tZ w W true fk)) (hx : PE X x (tZ w W true fx)) (hN : X.N[i]? = some y := by rfl) (hv : Vis X.env.scope y := by first | exact Or.inl rfl | exact Or.inr (Or.inl rfl) | exact Or.inr (Or.inr rfl)) (hd : (y == ("__debug__" : Str)) = false := by decide)
    (hcd : (y == ("__classdict__" : Str)) = false := by decide) (hpi : PlainIx c := by intro _ _; rfl)
    (hs : starEach [x] X.env = (false, eval x X.env) :: starEach [] X.env := by rfl)
    (hbase : attributeBase (.Subscript (.Name y p) c p2) "append" X.env (eval (.Subscript (.Name y p) c p2) X.env) = eval (.Subscript (.Name y p) c p2) X.env := by rfl)
    (hfew : ((backTo cp (starEach [x] X.env)).all (fun x => !x.1) && (backToKw cp (keywordEach [] X.env)).all (fun x => x.1.isSome)
      && decide ([x].length + ([] : List Keyword).length + (if ([] : List Keyword).isEmpty then 0 else 1) < 30)) = true := by rfl)
    (hline : (ap.endLine == cp.line) = true := by rfl) (hsw : swapsWith (.Call (.Attribute (.Subscript (.Name y p) c p2) "append" ap) [x] [] cp) none pos.line X.env = pure false := by rfl) :
    PS X (.Expr (.Call (.Attribute (.Subscript (.Name y p) c p2) "append" ap) [x] [] cp) pos) (tS w W (sAppK i fk fx)) :=
  (ps_expr (pe_bm PySem.F.plainAttrs_list PySem.F.slot_list_append PySem.F.type_list_append mt_append (pe_ix (ix_dk (by have := o.u; omega)) (pv i hN hv hd hcd) hk hpi) (pa_cons hx pa_nil hs) hbase hfew hline hs rfl) hsw).imp fun D σ H ⟨b, e, he, S, h⟩ => by
  subst he
  unfold sAppK at h
  split at h
  · rename_i kvs0 hd0
    obtain ⟨v0, s1, s2⟩ := S.slot hd0
    obtain ⟨a, ks0, l0, rfl, t1, _, _, _⟩ := own_odic.mp s2
    refine ⟨_, s1, b, e, rfl, S, (SR.ofE (s := true) h).mono fun yk b1 e1 g1 S1 h1 vy zy => ?_⟩
    split at h1
    · rename_i kvs ky hd1 hky
      obtain ⟨v1, u1, u2⟩ := S1.slot hd1
      rw [s1] at u1
      cases u1
      obtain ⟨a', ks, l, e', r1, r2, r3, r4⟩ := own_odic.mp u2
      cases e'
      have hnd := S1.nd (.s i)
      rw [r4] at hnd
      have ha : a ∈ b1.o (.s i) := by rw [r4]; exact List.mem_cons_self ..
      split at h1
      · rename_i xs hlk
        rcases r3.lk hky with ⟨k1, k2⟩ | ⟨d, v', l', k1, k2, k3, k4⟩
        · rw [hlk] at k1; cases k1
        · rw [hlk] at k1
          cases k1
          obtain ⟨p0, vs0, l'', rfl, m1, _, _, _⟩ := own_olst.mp k3
          exact ⟨a, .ref p0, rfl, .inl ⟨ks, ky, .inl r1, dkey_kV zy hky, k2.symm⟩, .inl ⟨rfl, vs0, SqL.of m1⟩, sd_tail S1 s1 ha r1 k2 hky h1⟩
      · exact h1.elim
    · exact h1.elim
  · exact h.elim
end
end Vm

set_option maxHeartbeats 1000000
namespace Vm
open PySem L2 PyProof.Rows
structure RolC (K : PySem.W.Frag) (mg : Str → Option Value) (x : Str) (ss : List Str) : Prop where
  ex : ∃ a, mg x = some (.ref a) ∧ ∃ (o : Obj) (its : Array Value) (n : Nat), K.lookup a = some o ∧ o.cls = .type "list" ∧ o.dict = none ∧ o.data = .seq its n ∧ its.size ≤ sizeLine ∧ Vals (ss.map V.str) its.toList
section
variable {X : Cx} {W : Wx} {s : Bool} {w : Wd} {pos apos : Pos} {x ix : Expr} {f fa : EM}
theorem zGRol {y : Str} {ss : List Str} (o : Okx w X) (h : RolC X.K X.mg y ss) (hx : ss.all PyData.strOk = true := by first | rfl | decide +kernel) (hl : ss.length ≤ sizeLine := by decide) (hg : Gl X y := by rfl) (hd : (y == ("__debug__" : Str)) = false := by decide) : PE X (.Name y pos) (tZ w W s (eC (.rol (ss.map .str)))) := by
  obtain ⟨a, hm, ob, its, n, h1, h2, h3, h4, h5, h6⟩ := h.ex
  refine zC (pe_glob (v := .ref a) hg hm rfl hd) fun G => fz_rol.mpr ⟨a, ss.map V.str, rfl, .inr ⟨ob, its, n, ?_, h2, h3, h4, h5, h6⟩, by rw [List.length_map]; exact hl, fzl_strV ss fun y hy => fz_str.mpr ⟨rfl, List.all_eq_true.mp hx y hy⟩⟩
  rw [← o.K]
  exact h1
def isRol : D → Bool
  | .rol _ => true
  | _ => false
def dIndexR : D → D → Option D := fun x y => match x, y with
  | .rol ds, .str q => match strs? ds with
    | some ns => (firstEq (.str q) (ns.map .str) 0).map fun j => .int (j : Nat)
    | none => none
  | _, _ => none
theorem zIndexR (o : Okx w X) (hx : PE X x (tZ w W s f)) (hi : PE X ix (tZ w W s fa)) (hs : starEach [ix] X.env = (false, eval ix X.env) :: starEach [] X.env := by rfl)
    (hbase : attributeBase x "index" X.env (eval x X.env) = eval x X.env := by rfl)
    (hfew : ((backTo pos (starEach [ix] X.env)).all (fun x => !x.1) && (backToKw pos (keywordEach [] X.env)).all (fun x => x.1.isSome)
      && decide ([ix].length + ([] : List Keyword).length + (if ([] : List Keyword).isEmpty then 0 else 1) < 30)) = true := by rfl)
    (hline : (apos.endLine == pos.line) = true := by rfl) : PE X (.Call (.Attribute x "index" apos) [ix] [] pos) (tZ w W s (binG isRol dIndexR f fa)) :=
  (pe_bm PySem.F.plainAttrs_list PySem.F.slot_list_index PySem.F.type_list_index mt_index hx (pa_cons hi pa_nil hs) hbase hfew hline hs rfl).imp fun σ H Q ⟨b, e, he, S, h⟩ => by
  subst he
  refine ⟨b, e, rfl, S, (PR.bind h).mono fun d b1 e1 g1 S1 h1 v z => ?_⟩
  cases d with
  | rol ds =>
    obtain ⟨a, vs, rfl, k1, k3, k4⟩ := fz_rol.mp z
    have k1' : SqL X.K b1.H a vs := by rw [o.K]; exact SqL.mono S1.ex k1
    refine ⟨.inl ⟨rfl, vs, k1'⟩, b1, e1, rfl, S1, (PR.bind h1).mono fun y b2 e2 g2 S2 h2 vy zy => ?_⟩
    obtain ⟨t, ht, R⟩ := PR.ret h2
    cases y <;> try cases ht
    rename_i q
    unfold dIndexR at ht
    simp only at ht
    split at ht
    · rename_i ns hn
      obtain ⟨j, hj, rfl⟩ := Option.map_eq_some_iff.mp ht
      obtain ⟨m1, m2⟩ := fzl_strs k4 hn
      subst m1 m2
      obtain ⟨rfl, _⟩ := fz_str.mp zy
      obtain ⟨n1, n2⟩ := firstEq_strs hj
      have k2' : SqL X.K b2.H a (ns.map V.str) := by rw [o.K]; exact SqL.mono (fun c u hc => S2.ex _ _ (g2.g.f _ _ hc)) k1
      refine ⟨a, ns.map V.str, .str q, j, .str q, rfl, rfl, k2', rfl, flat_strs ns, by rw [List.getElem?_map, n1]; rfl, by simp [eqV], fun m z' hm hz => ?_, R.now S2 (fz_int.mpr rfl)⟩
      rw [List.getElem?_map] at hz
      obtain ⟨u', h4, rfl⟩ := Option.map_eq_some_iff.mp hz
      have : u' ≠ q := fun e => n2 m hm (e ▸ h4)
      simpa [eqV] using this
    · cases ht
  | _ => exact h1.elim
end
end Vm

set_option maxHeartbeats 1000000
namespace VmH
open PySem PySem.Spec PyProof.Rows L2 He
theorem vals_strs : ∀ {ss : List Str} {its : List Value}, (its.map fun v => match v with
    | .str a _ => some a
    | _ => none) = ss.map some → Vals (ss.map V.str) its
  | [], [], _ => .nil
  | a :: ss, v :: its, h => by
    simp only [List.map_cons, List.cons.injEq] at h
    obtain ⟨h1, h2⟩ := h
    have ih := vals_strs h2
    cases v <;> try cases h1
    exact .cons ⟨_, rfl⟩ ih
  | [], _ :: _, h => by simp at h
  | _ :: _, [], h => by simp at h
theorem rol_ok {K : PySem.W.Frag} {mg : Str → Option Value} {x : Str} {ss : List Str} (h : neB K x = true) (hr : rolsOf x = some ss) (hg : mg x = some (.ref (ga K x))) : Vm.RolC K mg x ss := by
  unfold neB at h
  rw [hr] at h
  simp only at h
  unfold rolB at h
  split at h
  · rename_i t its n sl hl
    simp only [Bool.and_eq_true, beq_iff_eq, decide_eq_true_eq] at h
    obtain ⟨rfl, h1, h2⟩ := h
    exact ⟨⟨ga K x, hg, _, its, n, hl, rfl, rfl, rfl, Nat.le_trans h1 (by decide), vals_strs h2⟩⟩
  · cases h
end VmH

set_option maxHeartbeats 1000000
namespace Vm
open PySem PySem.Spec PyProof.Rows L2
section
variable {X : Cx} {W : Wx} {w : Wd} {body : List Stmt} {hds : List ExceptHandler} {pos : Pos} {bd : SM}
theorem ps_try_calm {h₀ : ExceptHandler} {tb : TS} (hb : ∀ (pn : List (Addr × Obj)) (xe : Value → Shared → Prop), PSs (X.tr pn xe) body tb) : PS X (.Try body (h₀ :: hds) [] [] pos) tb := by
  refine ⟨fun pins s σ H D I h => ?_⟩
  have ok := I.ok
  refine wpAny_Try_except (wpAny_mono ((hb (X.pn ++ pins) (fun e s₁ => wpAny (model X.prog X.w) X.A (noteFrame e X.env) (fun _ s₂ => wpAny (model X.prog X.w) X.A (setFlight e none) (fun _ s₃ =>
    wpAny (model X.prog X.w) X.A (handleBy e X.env (h₀ :: hds)) (SP X pins D) X.xe s₃) X.xe s₂) X.xe s₁)).run [] s σ H D (I.toTry _) h) (fun f s1 hsp => ?_) (fun e s1 he => he))
  cases f with
  | next =>
    obtain ⟨σ', H', J', q⟩ := hsp
    exact wpAny_execs_nil ⟨σ', H', J'.ofTry ok, q⟩
  | brk =>
    obtain ⟨σ', H', J', q⟩ := hsp
    exact ⟨σ', H', J'.ofTry ok, q⟩
  | cont =>
    obtain ⟨σ', H', J', q⟩ := hsp
    exact ⟨σ', H', J'.ofTry ok, q⟩
  | ret u =>
    obtain ⟨v, σ', H', J', r, q⟩ := hsp
    exact ⟨v, σ', H', J'.ofTry ok, r, q⟩
theorem zTryC {h₀ : ExceptHandler} (o : Okx w X) (hb : ∀ (pn : List (Addr × Obj)) (xe : Value → Shared → Prop), PSs (X.tr pn xe) body (tS w W bd)) : PS X (.Try body (h₀ :: hds) [] [] pos) (tS w W bd) := ps_try_calm hb
end
end Vm

set_option maxHeartbeats 1000000
namespace Vm
open PySem PySem.Spec PyProof.Rows L2
def rMulS : R2 := fun x y H Q => ∃ (a : Str) (k : Int), x = .str a ∧ y = .int k ∧ 0 ≤ k ∧ k ≤ 10000 ∧ a.length ≤ 100 ∧ Q (.str (Txt.mul a k)) H
theorem op_mulS {X : Cx} : OpR X (binaryOp .Mult) rMulS := by
  intro pins s σ H x y v u Q I rx ry h
  obtain ⟨a, k, rfl, rfl, h1, h2, h3, q⟩ := h
  obtain ⟨t, rfl⟩ := rx
  obtain ⟨t', rfl⟩ := ry
  refine SB.mul ⟨?_, fun h _ => ?_, fun h _ => ?_⟩ fun t' tk => ⟨.str (Txt.mul a k), H, I.tok _, ⟨_, rfl⟩, q⟩
  · rw [decide_eq_false (by omega), decide_eq_false (by omega)]; rfl
  · have : (100 : Int) ≤ (2 ^ 63 - 1) / k := by
      rw [Int.le_ediv_iff_mul_le (by omega)]
      omega
    omega
  · have hk : k.toNat ≤ 10000 := by omega
    have : a.length * k.toNat ≤ 100 * 10000 := Nat.mul_le_mul h3 hk
    exact decide_eq_false (by show ¬ a.length * k.toNat > 2 ^ 24; omega)
def dMulS : D → D → Option D
  | .str a, .int k => if 0 ≤ k ∧ k ≤ 10000 ∧ a.length ≤ 100 ∧ PyData.strOk (Txt.mul a k) = true then some (.str (Txt.mul a k)) else none
  | _, _ => none
theorem ob_mulS {w : Wd} : OpB w rMulS dMulS := by
  intro s σ b e x y d vx vy Q S zx zy hg R
  cases x <;> try cases hg
  cases y <;> try cases hg
  rename_i a k
  have hg' : (if 0 ≤ k ∧ k ≤ 10000 ∧ a.length ≤ 100 ∧ PyData.strOk (Txt.mul a k) = true then some (D.str (Txt.mul a k)) else none) = some d := hg
  split at hg'
  · rename_i h
    cases hg'
    obtain ⟨rfl, _⟩ := zx.str
    cases zy.int
    exact ⟨a, k, rfl, rfl, h.1, h.2.1, h.2.2.1, R.now S (fz_str.mpr ⟨rfl, h.2.2.2⟩)⟩
  · cases hg'
def dMulAS := orD dMulA dMulS
theorem ob_mulAS {w : Wd} : OpBO w (fun x y H Q => (rI CMulW (fun i j => .int (i * j)) x y H Q ∨ rRepA w.K x y H Q ∨ L2.rRep x y H Q) ∨ rMulS x y H Q) dMulAS := ob_mulA.or ob_mulS.v
theorem r_mulAS {w : Wd} {X : Cx} (o : Okx w X) : OpR X (binaryOp .Mult) (fun x y H Q => (rI CMulW (fun i j => .int (i * j)) x y H Q ∨ rRepA w.K x y H Q ∨ L2.rRep x y H Q) ∨ rMulS x y H Q) := (r_mulA o).or op_mulS
end Vm

set_option maxHeartbeats 2000000
namespace Vm
open PySem L2 PyProof.Rows
def wfuel : Nat := 100000000
structure Gf (P : Program) (w : World) (K : PySem.W.Frag) (mg : Str → Option Value) (base : Heap) (cls : Nat → Addr) (flds : Nat → List Str) : Prop where
  f_enumerate : mg "enumerate" = none
  f_int : mg "int" = none
  f_isinstance : mg "isinstance" = none
  f_len : mg "len" = none
  f_list : mg "list" = none
  f_max : mg "max" = none
  f_range : mg "range" = none
  f_repr : mg "repr" = none
  f_str : mg "str" = none
  f_tuple : mg "tuple" = none
  c_MOST_DEEDS : IntC mg "MOST_DEEDS" 10
  c_MOST_HEARINGS : IntC mg "MOST_HEARINGS" 12
  c_MOST_HOUSES : IntC mg "MOST_HOUSES" 3
  c_MOST_LETTERS : IntC mg "MOST_LETTERS" 8
  c_MOST_LOST : IntC mg "MOST_LOST" 4
  c_MOST_STANDS : IntC mg "MOST_STANDS" 4
  l_HEADS : RolC K mg "HEADS" ["houses", "stands", "deed", "hear", "lost"]
  c_LETTERS : StrC mg "LETTERS" "abcdefghijklmnopqrstuvwxyz"
  c_NONE : StrC mg "NONE" "_"
  xo_InvalidBook : (∀ c ∈ ([3] : List Nat), (flds c).length = 1) ∧ ∀ c ∈ ([3] : List Nat), PySem.W.exmOne K (.ref (cls c)) (.ref (cls 3)) = some true
  g_InvalidBook : mg "InvalidBook" = some (.ref (cls 3))
  xl_InvalidBook : flds 3 = [("value" : Str)]
  x_InvalidBook : ExM P K mg (cls 3) "value"
  xi_InvalidBook : ∀ s, ExnI ⟨P, w, K, cls, flds, s, none⟩ [3] 3
  g_HushError : mg "HushError" = some (.ref (cls 4))
  xn : ∀ c ∈ ([3] : List Nat), (flds c).length = 1
  xh : ∀ c ∈ ([3] : List Nat), PySem.W.exmOne K (.ref (cls c)) (.ref (cls 4)) = some true
  xf_value : ∀ s, ExnF ⟨P, w, K, cls, flds, s, none⟩ [3] "value"
  cl0 : Cls K (cls 0)
  nd0 : (flds 0).Nodup
  nf0 : (flds 0).length = 6
  na_Book_homes : NoAttr K (cls 0) "homes"
  fl0_0 : (flds 0)[0]? = some ("homes" : Str)
  na_Book_places : NoAttr K (cls 0) "places"
  fl0_1 : (flds 0)[1]? = some ("places" : Str)
  na_Book_acts : NoAttr K (cls 0) "acts"
  fl0_2 : (flds 0)[2]? = some ("acts" : Str)
  na_Book_ears : NoAttr K (cls 0) "ears"
  fl0_3 : (flds 0)[3]? = some ("ears" : Str)
  na_Book_losses : NoAttr K (cls 0) "losses"
  fl0_4 : (flds 0)[4]? = some ("losses" : Str)
  na_Book_known : NoAttr K (cls 0) "known"
  fl0_5 : (flds 0)[5]? = some ("known" : Str)
  g_Book : mg "Book" = some (.ref (cls 0))
  nm_Book_all_lists : ("all_lists" : Str) ∉ flds 0
  nm_Book_deeds : ("deeds" : Str) ∉ flds 0
  nm_Book_hearings : ("hearings" : Str) ∉ flds 0
  nm_Book_houses : ("houses" : Str) ∉ flds 0
  nm_Book_lost : ("lost" : Str) ∉ flds 0
  nm_Book_stands : ("stands" : Str) ∉ flds 0
  ic0 : C8.InsC K (cls 0)
  nc0 : NotC K (cls 0)
  n_Book : Ne1 K (cls 0) "__eq__" "Book.__eq__" Hd.s0
  d_Book_init : Mk1 K mg (cls 0) "Book" "Book.__init__" Hd.s1
  d_Book_all_lists : Met1 K (cls 0) "all_lists" "Book.all_lists" Hd.s2
  d_Book_deeds : Met1 K (cls 0) "deeds" "Book.deeds" Hd.s3
  d_Book_hearings : Met1 K (cls 0) "hearings" "Book.hearings" Hd.s4
  d_Book_houses : Met1 K (cls 0) "houses" "Book.houses" Hd.s5
  d_Book_lost : Met1 K (cls 0) "lost" "Book.lost" Hd.s6
  d_Book_stands : Met1 K (cls 0) "stands" "Book.stands" Hd.s7
  d__law_book : Def1 K mg "_law_book" "_law_book" Hd.s8
  d__law_cell : Def1 K mg "_law_cell" "_law_cell" Hd.s9
  d__law_entry_drawn : Def1 K mg "_law_entry_drawn" "_law_entry_drawn" Hd.s10
  d__law_generator : Def1 K mg "_law_generator" "_law_generator" Hd.s11
  d__law_hash : Def1 K mg "_law_hash" "_law_hash" Hd.s12
  d__law_lines : Def1 K mg "_law_lines" "_law_lines" Hd.s13
  d__law_parts : Def1 K mg "_law_parts" "_law_parts" Hd.s14
  d__law_random : Def1 K mg "_law_random" "_law_random" Hd.s15
  d__law_spaced : Def1 K mg "_law_spaced" "_law_spaced" Hd.s16
  d_book_in : Def1 K mg "book_in" "book_in" Hd.s17
  d_check_book : Def1 K mg "check_book" "check_book" Hd.s18
  d_check_names : Def1 K mg "check_names" "check_names" Hd.s19
  d_check_size : Def1 K mg "check_size" "check_size" Hd.s20
  d_is_entry : Def1 K mg "is_entry" "is_entry" Hd.s21
  d_is_name : Def1 K mg "is_name" "is_name" Hd.s22
  d_is_one_of : Def1 K mg "is_one_of" "is_one_of" Hd.s23
  d_law : Def1 K mg "law" "law" Hd.s24
  d_read_book : Def1 K mg "read_book" "read_book" Hd.s25
  d_rows_in : Def1 K mg "rows_in" "rows_in" Hd.s26
  d_text_of : Def1 K mg "text_of" "text_of" Hd.s27
def bd_check_size : SM := (sIf (tOrD (tNotD (eTest (un (dIsiN "list") (eVar 0)))) (tNotD (eTest (eChain dLe dLe (eVar 1) (un dLen (eVar 0)) (eVar 2))))) sStuck sNext)
theorem sc_check_size : FnScope ["value", "least", "most"] ["value", "least", "most"] (defScope Hd.s20) := ⟨rfl, rfl, rfl, by decide +kernel, rfl, by decide +kernel, by decide +kernel⟩
def fn_check_size : PF := runP 3 0 bd_check_size
theorem ok_check_size {P : Program} {w : World} {K : PySem.W.Frag} {mg : Str → Option Value} {base : Heap} {cls : Nat → Addr} {flds : Nat → List Str} (g : Gf P w K mg base cls flds) (sf : Option Addr) : Fn P w K mg base 1 "check_size" (spF ⟨P, w, K, cls, flds, sf, none⟩ (pureF fn_check_size)) := g.d_check_size.fn (fun f fd F => F.bindsN (ps := ["value", "least", "most"]) fun _ _ _ _ _ _ us hl => match us, hl with | [_, _, _], _ => rfl) fun f fd F => fn_p (W := ⟨P, w, K, cls, flds, sf, none⟩) F sc_check_size rfl rfl fun cdv A outer s H vs E hr => by
  have o : Okx ⟨P, w, K, cls, flds, sf, none⟩ (cxOf CX0 P w K mg base ["value", "least", "most"] "check_size" (defScope Hd.s20) f cdv A outer s H E).nox := ⟨rfl, rfl, rfl, u65 hr, rfl, sc_check_size.nd⟩
  have nd := sc_check_size.nd
  exact (zsOne (zIf (s := false) ((zOrT (zNotT (zTest (zIsi "list" o (by rfl) g.f_isinstance (by rfl) g.f_list (by rfl) (by decide +kernel) (bZ (zVar 0))))) (zOr1 (zNotT (zChainT ob_le ob_le op_le op_le (zVar 1) (zCallB ub_len (c_len o) (by rfl) g.f_len PySem.boot_len (bZ (zVar 0))) (zVar 2)))))).pt (zsOne zNever) zsNil))
def bd_is_name : SM := (seqS (sIf (tOrD (tNotD (eTest (un (dIsiN "str") (eVar 0)))) (tNotD (eTest (eChain dLe dLe (eC (.int 1)) (un dLen (eVar 0)) (eC (.int 8)))))) (sRet (eC (.bl false))) sNext)
  (sRet (bin dEqA (frzE (eLc (itStr (eVar 0)) (gN 1) (eTest (bin dNotInA (eVar 1) (eC (.str "abcdefghijklmnopqrstuvwxyz")))) (eVar 1) [1])) (eLst aNil))))
theorem sc_is_name : FnScope ["value", "letter"] ["value"] (defScope Hd.s22) := ⟨rfl, rfl, rfl, by decide +kernel, rfl, by decide +kernel, by decide +kernel⟩
def fn_is_name : PF := runP 1 1 bd_is_name
theorem ok_is_name {P : Program} {w : World} {K : PySem.W.Frag} {mg : Str → Option Value} {base : Heap} {cls : Nat → Addr} {flds : Nat → List Str} (g : Gf P w K mg base cls flds) (sf : Option Addr) : Fn P w K mg base 1 "is_name" (spF ⟨P, w, K, cls, flds, sf, none⟩ (pureF fn_is_name)) := g.d_is_name.fn (fun f fd F => F.bindsN (ps := ["value"]) fun _ _ _ _ _ _ us hl => match us, hl with | [_], _ => rfl) fun f fd F => fn_p (W := ⟨P, w, K, cls, flds, sf, none⟩) F sc_is_name rfl rfl fun cdv A outer s H vs E hr => by
  have o : Okx ⟨P, w, K, cls, flds, sf, none⟩ (cxOf CX0 P w K mg base ["value", "letter"] "is_name" (defScope Hd.s22) f cdv A outer s H E).nox := ⟨rfl, rfl, rfl, u65 hr, rfl, sc_is_name.nd⟩
  have nd := sc_is_name.nd
  exact (zsCons (zIf (s := false) ((zOrT (zNotT (zTest (zIsi "str" o (by rfl) g.f_isinstance (by rfl) g.f_str (by rfl) (by decide +kernel) (bZ (zVar 0))))) (zOr1 (zNotT (zChainT ob_le ob_le op_le op_le zInt (zCallB ub_len (c_len o) (by rfl) g.f_len PySem.boot_len (bZ (zVar 0))) (zGInt g.c_MOST_LETTERS.ex.choose_spec)))))).pt (zsOne (vRet (s := false) (vZ zBl))) zsNil)
  (zsOne (vRet (s := false) (vZ (fCmp ob_eqA (r_eqA o) (zV (oLc [("letter", 1)] o (ziStr (zVar 0)) (blkOk_by (N := ["value", "letter"]) (sc := defScope Hd.s22) (by decide +kernel)) (fun _ _ _ _ _ => (zgN 1 nd)) (fun _ _ _ _ _ => (ztOne (fCmpT ob_notInA (r_notInA o.blk) (zVar 1) (bZ (zGStr g.c_LETTERS.ex.choose_spec))))) (fun _ _ _ _ _ => (vZ (zVar 1))))) (bV (oLst zaNil)))))))
def bd_check_names : SM := (sFor (itEnum (eVar 0)) (gT 2 (gsCons (gN 2) (gsCons (gN 3) gsNil))) (sIf (tOrD (tNotD (eTest (frzA (eCall (pureF fn_is_name) (aCons (eVar 3) aNil))))) (tOrD (eTest (bin dInA (eVar 3) (eSl dSlA (eVar 0) pN (pS (eVar 2))))) (eTest (bin dInA (eVar 3) (eVar 1))))) sStuck sNext))
theorem sc_check_names : FnScope ["value", "others", "at", "item"] ["value", "others"] (defScope Hd.s19) := ⟨rfl, rfl, rfl, by decide +kernel, rfl, by decide +kernel, by decide +kernel⟩
def fn_check_names : PF := runP 2 2 bd_check_names
theorem ok_check_names {P : Program} {w : World} {K : PySem.W.Frag} {mg : Str → Option Value} {base : Heap} {cls : Nat → Addr} {flds : Nat → List Str} (g : Gf P w K mg base cls flds) (sf : Option Addr) : Fn P w K mg base 2 "check_names" (spF ⟨P, w, K, cls, flds, sf, none⟩ (pureF fn_check_names)) := g.d_check_names.fn (fun f fd F => F.bindsN (ps := ["value", "others"]) fun _ _ _ _ _ _ us hl => match us, hl with | [_, _], _ => rfl) fun f fd F => fn_p (W := ⟨P, w, K, cls, flds, sf, none⟩) F sc_check_names rfl rfl fun cdv A outer s H vs E hr => by
  have o : Okx ⟨P, w, K, cls, flds, sf, none⟩ (cxOf CX0 P w K mg base ["value", "others", "at", "item"] "check_names" (defScope Hd.s19) f cdv A outer s H E).nox := ⟨rfl, rfl, rfl, u65 hr, rfl, sc_check_names.nd⟩
  have nd := sc_check_names.nd
  exact (zsOne (zFor [2, 3] PassesOwn.never o (ziEnum o (by rfl) g.f_enumerate (zVar 0)) (zgT o.K o.c (zgsCons (zgN 2 nd) (zgsCons (zgN 3 nd) zgsNil))) (zsOne (zIf (s := false) ((zOrT (zNotT (zTest (zVA (vCall (ok_is_name g sf) (hr.mono (by decide)) (zaCons (zVar 3) zaNil))))) (zOrT (fCmpT ob_inA (r_inA o) (zVar 3) (bV (vSlA o (zVar 0) zpN (zpS (zVar 2))))) (zOr1 (fCmpT ob_inA (r_inA o) (zVar 3) (bZ (zVar 1))))))).pt (zsOne zNever) zsNil))))
def bd_is_one_of : SM := (sRet (eAnd (un (dIsiN "str") (eVar 0)) (bin dInA (eVar 0) (eVar 1))))
theorem sc_is_one_of : FnScope ["value", "names"] ["value", "names"] (defScope Hd.s23) := ⟨rfl, rfl, rfl, by decide +kernel, rfl, by decide +kernel, by decide +kernel⟩
def fn_is_one_of : PF := runP 2 0 bd_is_one_of
theorem ok_is_one_of {P : Program} {w : World} {K : PySem.W.Frag} {mg : Str → Option Value} {base : Heap} {cls : Nat → Addr} {flds : Nat → List Str} (g : Gf P w K mg base cls flds) (sf : Option Addr) : Fn P w K mg base 1 "is_one_of" (spF ⟨P, w, K, cls, flds, sf, none⟩ (pureF fn_is_one_of)) := g.d_is_one_of.fn (fun f fd F => F.bindsN (ps := ["value", "names"]) fun _ _ _ _ _ _ us hl => match us, hl with | [_, _], _ => rfl) fun f fd F => fn_p (W := ⟨P, w, K, cls, flds, sf, none⟩) F sc_is_one_of rfl rfl fun cdv A outer s H vs E hr => by
  have o : Okx ⟨P, w, K, cls, flds, sf, none⟩ (cxOf CX0 P w K mg base ["value", "names"] "is_one_of" (defScope Hd.s23) f cdv A outer s H E).nox := ⟨rfl, rfl, rfl, u65 hr, rfl, sc_is_one_of.nd⟩
  have nd := sc_is_one_of.nd
  exact (zsOne (vRet (s := false) (vZ (zAndV (zIsi "str" o (by rfl) g.f_isinstance (by rfl) g.f_str (by rfl) (by decide +kernel) (bZ (zVar 0))) (zAnd1V (fCmp ob_inA (r_inA o) (zVar 0) (bZ (zVar 1))))))))
def bd_is_entry : SM := (seqS (sIf (tOrD (tNotD (eTest (un (dIsiN "tuple") (eVar 0)))) (eTest (bin dNeA (un dLen (eVar 0)) (eC (.int 3))))) (sRet (eC (.bl false))) sNext)
  (seqS (sFor (itSeq (frzE (eLst (aCons (eVar 1) (aCons (eVar 2) aNil))))) (gN 3) (sIf (tAndD (eTest (frzA (eCall (pureF fn_is_one_of) (aCons (bin dIxA (eVar 0) (eC (.int 0))) (aCons (eVar 3) aNil))))) (eTest (frzA (eCall (pureF fn_is_one_of) (aCons (bin dIxA (eVar 0) (eC (.int 2))) (aCons (eVar 3) aNil)))))) (sRet (eC (.bl true))) sNext))
  (sRet (eC (.bl false)))))
theorem sc_is_entry : FnScope ["value", "houses", "stands", "names"] ["value", "houses", "stands"] (defScope Hd.s21) := ⟨rfl, rfl, rfl, by decide +kernel, rfl, by decide +kernel, by decide +kernel⟩
def fn_is_entry : PF := runP 3 1 bd_is_entry
theorem ok_is_entry {P : Program} {w : World} {K : PySem.W.Frag} {mg : Str → Option Value} {base : Heap} {cls : Nat → Addr} {flds : Nat → List Str} (g : Gf P w K mg base cls flds) (sf : Option Addr) : Fn P w K mg base 2 "is_entry" (spF ⟨P, w, K, cls, flds, sf, none⟩ (pureF fn_is_entry)) := g.d_is_entry.fn (fun f fd F => F.bindsN (ps := ["value", "houses", "stands"]) fun _ _ _ _ _ _ us hl => match us, hl with | [_, _, _], _ => rfl) fun f fd F => fn_p (W := ⟨P, w, K, cls, flds, sf, none⟩) F sc_is_entry rfl rfl fun cdv A outer s H vs E hr => by
  have o : Okx ⟨P, w, K, cls, flds, sf, none⟩ (cxOf CX0 P w K mg base ["value", "houses", "stands", "names"] "is_entry" (defScope Hd.s21) f cdv A outer s H E).nox := ⟨rfl, rfl, rfl, u65 hr, rfl, sc_is_entry.nd⟩
  have nd := sc_is_entry.nd
  exact (zsCons (zIf (s := false) ((zOrT (zNotT (zTest (zIsi "tuple" o (by rfl) g.f_isinstance (by rfl) g.f_tuple (by rfl) (by decide +kernel) (bZ (zVar 0))))) (zOr1 (fCmpT ob_neA (r_neA o) (zCallB ub_len (c_len o) (by rfl) g.f_len PySem.boot_len (bZ (zVar 0))) (bZ zInt))))).pt (zsOne (vRet (s := false) (vZ zBl))) zsNil)
  (zsCons (zFor [3] PassesOwn.never o (ziSeq o (zV (oLst (zaCons (zVar 1) (zaCons (zVar 2) zaNil))))) (zgN 3 nd) (zsOne (zIf (s := false) ((zAndT (zTest (zVA (vCall (ok_is_one_of g sf) (hr.mono (by decide)) (zaCons (fIx ob_ixA (r_ixA o) (zVar 0) (bZ zInt)) (zaCons (zVar 3) zaNil))))) (zAnd1 (zTest (zVA (vCall (ok_is_one_of g sf) (hr.mono (by decide)) (zaCons (fIx ob_ixA (r_ixA o) (zVar 0) (bZ zInt)) (zaCons (zVar 3) zaNil)))))))).pt (zsOne (vRet (s := false) (vZ zBl))) zsNil)))
  (zsOne (vRet (s := false) (vZ zBl)))))
def bd_Book_init : SM := (seqS (sExpr (frzA (eCall (pureF fn_check_size) (aCons (eVar 1) (aCons (eC (.int 1)) (aCons (eC (.int 3)) aNil))))))
  (seqS (sExpr (frzA (eCall (pureF fn_check_names) (aCons (eVar 1) (aCons (frzE (eLst aNil)) aNil)))))
  (seqS (sExpr (frzA (eCall (pureF fn_check_size) (aCons (eVar 2) (aCons (eC (.int 1)) (aCons (eC (.int 4)) aNil))))))
  (seqS (sExpr (frzA (eCall (pureF fn_check_names) (aCons (eVar 2) (aCons (eVar 1) aNil)))))
  (seqS (sExpr (frzA (eCall (pureF fn_check_size) (aCons (eVar 3) (aCons (eC (.int 0)) (aCons (eC (.int 10)) aNil))))))
  (seqS (sFor (itSeq (eVar 3)) (gN 6) (sIf (tOrD (tNotD (eTest (frzA (eCall (pureF fn_is_entry) (aCons (eVar 6) (aCons (eVar 1) (aCons (eVar 2) aNil))))))) (tAndD (eTest (bin dNotN (bin dIxA (eVar 6) (eC (.int 1))) (eC .non))) (tNotD (eTest (frzA (eCall (pureF fn_is_name) (aCons (bin dIxA (eVar 6) (eC (.int 1))) aNil))))))) sStuck sNext))
  (seqS (sExpr (frzA (eCall (pureF fn_check_size) (aCons (eVar 4) (aCons (eC (.int 0)) (aCons (eC (.int 12)) aNil))))))
  (seqS (sAsg eDix (gN 7))
  (seqS (sFor (itSeq (eVar 4)) (gN 6) (seqS (sIf (tOrD (tNotD (eTest (frzA (eCall (pureF fn_is_entry) (aCons (eVar 6) (aCons (eVar 1) (aCons (eVar 2) aNil))))))) (tOrD (tNotD (eTest (frzA (eCall (pureF fn_is_name) (aCons (bin dIxA (eVar 6) (eC (.int 1))) aNil))))) (eTest (bin dInA (frzE (eSl dSlA (eVar 6) pN (pS (eC (.int 2))))) (eBor 7))))) sStuck sNext)
  (sSetA 7 (frzE (eSl dSlA (eVar 6) pN (pS (eC (.int 2))))) (bin dIxA (eVar 6) (eC (.int 2))))))
  (seqS (sExpr (frzA (eCall (pureF fn_check_size) (aCons (eVar 5) (aCons (eC (.int 0)) (aCons (eC (.int 4)) aNil))))))
  (seqS (sExpr (frzA (eCall (pureF fn_check_names) (aCons (eVar 5) (aCons (frzE (eLst aNil)) aNil)))))
  (seqS (sSelf 0 0 0 (un dTupleX (eVar 1)))
  (seqS (sSelf 0 0 1 (un dTupleX (eVar 2)))
  (seqS (sSelf 0 0 2 (un dTupleX (eVar 3)))
  (seqS (sSelf 0 0 3 (un dTupleX (eVar 4)))
  (seqS (sSelf 0 0 4 (un dTupleX (eVar 5)))
  (sSelf 0 0 5 (eMove 7))))))))))))))))))
theorem sc_Book_init : FnScope ["self", "houses", "stands", "deeds", "hearings", "lost", "item", "known"] ["self", "houses", "stands", "deeds", "hearings", "lost"] (defScope Hd.s1) := ⟨rfl, rfl, rfl, by decide +kernel, rfl, by decide +kernel, by decide +kernel⟩
def in_Book : IF := runI 0 5 2 bd_Book_init
theorem mk_Book {P : Program} {w : World} {K : PySem.W.Frag} {mg : Str → Option Value} {base : Heap} {cls : Nat → Addr} {flds : Nat → List Str} (g : Gf P w K mg base cls flds) (sf : Option Addr) : Mkc P w K mg base 3 (cls 0) "Book" (spI ⟨P, w, K, cls, flds, sf, none⟩ 0 in_Book) := by
  obtain ⟨f, fd, h1, h2, F⟩ := g.d_Book_init.ex
  exact ⟨f, fd, ["self", "houses", "stands", "deeds", "hearings", "lost"], h1, (fn_i (W := ⟨P, w, K, cls, flds, sf, none⟩) F sc_Book_init rfl rfl fun x cdv A outer s H vs E hr => by
      have o : Okx ⟨P, w, K, cls, flds, some x, none⟩ (cxOf CX0 P w K mg base ["self", "houses", "stands", "deeds", "hearings", "lost", "item", "known"] "Book.__init__" (defScope Hd.s1) f cdv A outer s H E).nox := ⟨rfl, rfl, rfl, u65 hr, rfl, sc_Book_init.nd⟩
      have nd := sc_Book_init.nd
      exact (zsCons (zExpr (s := false) (zVA (vCall (ok_check_size g (some x)) (hr.mono (by decide)) (zaCons (zVar 1) (zaCons zInt (zaCons (zGInt g.c_MOST_HOUSES.ex.choose_spec) zaNil))))))
      (zsCons (zExpr (s := false) (zVA (vCall (ok_check_names g (some x)) (hr.mono (by decide)) (zaCons (zVar 1) (zaCons (zV (oLst zaNil)) zaNil)))))
      (zsCons (zExpr (s := false) (zVA (vCall (ok_check_size g (some x)) (hr.mono (by decide)) (zaCons (zVar 2) (zaCons zInt (zaCons (zGInt g.c_MOST_STANDS.ex.choose_spec) zaNil))))))
      (zsCons (zExpr (s := false) (zVA (vCall (ok_check_names g (some x)) (hr.mono (by decide)) (zaCons (zVar 2) (zaCons (zVar 1) zaNil)))))
      (zsCons (zExpr (s := false) (zVA (vCall (ok_check_size g (some x)) (hr.mono (by decide)) (zaCons (zVar 3) (zaCons zInt (zaCons (zGInt g.c_MOST_DEEDS.ex.choose_spec) zaNil))))))
      (zsCons (zFor [6] PassesOwn.never o (ziSeq o (zVar 3)) (zgN 6 nd) (zsOne (zIf (s := false) ((zOrT (zNotT (zTest (zVA (vCall (ok_is_entry g (some x)) (hr.mono (by decide)) (zaCons (zVar 6) (zaCons (zVar 1) (zaCons (zVar 2) zaNil))))))) (zOr1 ((zAndT (fCmpT ob_notN op_notN (fIx ob_ixA (r_ixA o) (zVar 6) (bZ zInt)) (bZ zNon)) (zAnd1 (zNotT (zTest (zVA (vCall (ok_is_name g (some x)) (hr.mono (by decide)) (zaCons (fIx ob_ixA (r_ixA o) (zVar 6) (bZ zInt)) zaNil)))))))).pt))).pt (zsOne zNever) zsNil)))
      (zsCons (zExpr (s := false) (zVA (vCall (ok_check_size g (some x)) (hr.mono (by decide)) (zaCons (zVar 4) (zaCons zInt (zaCons (zGInt g.c_MOST_HEARINGS.ex.choose_spec) zaNil))))))
      (zsCons (vSet (s := false) 7 nd vDix)
      (zsCons (zFor [6] PassesOwn.never o (ziSeq o (zVar 4)) (zgN 6 nd) (zsCons (zIf (s := false) ((zOrT (zNotT (zTest (zVA (vCall (ok_is_entry g (some x)) (hr.mono (by decide)) (zaCons (zVar 6) (zaCons (zVar 1) (zaCons (zVar 2) zaNil))))))) (zOrT (zNotT (zTest (zVA (vCall (ok_is_name g (some x)) (hr.mono (by decide)) (zaCons (fIx ob_ixA (r_ixA o) (zVar 6) (bZ zInt)) zaNil))))) (zOr1 (fCmpT ob_inA (r_inA o) (zV (vSlA o (zVar 6) zpN (zpS zInt))) (bVar 7)))))).pt (zsOne zNever) zsNil)
      (zsOne (zSetA 7 o (hx := (fIx ob_ixA (r_ixA o) (zVar 6) (bZ zInt))) (hi := (zV (vSlA o (zVar 6) zpN (zpS zInt))))))))
      (zsCons (zExpr (s := false) (zVA (vCall (ok_check_size g (some x)) (hr.mono (by decide)) (zaCons (zVar 5) (zaCons zInt (zaCons (zGInt g.c_MOST_LOST.ex.choose_spec) zaNil))))))
      (zsCons (zExpr (s := false) (zVA (vCall (ok_check_names g (some x)) (hr.mono (by decide)) (zaCons (zVar 5) (zaCons (zV (oLst zaNil)) zaNil)))))
      (zsCons (zSelfSet 0 0 0 o g.cl0 g.na_Book_homes g.nd0 (vZ (zCallT ub_tupleX (c_tupleX o) (by rfl) g.f_tuple PyProof.Rows.boot_tuple (bZ (zVar 1)))) (by decide) (hf := g.fl0_0))
      (zsCons (zSelfSet 0 0 1 o g.cl0 g.na_Book_places g.nd0 (vZ (zCallT ub_tupleX (c_tupleX o) (by rfl) g.f_tuple PyProof.Rows.boot_tuple (bZ (zVar 2)))) (by decide) (hf := g.fl0_1))
      (zsCons (zSelfSet 0 0 2 o g.cl0 g.na_Book_acts g.nd0 (vZ (zCallT ub_tupleX (c_tupleX o) (by rfl) g.f_tuple PyProof.Rows.boot_tuple (bZ (zVar 3)))) (by decide) (hf := g.fl0_2))
      (zsCons (zSelfSet 0 0 3 o g.cl0 g.na_Book_ears g.nd0 (vZ (zCallT ub_tupleX (c_tupleX o) (by rfl) g.f_tuple PyProof.Rows.boot_tuple (bZ (zVar 4)))) (by decide) (hf := g.fl0_3))
      (zsCons (zSelfSet 0 0 4 o g.cl0 g.na_Book_losses g.nd0 (vZ (zCallT ub_tupleX (c_tupleX o) (by rfl) g.f_tuple PyProof.Rows.boot_tuple (bZ (zVar 5)))) (by decide) (hf := g.fl0_4))
      (zsOne (zSelfSet 0 0 5 o g.cl0 g.na_Book_known g.nd0 (vMove 7) (by decide) (hf := g.fl0_5)))))))))))))))))))), h2, (F.bindsN (ps := ["self", "houses", "stands", "deeds", "hearings", "lost"]) fun _ _ _ _ _ _ us hl => match us, hl with | [_, _, _, _, _, _], _ => rfl)⟩
def bd_Book_all_lists : SM := (sRet (eTup (aCons (eFld 0 0 (eVar 0)) (aCons (eFld 0 1 (eVar 0)) (aCons (eFld 0 2 (eVar 0)) (aCons (eFld 0 3 (eVar 0)) (aCons (eFld 0 4 (eVar 0)) aNil)))))))
theorem sc_Book_all_lists : FnScope ["self"] ["self"] (defScope Hd.s2) := ⟨rfl, rfl, rfl, by decide +kernel, rfl, by decide +kernel, by decide +kernel⟩
def fn_Book_all_lists : PF := runP 1 0 bd_Book_all_lists
theorem ok_Book_all_lists {P : Program} {w : World} {K : PySem.W.Frag} {mg : Str → Option Value} {base : Heap} {cls : Nat → Addr} {flds : Nat → List Str} (g : Gf P w K mg base cls flds) (sf : Option Addr) : Mt P w K mg base 1 (cls 0) "all_lists" (spF ⟨P, w, K, cls, flds, sf, none⟩ (pureF fn_Book_all_lists)) := g.d_Book_all_lists.fn (fun f fd F => F.bindsN (ps := ["self"]) fun _ _ _ _ _ _ us hl => match us, hl with | [_], _ => rfl) fun f fd F => fn_p (W := ⟨P, w, K, cls, flds, sf, none⟩) F sc_Book_all_lists rfl rfl fun cdv A outer s H vs E hr => by
  have o : Okx ⟨P, w, K, cls, flds, sf, none⟩ (cxOf CX0 P w K mg base ["self"] "Book.all_lists" (defScope Hd.s2) f cdv A outer s H E).nox := ⟨rfl, rfl, rfl, u65 hr, rfl, sc_Book_all_lists.nd⟩
  have nd := sc_Book_all_lists.nd
  exact (zsOne (vRet (s := false) (vZ (zTup (zaCons (zFld 0 0 o g.cl0 g.na_Book_homes g.nd0 (zVar 0) (hf := g.fl0_0)) (zaCons (zFld 0 1 o g.cl0 g.na_Book_places g.nd0 (zVar 0) (hf := g.fl0_1)) (zaCons (zFld 0 2 o g.cl0 g.na_Book_acts g.nd0 (zVar 0) (hf := g.fl0_2)) (zaCons (zFld 0 3 o g.cl0 g.na_Book_ears g.nd0 (zVar 0) (hf := g.fl0_3)) (zaCons (zFld 0 4 o g.cl0 g.na_Book_losses g.nd0 (zVar 0) (hf := g.fl0_4)) zaNil)))))))))
def bd_Book___eq__ : SM := (sRet (eAnd (un (dIsC 0) (eVar 1)) (bin dEqA (frzA (eMeth 0 (pureF fn_Book_all_lists) (eVar 0) aNil)) (eMeth 0 (pureF fn_Book_all_lists) (eVar 1) aNil))))
theorem sc_Book___eq__ : FnScope ["self", "other"] ["self", "other"] (defScope Hd.s0) := ⟨rfl, rfl, rfl, by decide +kernel, rfl, by decide +kernel, by decide +kernel⟩
def fn_Book___eq__ : PF := runP 2 0 bd_Book___eq__
theorem ne_Book {P : Program} {w : World} {K : PySem.W.Frag} {mg : Str → Option Value} {base : Heap} {cls : Nat → Addr} {flds : Nat → List Str} (g : Gf P w K mg base cls flds) (sf : Option Addr) : NeF P w K mg base 2 (cls 0) (spF ⟨P, w, K, cls, flds, sf, none⟩ (pureF fn_Book___eq__)) := g.n_Book.fn (fun f fd F => F.bindsN (ps := ["self", "other"]) fun _ _ _ _ _ _ us hl => match us, hl with | [_, _], _ => rfl) fun f fd F => fn_p (W := ⟨P, w, K, cls, flds, sf, none⟩) F sc_Book___eq__ rfl rfl fun cdv A outer s H vs E hr => by
  have o : Okx ⟨P, w, K, cls, flds, sf, none⟩ (cxOf CX0 P w K mg base ["self", "other"] "Book.__eq__" (defScope Hd.s0) f cdv A outer s H E).nox := ⟨rfl, rfl, rfl, u65 hr, rfl, sc_Book___eq__.nd⟩
  have nd := sc_Book___eq__.nd
  exact (zsOne (vRet (s := false) (vZ (zAndV (zIsC 0 o (by rfl) g.f_isinstance (by rfl) g.g_Book g.ic0 g.nc0 (bZ (zVar 1))) (zAnd1V (fCmp ob_eqA (r_eqA o) (zVA (vMeth0 0 o (ok_Book_all_lists g sf) (hr.mono (by decide)) (zVar 0) g.nm_Book_all_lists)) (bV (vMeth0 0 o (ok_Book_all_lists g sf) (hr.mono (by decide)) (zVar 1) g.nm_Book_all_lists))))))))
def bd_Book_deeds : SM := (sRet (un dList (eFld 0 2 (eVar 0))))
theorem sc_Book_deeds : FnScope ["self"] ["self"] (defScope Hd.s3) := ⟨rfl, rfl, rfl, by decide +kernel, rfl, by decide +kernel, by decide +kernel⟩
def fn_Book_deeds : PF := runP 1 0 bd_Book_deeds
theorem ok_Book_deeds {P : Program} {w : World} {K : PySem.W.Frag} {mg : Str → Option Value} {base : Heap} {cls : Nat → Addr} {flds : Nat → List Str} (g : Gf P w K mg base cls flds) (sf : Option Addr) : Mt P w K mg base 1 (cls 0) "deeds" (spF ⟨P, w, K, cls, flds, sf, none⟩ (pureF fn_Book_deeds)) := g.d_Book_deeds.fn (fun f fd F => F.bindsN (ps := ["self"]) fun _ _ _ _ _ _ us hl => match us, hl with | [_], _ => rfl) fun f fd F => fn_p (W := ⟨P, w, K, cls, flds, sf, none⟩) F sc_Book_deeds rfl rfl fun cdv A outer s H vs E hr => by
  have o : Okx ⟨P, w, K, cls, flds, sf, none⟩ (cxOf CX0 P w K mg base ["self"] "Book.deeds" (defScope Hd.s3) f cdv A outer s H E).nox := ⟨rfl, rfl, rfl, u65 hr, rfl, sc_Book_deeds.nd⟩
  have nd := sc_Book_deeds.nd
  exact (zsOne (vRet (s := false) (vCallT ub_list (c_list o) (by rfl) g.f_list PyProof.Rows.boot_list (bZ (zFld 0 2 o g.cl0 g.na_Book_acts g.nd0 (zVar 0) (hf := g.fl0_2))))))
def bd_Book_hearings : SM := (sRet (un dList (eFld 0 3 (eVar 0))))
theorem sc_Book_hearings : FnScope ["self"] ["self"] (defScope Hd.s4) := ⟨rfl, rfl, rfl, by decide +kernel, rfl, by decide +kernel, by decide +kernel⟩
def fn_Book_hearings : PF := runP 1 0 bd_Book_hearings
theorem ok_Book_hearings {P : Program} {w : World} {K : PySem.W.Frag} {mg : Str → Option Value} {base : Heap} {cls : Nat → Addr} {flds : Nat → List Str} (g : Gf P w K mg base cls flds) (sf : Option Addr) : Mt P w K mg base 1 (cls 0) "hearings" (spF ⟨P, w, K, cls, flds, sf, none⟩ (pureF fn_Book_hearings)) := g.d_Book_hearings.fn (fun f fd F => F.bindsN (ps := ["self"]) fun _ _ _ _ _ _ us hl => match us, hl with | [_], _ => rfl) fun f fd F => fn_p (W := ⟨P, w, K, cls, flds, sf, none⟩) F sc_Book_hearings rfl rfl fun cdv A outer s H vs E hr => by
  have o : Okx ⟨P, w, K, cls, flds, sf, none⟩ (cxOf CX0 P w K mg base ["self"] "Book.hearings" (defScope Hd.s4) f cdv A outer s H E).nox := ⟨rfl, rfl, rfl, u65 hr, rfl, sc_Book_hearings.nd⟩
  have nd := sc_Book_hearings.nd
  exact (zsOne (vRet (s := false) (vCallT ub_list (c_list o) (by rfl) g.f_list PyProof.Rows.boot_list (bZ (zFld 0 3 o g.cl0 g.na_Book_ears g.nd0 (zVar 0) (hf := g.fl0_3))))))
def bd_Book_houses : SM := (sRet (un dList (eFld 0 0 (eVar 0))))
theorem sc_Book_houses : FnScope ["self"] ["self"] (defScope Hd.s5) := ⟨rfl, rfl, rfl, by decide +kernel, rfl, by decide +kernel, by decide +kernel⟩
def fn_Book_houses : PF := runP 1 0 bd_Book_houses
theorem ok_Book_houses {P : Program} {w : World} {K : PySem.W.Frag} {mg : Str → Option Value} {base : Heap} {cls : Nat → Addr} {flds : Nat → List Str} (g : Gf P w K mg base cls flds) (sf : Option Addr) : Mt P w K mg base 1 (cls 0) "houses" (spF ⟨P, w, K, cls, flds, sf, none⟩ (pureF fn_Book_houses)) := g.d_Book_houses.fn (fun f fd F => F.bindsN (ps := ["self"]) fun _ _ _ _ _ _ us hl => match us, hl with | [_], _ => rfl) fun f fd F => fn_p (W := ⟨P, w, K, cls, flds, sf, none⟩) F sc_Book_houses rfl rfl fun cdv A outer s H vs E hr => by
  have o : Okx ⟨P, w, K, cls, flds, sf, none⟩ (cxOf CX0 P w K mg base ["self"] "Book.houses" (defScope Hd.s5) f cdv A outer s H E).nox := ⟨rfl, rfl, rfl, u65 hr, rfl, sc_Book_houses.nd⟩
  have nd := sc_Book_houses.nd
  exact (zsOne (vRet (s := false) (vCallT ub_list (c_list o) (by rfl) g.f_list PyProof.Rows.boot_list (bZ (zFld 0 0 o g.cl0 g.na_Book_homes g.nd0 (zVar 0) (hf := g.fl0_0))))))
def bd_Book_lost : SM := (sRet (un dList (eFld 0 4 (eVar 0))))
theorem sc_Book_lost : FnScope ["self"] ["self"] (defScope Hd.s6) := ⟨rfl, rfl, rfl, by decide +kernel, rfl, by decide +kernel, by decide +kernel⟩
def fn_Book_lost : PF := runP 1 0 bd_Book_lost
theorem ok_Book_lost {P : Program} {w : World} {K : PySem.W.Frag} {mg : Str → Option Value} {base : Heap} {cls : Nat → Addr} {flds : Nat → List Str} (g : Gf P w K mg base cls flds) (sf : Option Addr) : Mt P w K mg base 1 (cls 0) "lost" (spF ⟨P, w, K, cls, flds, sf, none⟩ (pureF fn_Book_lost)) := g.d_Book_lost.fn (fun f fd F => F.bindsN (ps := ["self"]) fun _ _ _ _ _ _ us hl => match us, hl with | [_], _ => rfl) fun f fd F => fn_p (W := ⟨P, w, K, cls, flds, sf, none⟩) F sc_Book_lost rfl rfl fun cdv A outer s H vs E hr => by
  have o : Okx ⟨P, w, K, cls, flds, sf, none⟩ (cxOf CX0 P w K mg base ["self"] "Book.lost" (defScope Hd.s6) f cdv A outer s H E).nox := ⟨rfl, rfl, rfl, u65 hr, rfl, sc_Book_lost.nd⟩
  have nd := sc_Book_lost.nd
  exact (zsOne (vRet (s := false) (vCallT ub_list (c_list o) (by rfl) g.f_list PyProof.Rows.boot_list (bZ (zFld 0 4 o g.cl0 g.na_Book_losses g.nd0 (zVar 0) (hf := g.fl0_4))))))
def bd_Book_stands : SM := (sRet (un dList (eFld 0 1 (eVar 0))))
theorem sc_Book_stands : FnScope ["self"] ["self"] (defScope Hd.s7) := ⟨rfl, rfl, rfl, by decide +kernel, rfl, by decide +kernel, by decide +kernel⟩
def fn_Book_stands : PF := runP 1 0 bd_Book_stands
theorem ok_Book_stands {P : Program} {w : World} {K : PySem.W.Frag} {mg : Str → Option Value} {base : Heap} {cls : Nat → Addr} {flds : Nat → List Str} (g : Gf P w K mg base cls flds) (sf : Option Addr) : Mt P w K mg base 1 (cls 0) "stands" (spF ⟨P, w, K, cls, flds, sf, none⟩ (pureF fn_Book_stands)) := g.d_Book_stands.fn (fun f fd F => F.bindsN (ps := ["self"]) fun _ _ _ _ _ _ us hl => match us, hl with | [_], _ => rfl) fun f fd F => fn_p (W := ⟨P, w, K, cls, flds, sf, none⟩) F sc_Book_stands rfl rfl fun cdv A outer s H vs E hr => by
  have o : Okx ⟨P, w, K, cls, flds, sf, none⟩ (cxOf CX0 P w K mg base ["self"] "Book.stands" (defScope Hd.s7) f cdv A outer s H E).nox := ⟨rfl, rfl, rfl, u65 hr, rfl, sc_Book_stands.nd⟩
  have nd := sc_Book_stands.nd
  exact (zsOne (vRet (s := false) (vCallT ub_list (c_list o) (by rfl) g.f_list PyProof.Rows.boot_list (bZ (zFld 0 1 o g.cl0 g.na_Book_places g.nd0 (zVar 0) (hf := g.fl0_1))))))
def bd__law_book : SM := (sRet (eCall (pureF (mkP 0 6 in_Book)) (aCons (frzE (un dList (bin dIxA (eVar 0) (eC (.int 0))))) (aCons (frzE (un dList (bin dIxA (eVar 0) (eC (.int 1))))) (aCons (frzE (un dList (bin dIxA (eVar 0) (eC (.int 2))))) (aCons (frzE (un dList (bin dIxA (eVar 0) (eC (.int 3))))) (aCons (frzE (un dList (bin dIxA (eVar 0) (eC (.int 4))))) aNil)))))))
theorem sc__law_book : FnScope ["_law_parts_here"] ["_law_parts_here"] (defScope Hd.s8) := ⟨rfl, rfl, rfl, by decide +kernel, rfl, by decide +kernel, by decide +kernel⟩
def fn__law_book : PF := runP 1 0 bd__law_book
theorem ok__law_book {P : Program} {w : World} {K : PySem.W.Frag} {mg : Str → Option Value} {base : Heap} {cls : Nat → Addr} {flds : Nat → List Str} (g : Gf P w K mg base cls flds) (sf : Option Addr) : Fn P w K mg base 5 "_law_book" (spF ⟨P, w, K, cls, flds, sf, none⟩ (pureF fn__law_book)) := g.d__law_book.fn (fun f fd F => F.bindsN (ps := ["_law_parts_here"]) fun _ _ _ _ _ _ us hl => match us, hl with | [_], _ => rfl) fun f fd F => fn_p (W := ⟨P, w, K, cls, flds, sf, none⟩) F sc__law_book rfl rfl fun cdv A outer s H vs E hr => by
  have o : Okx ⟨P, w, K, cls, flds, sf, none⟩ (cxOf CX0 P w K mg base ["_law_parts_here"] "_law_book" (defScope Hd.s8) f cdv A outer s H E).nox := ⟨rfl, rfl, rfl, u65 hr, rfl, sc__law_book.nd⟩
  have nd := sc__law_book.nd
  exact (zsOne (vRet (s := false) (vZ (zMake (mk_Book g sf) g.nf0 (hr.mono (by decide)) (zaCons (zV (vCallT ub_list (c_list o) (by rfl) g.f_list PyProof.Rows.boot_list (bZ (fIx ob_ixA (r_ixA o) (zVar 0) (bZ zInt))))) (zaCons (zV (vCallT ub_list (c_list o) (by rfl) g.f_list PyProof.Rows.boot_list (bZ (fIx ob_ixA (r_ixA o) (zVar 0) (bZ zInt))))) (zaCons (zV (vCallT ub_list (c_list o) (by rfl) g.f_list PyProof.Rows.boot_list (bZ (fIx ob_ixA (r_ixA o) (zVar 0) (bZ zInt))))) (zaCons (zV (vCallT ub_list (c_list o) (by rfl) g.f_list PyProof.Rows.boot_list (bZ (fIx ob_ixA (r_ixA o) (zVar 0) (bZ zInt))))) (zaCons (zV (vCallT ub_list (c_list o) (by rfl) g.f_list PyProof.Rows.boot_list (bZ (fIx ob_ixA (r_ixA o) (zVar 0) (bZ zInt))))) zaNil)))))))))
def bd__law_cell : SM := (seqS (sIf (eTest (bin dLt (eVar 1) (un dLen (eVar 0)))) (sRet (bin dIxA (eVar 0) (eVar 1))) sNext)
  (sRet (eC (.int 0))))
theorem sc__law_cell : FnScope ["_law_script", "_law_index"] ["_law_script", "_law_index"] (defScope Hd.s9) := ⟨rfl, rfl, rfl, by decide +kernel, rfl, by decide +kernel, by decide +kernel⟩
def fn__law_cell : PF := runP 2 0 bd__law_cell
theorem ok__law_cell {P : Program} {w : World} {K : PySem.W.Frag} {mg : Str → Option Value} {base : Heap} {cls : Nat → Addr} {flds : Nat → List Str} (g : Gf P w K mg base cls flds) (sf : Option Addr) : Fn P w K mg base 1 "_law_cell" (spF ⟨P, w, K, cls, flds, sf, none⟩ (pureF fn__law_cell)) := g.d__law_cell.fn (fun f fd F => F.bindsN (ps := ["_law_script", "_law_index"]) fun _ _ _ _ _ _ us hl => match us, hl with | [_, _], _ => rfl) fun f fd F => fn_p (W := ⟨P, w, K, cls, flds, sf, none⟩) F sc__law_cell rfl rfl fun cdv A outer s H vs E hr => by
  have o : Okx ⟨P, w, K, cls, flds, sf, none⟩ (cxOf CX0 P w K mg base ["_law_script", "_law_index"] "_law_cell" (defScope Hd.s9) f cdv A outer s H E).nox := ⟨rfl, rfl, rfl, u65 hr, rfl, sc__law_cell.nd⟩
  have nd := sc__law_cell.nd
  exact (zsCons (zIf (s := false) (fCmpT ob_lt op_lt (zVar 1) (bZ (zCallB ub_len (c_len o) (by rfl) g.f_len PySem.boot_len (bZ (zVar 0))))) (zsOne (vRet (s := false) (vZ (fIx ob_ixA (r_ixA o) (zVar 0) (bZ (zVar 1)))))) zsNil)
  (zsOne (vRet (s := false) (vZ zInt))))
def bd__law_hash : SM := (seqS (sAsg (bin dMod (un dToInt (bin dAddA (frzE (bin dAddA (frzE (bin dAddA (frzE (bin dMulA (eVar 0) (eC (.int 1103515245)))) (bin dMulA (frzE (bin dMulA (eC (.int 7919)) (eVar 1))) (eVar 1)))) (eVar 1))) (eC (.int 1)))) (eC (.int 2147483647))) (gN 2))
  (seqS (sAsg (bin dMod (un dToInt (bin dAddA (frzE (bin dMulA (eVar 2) (eVar 2))) (eC (.int 69621)))) (eC (.int 2147483629))) (gN 2))
  (sRet (bin dMod (un dToInt (bin dMulA (eVar 2) (eC (.int 48271)))) (eC (.int 2147483587))))))
theorem sc__law_hash : FnScope ["_law_seed", "_law_index", "_law_mixed"] ["_law_seed", "_law_index"] (defScope Hd.s12) := ⟨rfl, rfl, rfl, by decide +kernel, rfl, by decide +kernel, by decide +kernel⟩
def fn__law_hash : PF := runP 2 1 bd__law_hash
theorem ok__law_hash {P : Program} {w : World} {K : PySem.W.Frag} {mg : Str → Option Value} {base : Heap} {cls : Nat → Addr} {flds : Nat → List Str} (g : Gf P w K mg base cls flds) (sf : Option Addr) : Fn P w K mg base 1 "_law_hash" (spF ⟨P, w, K, cls, flds, sf, none⟩ (pureF fn__law_hash)) := g.d__law_hash.fn (fun f fd F => F.bindsN (ps := ["_law_seed", "_law_index"]) fun _ _ _ _ _ _ us hl => match us, hl with | [_, _], _ => rfl) fun f fd F => fn_p (W := ⟨P, w, K, cls, flds, sf, none⟩) F sc__law_hash rfl rfl fun cdv A outer s H vs E hr => by
  have o : Okx ⟨P, w, K, cls, flds, sf, none⟩ (cxOf CX0 P w K mg base ["_law_seed", "_law_index", "_law_mixed"] "_law_hash" (defScope Hd.s12) f cdv A outer s H E).nox := ⟨rfl, rfl, rfl, u65 hr, rfl, sc__law_hash.nd⟩
  have nd := sc__law_hash.nd
  exact (zsCons (vSet (s := false) 2 nd (vZ (fOp ob_mod op_mod (zCallT ub_int call_int1 (by rfl) g.f_int PyProof.Rows.boot_int (bV (fOpO ob_addA (r_addA o) (zV (fOpO ob_addA (r_addA o) (zV (fOpO ob_addA (r_addA o) (zV (fOpO ob_mulA (r_mulA o) (zVar 0) (bZ zInt))) (bV (fOpO ob_mulA (r_mulA o) (zV (fOpO ob_mulA (r_mulA o) zInt (bZ (zVar 1)))) (bZ (zVar 1)))))) (bZ (zVar 1)))) (bZ zInt)))) (bZ zInt))))
  (zsCons (vSet (s := false) 2 nd (vZ (fOp ob_mod op_mod (zCallT ub_int call_int1 (by rfl) g.f_int PyProof.Rows.boot_int (bV (fOpO ob_addA (r_addA o) (zV (fOpO ob_mulA (r_mulA o) (zVar 2) (bZ (zVar 2)))) (bZ zInt)))) (bZ zInt))))
  (zsOne (vRet (s := false) (vZ (fOp ob_mod op_mod (zCallT ub_int call_int1 (by rfl) g.f_int PyProof.Rows.boot_int (bV (fOpO ob_mulA (r_mulA o) (zVar 2) (bZ zInt)))) (bZ zInt)))))))
def bd__law_random : SM := (seqS (sIf (eTest (bin dGt (eIxL 0 0) (eC (.int 0)))) (seqS (sAsg (bin dMod (un dToInt (eIxL 0 0)) (eVar 1)) (gN 2))
  (seqS (sSetA 0 (eC (.int 0)) (bin dFdv (eIxL 0 0) (eVar 1)))
  (sRet (eVar 2)))) sNext)
  (seqS (sAsg (eC (.int 0)) (gN 2))
  (seqS (sFor (itRange (frzE (bin dAddA (eC (.int 1)) (bin dFdv (un dBitLen (eVar 1)) (eC (.int 30)))))) (gN 3) (seqS (sSetA 0 (eC (.int 2)) (frzE (bin dAddA (eIxL 0 2) (eC (.int 1)))))
  (sAsg (frzE (bin dAddA (frzE (bin dMulA (eVar 2) (eC (.int 2147483587)))) (eCall (pureF fn__law_hash) (aCons (eIxL 0 1) (aCons (eIxL 0 2) aNil))))) (gN 2))))
  (sRet (bin dMod (un dToInt (eVar 2)) (eVar 1))))))
theorem sc__law_random : FnScope ["_law_generator_here", "_law_bound", "_law_drawn", "_law_turn"] ["_law_generator_here", "_law_bound"] (defScope Hd.s15) := ⟨rfl, rfl, rfl, by decide +kernel, rfl, by decide +kernel, by decide +kernel⟩
def fn__law_random : FV := runF 2 2 bd__law_random
theorem ok__law_random {P : Program} {w : World} {K : PySem.W.Frag} {mg : Str → Option Value} {base : Heap} {cls : Nat → Addr} {flds : Nat → List Str} (g : Gf P w K mg base cls flds) (sf : Option Addr) : Fn P w K mg base 2 "_law_random" (spF ⟨P, w, K, cls, flds, sf, none⟩ fn__law_random) := g.d__law_random.fn (fun f fd F => F.bindsN (ps := ["_law_generator_here", "_law_bound"]) fun _ _ _ _ _ _ us hl => match us, hl with | [_, _], _ => rfl) fun f fd F => fn_v (W := ⟨P, w, K, cls, flds, sf, none⟩) F sc__law_random rfl rfl fun cdv A outer s H vs E hr => by
  have o : Okx ⟨P, w, K, cls, flds, sf, none⟩ (cxOf CX0 P w K mg base ["_law_generator_here", "_law_bound", "_law_drawn", "_law_turn"] "_law_random" (defScope Hd.s15) f cdv A outer s H E).nox := ⟨rfl, rfl, rfl, u65 hr, rfl, sc__law_random.nd⟩
  have nd := sc__law_random.nd
  exact (zsCons (zIf (s := false) (fCmpT ob_gt op_gt (zIxL o 0 0) (bZ zInt)) (zsCons (vSet (s := false) 2 nd (vZ (fOp ob_mod op_mod (zCallT ub_int call_int1 (by rfl) g.f_int PyProof.Rows.boot_int (bZ (zIxL o 0 0))) (bZ (zVar 1)))))
  (zsCons (zSetA 0 o (hx := (fOp ob_fdv op_fdiv (zIxL o 0 0) (bZ (zVar 1)))) (hi := zInt))
  (zsOne (vRet (s := false) (vZ (zVar 2)))))) zsNil)
  (zsCons (vSet (s := false) 2 nd (vZ zInt))
  (zsCons (zFor [3] PassesOwn.never o (ziRange (by rfl) g.f_range (zV (fOpO ob_addA (r_addA o) zInt (bZ (fOp ob_fdv op_fdiv (zBitLen o (zVar 1)) (bZ zInt)))))) (zgN 3 nd) (zsCons (zSetA 0 o (hx := (zV (fOpO ob_addA (r_addA o) (zIxL o 0 2) (bZ zInt)))) (hi := zInt))
  (zsOne (vSet (s := false) 2 nd (vZ (zV (fOpO ob_addA (r_addA o) (zV (fOpO ob_mulA (r_mulA o) (zVar 2) (bZ zInt))) (bV (vCall (ok__law_hash g sf) (hr.mono (by decide)) (zaCons (zIxL o 0 1) (zaCons (zIxL o 0 2) zaNil)))))))))))
  (zsOne (vRet (s := false) (vZ (fOp ob_mod op_mod (zCallT ub_int call_int1 (by rfl) g.f_int PyProof.Rows.boot_int (bZ (zVar 2))) (bZ (zVar 1)))))))))
def bd__law_entry_drawn : SM := (seqS (sAsg (eIf (eTest (bin dEqA (frzA (eCall fn__law_random (aCons (eVar 0) (aCons (eC (.int 3)) aNil)))) (eC (.int 0)))) (eVar 1) (eVar 2)) (gN 4))
  (seqS (sMix ((5, (bin dIxA (eVar 4) (eCall fn__law_random (aCons (eVar 0) (aCons (un dLen (eVar 4)) aNil))))) :: ((6, (bin dIxA (eVar 4) (eCall fn__law_random (aCons (eVar 0) (aCons (un dLen (eVar 4)) aNil))))) :: [])))
  (sRet (eTup (aCons (eVar 5) (aCons (bin dIxA (eVar 3) (eCall fn__law_random (aCons (eVar 0) (aCons (un dLen (eVar 3)) aNil)))) (aCons (eVar 6) aNil)))))))
theorem sc__law_entry_drawn : FnScope ["_law_generator_here", "_law_houses", "_law_stands", "_law_sounds", "_law_names", "_law_place", "_law_other"] ["_law_generator_here", "_law_houses", "_law_stands", "_law_sounds"] (defScope Hd.s10) := ⟨rfl, rfl, rfl, by decide +kernel, rfl, by decide +kernel, by decide +kernel⟩
def fn__law_entry_drawn : FV := runF 4 3 bd__law_entry_drawn
theorem ok__law_entry_drawn {P : Program} {w : World} {K : PySem.W.Frag} {mg : Str → Option Value} {base : Heap} {cls : Nat → Addr} {flds : Nat → List Str} (g : Gf P w K mg base cls flds) (sf : Option Addr) : Fn P w K mg base 3 "_law_entry_drawn" (spF ⟨P, w, K, cls, flds, sf, none⟩ fn__law_entry_drawn) := g.d__law_entry_drawn.fn (fun f fd F => F.bindsN (ps := ["_law_generator_here", "_law_houses", "_law_stands", "_law_sounds"]) fun _ _ _ _ _ _ us hl => match us, hl with | [_, _, _, _], _ => rfl) fun f fd F => fn_v (W := ⟨P, w, K, cls, flds, sf, none⟩) F sc__law_entry_drawn rfl rfl fun cdv A outer s H vs E hr => by
  have o : Okx ⟨P, w, K, cls, flds, sf, none⟩ (cxOf CX0 P w K mg base ["_law_generator_here", "_law_houses", "_law_stands", "_law_sounds", "_law_names", "_law_place", "_law_other"] "_law_entry_drawn" (defScope Hd.s10) f cdv A outer s H E).nox := ⟨rfl, rfl, rfl, u65 hr, rfl, sc__law_entry_drawn.nd⟩
  have nd := sc__law_entry_drawn.nd
  exact (zsCons (vSet (s := false) 4 nd (vZ (zIfExp (fCmpT ob_eqA (r_eqA o) (zVA (vCall (ok__law_random g sf) (hr.mono (by decide)) (zaCons (zVar 0) (zaCons zInt zaNil)))) (bZ zInt)) (zVar 1) (zVar 2))))
  (zsCons (zPar2 o (zmV 5 nd (vZ (fIx ob_ixA (r_ixA o) (zVar 4) (bV (vCall (ok__law_random g sf) (hr.mono (by decide)) (zaCons (zVar 0) (zaCons (zCallB ub_len (c_len o) (by rfl) g.f_len PySem.boot_len (bZ (zVar 4))) zaNil)))))) (zmV 6 nd (vZ (fIx ob_ixA (r_ixA o) (zVar 4) (bV (vCall (ok__law_random g sf) (hr.mono (by decide)) (zaCons (zVar 0) (zaCons (zCallB ub_len (c_len o) (by rfl) g.f_len PySem.boot_len (bZ (zVar 4))) zaNil)))))) zmNil)))
  (zsOne (vRet (s := false) (vZ (zTup (zaCons (zVar 5) (zaCons (fIx ob_ixA (r_ixA o) (zVar 3) (bV (vCall (ok__law_random g sf) (hr.mono (by decide)) (zaCons (zVar 0) (zaCons (zCallB ub_len (c_len o) (by rfl) g.f_len PySem.boot_len (bZ (zVar 3))) zaNil))))) (zaCons (zVar 6) zaNil)))))))))
def bd__law_generator : SM := (seqS (sAsg (frzA (eCall (pureF fn__law_cell) (aCons (eVar 0) (aCons (eVar 1) aNil)))) (gN 2))
  (sRet (eLst (aCons (bin dMod (un dToInt (bin dMax2 (bin dSub (eVar 2) (bin dPow (eC (.int 10)) (eC (.int 18)))) (eC (.int 0)))) (bin dPow (bin dPow (eC (.int 10)) (eC (.int 60))) (eC (.int 10)))) (aCons (bin dMod (un dToInt (eVar 2)) (eC (.int 2147483647))) (aCons (frzE (bin dMulA (eC (.int 1000)) (eVar 1))) aNil))))))
theorem sc__law_generator : FnScope ["_law_script", "_law_index", "_law_seed"] ["_law_script", "_law_index"] (defScope Hd.s11) := ⟨rfl, rfl, rfl, by decide +kernel, rfl, by decide +kernel, by decide +kernel⟩
def fn__law_generator : PF := runP 2 1 bd__law_generator
theorem ok__law_generator {P : Program} {w : World} {K : PySem.W.Frag} {mg : Str → Option Value} {base : Heap} {cls : Nat → Addr} {flds : Nat → List Str} (g : Gf P w K mg base cls flds) (sf : Option Addr) : Fn P w K mg base 2 "_law_generator" (spF ⟨P, w, K, cls, flds, sf, none⟩ (pureF fn__law_generator)) := g.d__law_generator.fn (fun f fd F => F.bindsN (ps := ["_law_script", "_law_index"]) fun _ _ _ _ _ _ us hl => match us, hl with | [_, _], _ => rfl) fun f fd F => fn_p (W := ⟨P, w, K, cls, flds, sf, none⟩) F sc__law_generator rfl rfl fun cdv A outer s H vs E hr => by
  have o : Okx ⟨P, w, K, cls, flds, sf, none⟩ (cxOf CX0 P w K mg base ["_law_script", "_law_index", "_law_seed"] "_law_generator" (defScope Hd.s11) f cdv A outer s H E).nox := ⟨rfl, rfl, rfl, u65 hr, rfl, sc__law_generator.nd⟩
  have nd := sc__law_generator.nd
  exact (zsCons (vSet (s := false) 2 nd (vZ (zVA (vCall (ok__law_cell g sf) (hr.mono (by decide)) (zaCons (zVar 0) (zaCons (zVar 1) zaNil))))))
  (zsOne (vRet (s := false) (oLst (zaCons (fOp ob_mod op_mod (zCallT ub_int call_int1 (by rfl) g.f_int PyProof.Rows.boot_int (bZ (zMax2 o (by rfl) g.f_max (fOp ob_sub op_sub (zVar 2) (bZ (fOp ob_pow op_powW zInt (bZ zInt)))) zInt))) (bZ (fOp ob_pow op_powW (fOp ob_pow op_powW zInt (bZ zInt)) (bZ zInt)))) (zaCons (fOp ob_mod op_mod (zCallT ub_int call_int1 (by rfl) g.f_int PyProof.Rows.boot_int (bZ (zVar 2))) (bZ zInt)) (zaCons (zV (fOpO ob_mulA (r_mulA o) zInt (bZ (zVar 1)))) zaNil)))))))
def bd__law_lines : SM := (seqS (sAsg (eLst (aCons (frzE (bin dAddA (frzE (eLst (aCons (eC (.str "houses")) aNil))) (bin dIxA (eVar 0) (eC (.int 0))))) (aCons (frzE (bin dAddA (frzE (eLst (aCons (eC (.str "stands")) aNil))) (bin dIxA (eVar 0) (eC (.int 1))))) aNil))) (gN 1))
  (seqS (sFor (itSeq (bin dIxA (eVar 0) (eC (.int 2)))) (gT 3 (gsCons (gN 2) (gsCons (gN 3) (gsCons (gN 4) gsNil)))) (sApp 1 (frzE (eLst (aCons (eC (.str "deed")) (aCons (eVar 2) (aCons (eIf (eTest (bin dIsN (eVar 3) (eC .non))) (eC (.str "_")) (eVar 3)) (aCons (eVar 4) aNil))))))))
  (seqS (sFor (itSeq (bin dIxA (eVar 0) (eC (.int 3)))) (gT 3 (gsCons (gN 2) (gsCons (gN 3) (gsCons (gN 4) gsNil)))) (sApp 1 (frzE (eLst (aCons (eC (.str "hear")) (aCons (eVar 2) (aCons (eVar 3) (aCons (eVar 4) aNil))))))))
  (sRet (bin dAddA (eBor 1) (eIf (eTest (bin dNeA (bin dIxA (eVar 0) (eC (.int 4))) (eLst aNil))) (frzE (eLst (aCons (frzE (bin dAddA (frzE (eLst (aCons (eC (.str "lost")) aNil))) (bin dIxA (eVar 0) (eC (.int 4))))) aNil))) (frzE (eLst aNil))))))))
theorem sc__law_lines : FnScope ["_law_parts_here", "_law_found", "_law_place", "_law_sound", "_law_other"] ["_law_parts_here"] (defScope Hd.s13) := ⟨rfl, rfl, rfl, by decide +kernel, rfl, by decide +kernel, by decide +kernel⟩
def fn__law_lines : PF := runP 1 4 bd__law_lines
theorem ok__law_lines {P : Program} {w : World} {K : PySem.W.Frag} {mg : Str → Option Value} {base : Heap} {cls : Nat → Addr} {flds : Nat → List Str} (g : Gf P w K mg base cls flds) (sf : Option Addr) : Fn P w K mg base 1 "_law_lines" (spF ⟨P, w, K, cls, flds, sf, none⟩ (pureF fn__law_lines)) := g.d__law_lines.fn (fun f fd F => F.bindsN (ps := ["_law_parts_here"]) fun _ _ _ _ _ _ us hl => match us, hl with | [_], _ => rfl) fun f fd F => fn_p (W := ⟨P, w, K, cls, flds, sf, none⟩) F sc__law_lines rfl rfl fun cdv A outer s H vs E hr => by
  have o : Okx ⟨P, w, K, cls, flds, sf, none⟩ (cxOf CX0 P w K mg base ["_law_parts_here", "_law_found", "_law_place", "_law_sound", "_law_other"] "_law_lines" (defScope Hd.s13) f cdv A outer s H E).nox := ⟨rfl, rfl, rfl, u65 hr, rfl, sc__law_lines.nd⟩
  have nd := sc__law_lines.nd
  exact (zsCons (vSet (s := false) 1 nd (oLst (zaCons (zV (fOpO ob_addA (r_addA o) (zV (oLst (zaCons zStr zaNil))) (bZ (fIx ob_ixA (r_ixA o) (zVar 0) (bZ zInt))))) (zaCons (zV (fOpO ob_addA (r_addA o) (zV (oLst (zaCons zStr zaNil))) (bZ (fIx ob_ixA (r_ixA o) (zVar 0) (bZ zInt))))) zaNil))))
  (zsCons (zFor [2, 3, 4] PassesOwn.never o (ziSeq o (fIx ob_ixA (r_ixA o) (zVar 0) (bZ zInt))) (zgT o.K o.c (zgsCons (zgN 2 nd) (zgsCons (zgN 3 nd) (zgsCons (zgN 4 nd) zgsNil)))) (zsOne (zApp 1 (hx := (vZ (zV (oLst (zaCons zStr (zaCons (zVar 2) (zaCons (zIfExp (fCmpT ob_isN op_isN (zVar 3) (bZ zNon)) zStr (zVar 3)) (zaCons (zVar 4) zaNil)))))))))))
  (zsCons (zFor [2, 3, 4] PassesOwn.never o (ziSeq o (fIx ob_ixA (r_ixA o) (zVar 0) (bZ zInt))) (zgT o.K o.c (zgsCons (zgN 2 nd) (zgsCons (zgN 3 nd) (zgsCons (zgN 4 nd) zgsNil)))) (zsOne (zApp 1 (hx := (vZ (zV (oLst (zaCons zStr (zaCons (zVar 2) (zaCons (zVar 3) (zaCons (zVar 4) zaNil)))))))))))
  (zsOne (vRet (s := false) (bOpO ob_addA (r_addA o) (bVar 1) (bZ (zIfExp (fCmpT ob_neA (r_neA o) (fIx ob_ixA (r_ixA o) (zVar 0) (bZ zInt)) (bV (oLst zaNil))) (zV (oLst (zaCons (zV (fOpO ob_addA (r_addA o) (zV (oLst (zaCons zStr zaNil))) (bZ (fIx ob_ixA (r_ixA o) (zVar 0) (bZ zInt))))) zaNil))) (zV (oLst zaNil))))))))))
def bd__law_parts : SM := (seqS (sAsg (frzE (eSl dSlA (frzE (eLst (aCons (eC (.str "idle")) (aCons (eC (.str "mends")) (aCons (eC (.str "done")) aNil))))) pN (pS (frzE (bin dAddA (eC (.int 1)) (eCall fn__law_random (aCons (eVar 0) (aCons (eVar 1) aNil)))))))) (gN 3))
  (seqS (sAsg (frzE (eSl dSlA (frzE (eLst (aCons (eC (.str "lacks")) (aCons (eC (.str "waits")) (aCons (eC (.str "has")) (aCons (eC (.str "off")) aNil)))))) pN (pS (frzE (bin dAddA (eC (.int 1)) (eCall fn__law_random (aCons (eVar 0) (aCons (eVar 2) aNil)))))))) (gN 4))
  (seqS (sMix ((7, (eLst aNil)) :: ((8, (eLst aNil)) :: ((9, (eLst aNil)) :: []))))
  (seqS (sFor (itRange (frzE (bin dAddA (eC (.int 1)) (eCall fn__law_random (aCons (eVar 0) (aCons (eC (.int 5)) aNil)))))) (gN 5) (sApp 7 (frzA (eCall fn__law_entry_drawn (aCons (eVar 0) (aCons (eVar 3) (aCons (eVar 4) (aCons (frzE (eLst (aCons (eC (.str "ask")) (aCons (eC (.str "mend")) (aCons (eC (.str "ask")) (aCons (eC .non) aNil)))))) aNil))))))))
  (seqS (sFor (itRange (frzA (eCall fn__law_random (aCons (eVar 0) (aCons (eC (.int 8)) aNil))))) (gN 5) (seqS (sAsg (frzA (eCall fn__law_entry_drawn (aCons (eVar 0) (aCons (eVar 3) (aCons (eVar 4) (aCons (frzE (eLst (aCons (eC (.str "mend")) (aCons (eC (.str "ask")) aNil)))) aNil)))))) (gT 3 (gsCons (gN 10) (gsCons (gN 11) (gsCons (gN 12) gsNil)))))
  (sIf (eTest (bin dNotInA (eTup (aCons (eVar 10) (aCons (eVar 11) aNil))) (eBor 9))) (seqS (sApp 9 (eTup (aCons (eVar 10) (aCons (eVar 11) aNil))))
  (sApp 8 (eTup (aCons (eVar 10) (aCons (eVar 11) (aCons (eVar 12) aNil)))))) sNext)))
  (seqS (sAsg (bin dIxA (frzE (eLst (aCons (frzE (eLst aNil)) (aCons (frzE (eLst (aCons (eC (.str "mend")) aNil))) (aCons (frzE (eLst (aCons (eC (.str "ask")) aNil))) (aCons (frzE (eLst (aCons (eC (.str "mend")) (aCons (eC (.str "ask")) aNil)))) (aCons (frzE (eLst (aCons (eC (.str "none")) aNil))) aNil))))))) (eCall fn__law_random (aCons (eVar 0) (aCons (eC (.int 5)) aNil)))) (gN 6))
  (sRet (eLst (aCons (eVar 3) (aCons (eVar 4) (aCons (eFrz 7) (aCons (eFrz 8) (aCons (eVar 6) aNil)))))))))))))
theorem sc__law_parts : FnScope ["_law_generator_here", "_law_wide", "_law_high", "_law_houses", "_law_stands", "_law_turn", "_law_lost", "_law_deeds", "_law_hearings", "_law_known", "_law_place", "_law_sound", "_law_other"] ["_law_generator_here", "_law_wide", "_law_high"] (defScope Hd.s14) := ⟨rfl, rfl, rfl, by decide +kernel, rfl, by decide +kernel, by decide +kernel⟩
def fn__law_parts : FV := runF 3 10 bd__law_parts
theorem ok__law_parts {P : Program} {w : World} {K : PySem.W.Frag} {mg : Str → Option Value} {base : Heap} {cls : Nat → Addr} {flds : Nat → List Str} (g : Gf P w K mg base cls flds) (sf : Option Addr) : Fn P w K mg base 4 "_law_parts" (spF ⟨P, w, K, cls, flds, sf, none⟩ fn__law_parts) := g.d__law_parts.fn (fun f fd F => F.bindsN (ps := ["_law_generator_here", "_law_wide", "_law_high"]) fun _ _ _ _ _ _ us hl => match us, hl with | [_, _, _], _ => rfl) fun f fd F => fn_v (W := ⟨P, w, K, cls, flds, sf, none⟩) F sc__law_parts rfl rfl fun cdv A outer s H vs E hr => by
  have o : Okx ⟨P, w, K, cls, flds, sf, none⟩ (cxOf CX0 P w K mg base ["_law_generator_here", "_law_wide", "_law_high", "_law_houses", "_law_stands", "_law_turn", "_law_lost", "_law_deeds", "_law_hearings", "_law_known", "_law_place", "_law_sound", "_law_other"] "_law_parts" (defScope Hd.s14) f cdv A outer s H E).nox := ⟨rfl, rfl, rfl, u65 hr, rfl, sc__law_parts.nd⟩
  have nd := sc__law_parts.nd
  exact (zsCons (vSet (s := false) 3 nd (vZ (zV (vSlA o (zV (oLst (zaCons zStr (zaCons zStr (zaCons zStr zaNil))))) zpN (zpS (zV (fOpO ob_addA (r_addA o) zInt (bV (vCall (ok__law_random g sf) (hr.mono (by decide)) (zaCons (zVar 0) (zaCons (zVar 1) zaNil)))))))))))
  (zsCons (vSet (s := false) 4 nd (vZ (zV (vSlA o (zV (oLst (zaCons zStr (zaCons zStr (zaCons zStr (zaCons zStr zaNil)))))) zpN (zpS (zV (fOpO ob_addA (r_addA o) zInt (bV (vCall (ok__law_random g sf) (hr.mono (by decide)) (zaCons (zVar 0) (zaCons (zVar 2) zaNil)))))))))))
  (zsCons (zPar3 o (zmV 7 nd (oLst zaNil) (zmV 8 nd (oLst zaNil) (zmV 9 nd (oLst zaNil) zmNil))))
  (zsCons (zFor [5] PassesOwn.never o (ziRange (by rfl) g.f_range (zV (fOpO ob_addA (r_addA o) zInt (bV (vCall (ok__law_random g sf) (hr.mono (by decide)) (zaCons (zVar 0) (zaCons zInt zaNil))))))) (zgN 5 nd) (zsOne (zApp 7 (hx := (vZ (zVA (vCall (ok__law_entry_drawn g sf) (hr.mono (by decide)) (zaCons (zVar 0) (zaCons (zVar 3) (zaCons (zVar 4) (zaCons (zV (oLst (zaCons zStr (zaCons zStr (zaCons zStr (zaCons zNon zaNil)))))) zaNil)))))))))))
  (zsCons (zFor [5] PassesOwn.never o (ziRange (by rfl) g.f_range (zVA (vCall (ok__law_random g sf) (hr.mono (by decide)) (zaCons (zVar 0) (zaCons zInt zaNil))))) (zgN 5 nd) (zsCons (zAsg (s := false) (ws := [10, 11, 12]) (zVA (vCall (ok__law_entry_drawn g sf) (hr.mono (by decide)) (zaCons (zVar 0) (zaCons (zVar 3) (zaCons (zVar 4) (zaCons (zV (oLst (zaCons zStr (zaCons zStr zaNil)))) zaNil)))))) (zgT o.K o.c (zgsCons (zgN 10 nd) (zgsCons (zgN 11 nd) (zgsCons (zgN 12 nd) zgsNil)))))
  (zsOne (zIf (s := false) (fCmpT ob_notInA (r_notInA o) (zTup (zaCons (zVar 10) (zaCons (zVar 11) zaNil))) (bVar 9)) (zsCons (zApp 9 (hx := (vZ (zTup (zaCons (zVar 10) (zaCons (zVar 11) zaNil))))))
  (zsOne (zApp 8 (hx := (vZ (zTup (zaCons (zVar 10) (zaCons (zVar 11) (zaCons (zVar 12) zaNil))))))))) zsNil))))
  (zsCons (vSet (s := false) 6 nd (vZ (fIx ob_ixA (r_ixA o) (zV (oLst (zaCons (zV (oLst zaNil)) (zaCons (zV (oLst (zaCons zStr zaNil))) (zaCons (zV (oLst (zaCons zStr zaNil))) (zaCons (zV (oLst (zaCons zStr (zaCons zStr zaNil)))) (zaCons (zV (oLst (zaCons zStr zaNil))) zaNil))))))) (bV (vCall (ok__law_random g sf) (hr.mono (by decide)) (zaCons (zVar 0) (zaCons zInt zaNil)))))))
  (zsOne (vRet (s := false) (oLst (zaCons (zVar 3) (zaCons (zVar 4) (zaCons (zFrz 7) (zaCons (zFrz 8) (zaCons (zVar 6) zaNil))))))))))))))
def bd__law_spaced : SM := (seqS (sMix ((3, (frzE (eLst (aCons (eC (.str "")) (aCons (eC (.str " ")) (aCons (eC (.str "   ")) aNil)))))) :: ((4, (eLst aNil)) :: [])))
  (seqS (sFor (itSeq (eVar 1)) (gN 2) (seqS (sAsg (bin dIxA (eVar 3) (eCall fn__law_random (aCons (eVar 0) (aCons (eC (.int 3)) aNil)))) (gN 5))
  (seqS (sFor (itSeq (eVar 2)) (gN 6) (sAsg (frzE (bin dAddA (frzE (bin dAddA (eVar 5) (eVar 6))) (bin dMulAS (eC (.str " ")) (bin dAddA (eC (.int 1)) (eCall fn__law_random (aCons (eVar 0) (aCons (eC (.int 3)) aNil))))))) (gN 5)))
  (seqS (sApp 4 (frzE (bin dAddA (binG isStr dRstrip (eVar 5) (eC (.str " "))) (bin dIxA (eVar 3) (eCall fn__law_random (aCons (eVar 0) (aCons (eC (.int 3)) aNil)))))))
  (sIf (eTest (bin dEqA (frzA (eCall fn__law_random (aCons (eVar 0) (aCons (eC (.int 3)) aNil)))) (eC (.int 0)))) (sApp 4 (bin dIxA (eVar 3) (eCall fn__law_random (aCons (eVar 0) (aCons (eC (.int 3)) aNil))))) sNext)))))
  (sRet (binG isStr dJoin (eC (.str "
")) (frzE (bin dAddA (frzE (bin dAddA (frzE (bin dMulAS (frzE (eLst (aCons (eC (.str "")) aNil))) (eCall fn__law_random (aCons (eVar 0) (aCons (eC (.int 2)) aNil))))) (eBor 4))) (bin dMulAS (frzE (eLst (aCons (eC (.str " ")) aNil))) (eCall fn__law_random (aCons (eVar 0) (aCons (eC (.int 2)) aNil))))))))))
theorem sc__law_spaced : FnScope ["_law_generator_here", "_law_lines_here", "_law_tokens", "_law_blanks", "_law_rows", "_law_line", "_law_token"] ["_law_generator_here", "_law_lines_here"] (defScope Hd.s16) := ⟨rfl, rfl, rfl, by decide +kernel, rfl, by decide +kernel, by decide +kernel⟩
def fn__law_spaced : FV := runF 2 5 bd__law_spaced
theorem ok__law_spaced {P : Program} {w : World} {K : PySem.W.Frag} {mg : Str → Option Value} {base : Heap} {cls : Nat → Addr} {flds : Nat → List Str} (g : Gf P w K mg base cls flds) (sf : Option Addr) : Fn P w K mg base 3 "_law_spaced" (spF ⟨P, w, K, cls, flds, sf, none⟩ fn__law_spaced) := g.d__law_spaced.fn (fun f fd F => F.bindsN (ps := ["_law_generator_here", "_law_lines_here"]) fun _ _ _ _ _ _ us hl => match us, hl with | [_, _], _ => rfl) fun f fd F => fn_v (W := ⟨P, w, K, cls, flds, sf, none⟩) F sc__law_spaced rfl rfl fun cdv A outer s H vs E hr => by
  have o : Okx ⟨P, w, K, cls, flds, sf, none⟩ (cxOf CX0 P w K mg base ["_law_generator_here", "_law_lines_here", "_law_tokens", "_law_blanks", "_law_rows", "_law_line", "_law_token"] "_law_spaced" (defScope Hd.s16) f cdv A outer s H E).nox := ⟨rfl, rfl, rfl, u65 hr, rfl, sc__law_spaced.nd⟩
  have nd := sc__law_spaced.nd
  exact (zsCons (zPar2 o (zmV 3 nd (vZ (zV (oLst (zaCons zStr (zaCons zStr (zaCons zStr zaNil)))))) (zmV 4 nd (oLst zaNil) zmNil)))
  (zsCons (zFor [2] PassesOwn.never o (ziSeq o (zVar 1)) (zgN 2 nd) (zsCons (vSet (s := false) 5 nd (vZ (fIx ob_ixA (r_ixA o) (zVar 3) (bV (vCall (ok__law_random g sf) (hr.mono (by decide)) (zaCons (zVar 0) (zaCons zInt zaNil)))))))
  (zsCons (zFor [6] PassesOwn.never o (ziSeq o (zVar 2)) (zgN 6 nd) (zsOne (vSet (s := false) 5 nd (vZ (zV (fOpO ob_addA (r_addA o) (zV (fOpO ob_addA (r_addA o) (zVar 5) (bZ (zVar 6)))) (bV (fOpO ob_mulAS (r_mulAS o) zStr (bV (fOpO ob_addA (r_addA o) zInt (bV (vCall (ok__law_random g sf) (hr.mono (by decide)) (zaCons (zVar 0) (zaCons zInt zaNil))))))))))))))
  (zsCons (zApp 4 (hx := (vZ (zV (fOpO ob_addA (r_addA o) (zRstrip o (zVar 5) zStr) (bZ (fIx ob_ixA (r_ixA o) (zVar 3) (bV (vCall (ok__law_random g sf) (hr.mono (by decide)) (zaCons (zVar 0) (zaCons zInt zaNil)))))))))))
  (zsOne (zIf (s := false) (fCmpT ob_eqA (r_eqA o) (zVA (vCall (ok__law_random g sf) (hr.mono (by decide)) (zaCons (zVar 0) (zaCons zInt zaNil)))) (bZ zInt)) (zsOne (zApp 4 (hx := (vZ (fIx ob_ixA (r_ixA o) (zVar 3) (bV (vCall (ok__law_random g sf) (hr.mono (by decide)) (zaCons (zVar 0) (zaCons zInt zaNil))))))))) zsNil))))))
  (zsOne (vRet (s := false) (vZ (zJoin o zStr (zV (fOpO ob_addA (r_addA o) (zV (fOpO ob_addA (r_addA o) (zV (fOpO ob_mulAS (r_mulAS o) (zV (oLst (zaCons zStr zaNil))) (bV (vCall (ok__law_random g sf) (hr.mono (by decide)) (zaCons (zVar 0) (zaCons zInt zaNil)))))) (bVar 4))) (bV (fOpO ob_mulAS (r_mulAS o) (zV (oLst (zaCons zStr zaNil))) (bV (vCall (ok__law_random g sf) (hr.mono (by decide)) (zaCons (zVar 0) (zaCons zInt zaNil))))))))))))))
def bd_rows_in : SM := (seqS (sMix ((2, (un dDcl (eLc (itSeq (eC (.rol ([("houses" : Str), ("stands" : Str), ("deed" : Str), ("hear" : Str), ("lost" : Str)].map .str)))) (gN 5) tYesD (eVar 5) [5]))) :: ((3, (eC (.int 0))) :: [])))
  (seqS (sFor (itSeq (frzE (binG isStr dSplit (eVar 0) (eC (.str "
"))))) (gN 1) (seqS (sAsg (frzE (eLc (itSeq (frzE (binG isStr dSplit (eVar 1) (eC (.str " "))))) (gN 6) (eTest (bin dNeA (eVar 6) (eC (.str "")))) (eVar 6) [6])) (gN 4))
  (seqS (sIf (tAndD (eTest (bin dNeA (eVar 4) (eLst aNil))) (tOrD (eTest (bin dNotInA (bin dIxA (eVar 4) (eC (.int 0))) (eC (.rol ([("houses" : Str), ("stands" : Str), ("deed" : Str), ("hear" : Str), ("lost" : Str)].map .str))))) (eTest (bin dLt (binG isRol dIndexR (eC (.rol ([("houses" : Str), ("stands" : Str), ("deed" : Str), ("hear" : Str), ("lost" : Str)].map .str))) (bin dIxA (eVar 4) (eC (.int 0)))) (eVar 3))))) (sRet (eC .non)) sNext)
  (sIf (eTest (bin dNeA (eVar 4) (eLst aNil))) (seqS (sAsg (binG isRol dIndexR (eC (.rol ([("houses" : Str), ("stands" : Str), ("deed" : Str), ("hear" : Str), ("lost" : Str)].map .str))) (bin dIxA (eVar 4) (eC (.int 0)))) (gN 3))
  (sAppK 2 (bin dIxA (eVar 4) (eC (.int 0))) (frzE (eSl dSlA (eVar 4) (pS (eC (.int 1))) pN)))) sNext))))
  (sRet (eMove 2))))
theorem sc_rows_in : FnScope ["text", "line", "found", "last", "parts", "head", "part"] ["text"] (defScope Hd.s26) := ⟨rfl, rfl, rfl, by decide +kernel, rfl, by decide +kernel, by decide +kernel⟩
def fn_rows_in : PF := runP 1 6 bd_rows_in
theorem ok_rows_in {P : Program} {w : World} {K : PySem.W.Frag} {mg : Str → Option Value} {base : Heap} {cls : Nat → Addr} {flds : Nat → List Str} (g : Gf P w K mg base cls flds) (sf : Option Addr) : Fn P w K mg base 1 "rows_in" (spF ⟨P, w, K, cls, flds, sf, none⟩ (pureF fn_rows_in)) := g.d_rows_in.fn (fun f fd F => F.bindsN (ps := ["text"]) fun _ _ _ _ _ _ us hl => match us, hl with | [_], _ => rfl) fun f fd F => fn_p (W := ⟨P, w, K, cls, flds, sf, none⟩) F sc_rows_in rfl rfl fun cdv A outer s H vs E hr => by
  have o : Okx ⟨P, w, K, cls, flds, sf, none⟩ (cxOf CX0 P w K mg base ["text", "line", "found", "last", "parts", "head", "part"] "rows_in" (defScope Hd.s26) f cdv A outer s H E).nox := ⟨rfl, rfl, rfl, u65 hr, rfl, sc_rows_in.nd⟩
  have nd := sc_rows_in.nd
  exact (zsCons (zPar2 o (zmV 2 nd (vDcl [("head", 5)] o (ziSeq o (zGRol o g.l_HEADS)) (blkOk_by (N := ["text", "line", "found", "last", "parts", "head", "part"]) (sc := defScope Hd.s26) (by decide +kernel)) (fun _ _ _ _ _ => (zgN 5 nd)) (fun _ _ _ _ _ => ztNil) (fun _ _ _ _ _ => (zVar 5))) (zmV 3 nd (vZ zInt) zmNil)))
  (zsCons (zFor [1] PassesOwn.never o (ziSeq o (zV (zSplit o (zVar 0) zStr))) (zgN 1 nd) (zsCons (zSetLc (s := false) 4 [("part", 6)] o (ziSeq o (zV (zSplit o (zVar 1) zStr))) (blkOk_by (N := ["text", "line", "found", "last", "parts", "head", "part"]) (sc := defScope Hd.s26) (by decide +kernel)) (fun _ _ _ _ _ => (zgN 6 nd)) (fun _ _ _ _ _ => (ztOne (fCmpT ob_neA (r_neA o.blk) (zVar 6) (bZ zStr)))) (fun _ _ _ _ _ => (vZ (zVar 6))))
  (zsCons (zIf (s := false) ((zAndT (fCmpT ob_neA (r_neA o) (zVar 4) (bV (oLst zaNil))) (zAnd1 ((zOrT (fCmpT ob_notInA (r_notInA o) (fIx ob_ixA (r_ixA o) (zVar 4) (bZ zInt)) (bZ (zGRol o g.l_HEADS))) (zOr1 (fCmpT ob_lt op_lt (zIndexR o (zGRol o g.l_HEADS) (fIx ob_ixA (r_ixA o) (zVar 4) (bZ zInt))) (bZ (zVar 3)))))).pt))).pt (zsOne (vRet (s := false) (vZ zNon))) zsNil)
  (zsOne (zIf (s := false) (fCmpT ob_neA (r_neA o) (zVar 4) (bV (oLst zaNil))) (zsCons (vSet (s := false) 3 nd (vZ (zIndexR o (zGRol o g.l_HEADS) (fIx ob_ixA (r_ixA o) (zVar 4) (bZ zInt)))))
  (zsOne (zAppK 2 o (fIx ob_ixA (r_ixA o) (zVar 4) (bZ zInt)) (zV (vSlA o (zVar 4) (zpS zInt) zpN))))) zsNil)))))
  (zsOne (vRet (s := false) (vMove 2)))))
def bd_book_in : SM := (seqS (sAsg (frzA (eCall (pureF fn_rows_in) (aCons (eVar 0) aNil))) (gN 1))
  (seqS (sIf (tOrD (eTest (bin dIsN (eVar 1) (eC .non))) (tOrD (eTest (bin dNeA (un dLen (bin dIxA (eVar 1) (eC (.str "houses")))) (eC (.int 1)))) (tOrD (eTest (bin dNeA (un dLen (bin dIxA (eVar 1) (eC (.str "stands")))) (eC (.int 1)))) (eTest (bin dGt (un dLen (bin dIxA (eVar 1) (eC (.str "lost")))) (eC (.int 1))))))) (sRet (eC .non)) sNext)
  (seqS (sIf (tOrD (eTest (bin dNeA (frzE (eLc (itSeq (frzE (bin dAddA (bin dIxA (eVar 1) (eC (.str "deed"))) (bin dIxA (eVar 1) (eC (.str "hear")))))) (gN 4) (eTest (bin dNeA (un dLen (eVar 4)) (eC (.int 3)))) (eVar 4) [4])) (eLst aNil))) (eTest (bin dInA (frzE (eLst aNil)) (bin dIxA (eVar 1) (eC (.str "lost")))))) (sRet (eC .non)) sNext)
  (seqS (sAsg (frzE (eLc (itSeq (bin dIxA (eVar 1) (eC (.str "deed")))) (gN 4) tYesD (eTup (aCons (bin dIxA (eVar 4) (eC (.int 0))) (aCons (eIf (eTest (bin dEqA (bin dIxA (eVar 4) (eC (.int 1))) (eC (.str "_")))) (eC .non) (bin dIxA (eVar 4) (eC (.int 1)))) (aCons (bin dIxA (eVar 4) (eC (.int 2))) aNil)))) [4])) (gN 2))
  (seqS (sAsg (eIf (eTest (bin dNeA (bin dIxA (eVar 1) (eC (.str "lost"))) (eLst aNil))) (bin dIxA (bin dIxA (eVar 1) (eC (.str "lost"))) (eC (.int 0))) (frzE (eLst aNil))) (gN 3))
  (sRet (eCall (pureF (mkP 0 6 in_Book)) (aCons (bin dIxA (bin dIxA (eVar 1) (eC (.str "houses"))) (eC (.int 0))) (aCons (bin dIxA (bin dIxA (eVar 1) (eC (.str "stands"))) (eC (.int 0))) (aCons (eVar 2) (aCons (frzE (eLc (itSeq (bin dIxA (eVar 1) (eC (.str "hear")))) (gN 4) tYesD (un dTuple (eVar 4)) [4])) (aCons (eVar 3) aNil))))))))))))
theorem sc_book_in : FnScope ["text", "rows", "deeds", "lost", "row"] ["text"] (defScope Hd.s17) := ⟨rfl, rfl, rfl, by decide +kernel, rfl, by decide +kernel, by decide +kernel⟩
def fn_book_in : PF := runP 1 4 bd_book_in
theorem ok_book_in {P : Program} {w : World} {K : PySem.W.Frag} {mg : Str → Option Value} {base : Heap} {cls : Nat → Addr} {flds : Nat → List Str} (g : Gf P w K mg base cls flds) (sf : Option Addr) : Fn P w K mg base 5 "book_in" (spF ⟨P, w, K, cls, flds, sf, none⟩ (pureF fn_book_in)) := g.d_book_in.fn (fun f fd F => F.bindsN (ps := ["text"]) fun _ _ _ _ _ _ us hl => match us, hl with | [_], _ => rfl) fun f fd F => fn_p (W := ⟨P, w, K, cls, flds, sf, none⟩) F sc_book_in rfl rfl fun cdv A outer s H vs E hr => by
  have o : Okx ⟨P, w, K, cls, flds, sf, none⟩ (cxOf CX0 P w K mg base ["text", "rows", "deeds", "lost", "row"] "book_in" (defScope Hd.s17) f cdv A outer s H E).nox := ⟨rfl, rfl, rfl, u65 hr, rfl, sc_book_in.nd⟩
  have nd := sc_book_in.nd
  exact (zsCons (vSet (s := false) 1 nd (vZ (zVA (vCall (ok_rows_in g sf) (hr.mono (by decide)) (zaCons (zVar 0) zaNil)))))
  (zsCons (zIf (s := false) ((zOrT (fCmpT ob_isN op_isN (zVar 1) (bZ zNon)) (zOrT (fCmpT ob_neA (r_neA o) (zCallB ub_len (c_len o) (by rfl) g.f_len PySem.boot_len (bZ (fIx ob_ixA (r_ixA o) (zVar 1) (bZ zStr)))) (bZ zInt)) (zOrT (fCmpT ob_neA (r_neA o) (zCallB ub_len (c_len o) (by rfl) g.f_len PySem.boot_len (bZ (fIx ob_ixA (r_ixA o) (zVar 1) (bZ zStr)))) (bZ zInt)) (zOr1 (fCmpT ob_gt op_gt (zCallB ub_len (c_len o) (by rfl) g.f_len PySem.boot_len (bZ (fIx ob_ixA (r_ixA o) (zVar 1) (bZ zStr)))) (bZ zInt))))))).pt (zsOne (vRet (s := false) (vZ zNon))) zsNil)
  (zsCons (zIf (s := false) ((zOrT (fCmpT ob_neA (r_neA o) (zV (oLc [("row", 4)] o (ziSeq o (zV (fOpO ob_addA (r_addA o) (fIx ob_ixA (r_ixA o) (zVar 1) (bZ zStr)) (bZ (fIx ob_ixA (r_ixA o) (zVar 1) (bZ zStr)))))) (blkOk_by (N := ["text", "rows", "deeds", "lost", "row"]) (sc := defScope Hd.s17) (by decide +kernel)) (fun _ _ _ _ _ => (zgN 4 nd)) (fun _ _ _ _ _ => (ztOne (fCmpT ob_neA (r_neA o.blk) (zCallB ub_len (c_len o.blk) (by rfl) g.f_len PySem.boot_len (bZ (zVar 4))) (bZ zInt)))) (fun _ _ _ _ _ => (vZ (zVar 4))))) (bV (oLst zaNil))) (zOr1 (fCmpT ob_inA (r_inA o) (zV (oLst zaNil)) (bZ (fIx ob_ixA (r_ixA o) (zVar 1) (bZ zStr))))))).pt (zsOne (vRet (s := false) (vZ zNon))) zsNil)
  (zsCons (zSetLc (s := false) 2 [("row", 4)] o (ziSeq o (fIx ob_ixA (r_ixA o) (zVar 1) (bZ zStr))) (blkOk_by (N := ["text", "rows", "deeds", "lost", "row"]) (sc := defScope Hd.s17) (by decide +kernel)) (fun _ _ _ _ _ => (zgN 4 nd)) (fun _ _ _ _ _ => ztNil) (fun _ _ _ _ _ => (vZ (zTup (zaCons (fIx ob_ixA (r_ixA o.blk) (zVar 4) (bZ zInt)) (zaCons (zIfExp (fCmpT ob_eqA (r_eqA o.blk) (fIx ob_ixA (r_ixA o.blk) (zVar 4) (bZ zInt)) (bZ (zGStr g.c_NONE.ex.choose_spec))) zNon (fIx ob_ixA (r_ixA o.blk) (zVar 4) (bZ zInt))) (zaCons (fIx ob_ixA (r_ixA o.blk) (zVar 4) (bZ zInt)) zaNil)))))))
  (zsCons (vSet (s := false) 3 nd (vZ (zIfExp (fCmpT ob_neA (r_neA o) (fIx ob_ixA (r_ixA o) (zVar 1) (bZ zStr)) (bV (oLst zaNil))) (fIx ob_ixA (r_ixA o) (fIx ob_ixA (r_ixA o) (zVar 1) (bZ zStr)) (bZ zInt)) (zV (oLst zaNil)))))
  (zsOne (zTryC o (fun pn xe => by have o := o.tr pn xe; exact (zsOne (vRet (s := false) (vZ (zMake (mk_Book g sf) g.nf0 (hr.mono (by decide)) (zaCons (fIx ob_ixA (r_ixA o) (fIx ob_ixA (r_ixA o) (zVar 1) (bZ zStr)) (bZ zInt)) (zaCons (fIx ob_ixA (r_ixA o) (fIx ob_ixA (r_ixA o) (zVar 1) (bZ zStr)) (bZ zInt)) (zaCons (zVar 2) (zaCons (zV (oLc [("row", 4)] o (ziSeq o (fIx ob_ixA (r_ixA o) (zVar 1) (bZ zStr))) (blkOk_by (N := ["text", "rows", "deeds", "lost", "row"]) (sc := defScope Hd.s17) (by decide +kernel)) (fun _ _ _ _ _ => (zgN 4 nd)) (fun _ _ _ _ _ => ztNil) (fun _ _ _ _ _ => (vZ (zCallT ub_tuple (c_tuple o.blk) (by rfl) g.f_tuple PyProof.Rows.boot_tuple (bZ (zVar 4))))))) (zaCons (zVar 3) zaNil)))))))))))))))))
def bd_check_book : SM := (sIf (tNotD (eTest (un (dIsC 0) (eVar 0)))) sStuck sNext)
theorem sc_check_book : FnScope ["value"] ["value"] (defScope Hd.s18) := ⟨rfl, rfl, rfl, by decide +kernel, rfl, by decide +kernel, by decide +kernel⟩
def fn_check_book : PF := runP 1 0 bd_check_book
theorem ok_check_book {P : Program} {w : World} {K : PySem.W.Frag} {mg : Str → Option Value} {base : Heap} {cls : Nat → Addr} {flds : Nat → List Str} (g : Gf P w K mg base cls flds) (sf : Option Addr) : Fn P w K mg base 1 "check_book" (spF ⟨P, w, K, cls, flds, sf, none⟩ (pureF fn_check_book)) := g.d_check_book.fn (fun f fd F => F.bindsN (ps := ["value"]) fun _ _ _ _ _ _ us hl => match us, hl with | [_], _ => rfl) fun f fd F => fn_p (W := ⟨P, w, K, cls, flds, sf, none⟩) F sc_check_book rfl rfl fun cdv A outer s H vs E hr => by
  have o : Okx ⟨P, w, K, cls, flds, sf, none⟩ (cxOf CX0 P w K mg base ["value"] "check_book" (defScope Hd.s18) f cdv A outer s H E).nox := ⟨rfl, rfl, rfl, u65 hr, rfl, sc_check_book.nd⟩
  have nd := sc_check_book.nd
  exact (zsOne (zIf (s := false) (zNotT (zTest (zIsC 0 o (by rfl) g.f_isinstance (by rfl) g.g_Book g.ic0 g.nc0 (bZ (zVar 0))))) (zsOne zNever) zsNil))
def bd_read_book : SM := (seqS (sAsg (eIf (eTest (un (dIsiN "str") (eVar 0))) (frzA (eCall (pureF fn_book_in) (aCons (eVar 0) aNil))) (eC .non)) (gN 1))
  (seqS (sIf (eTest (bin dIsN (eVar 1) (eC .non))) sStuck sNext)
  (sRet (eVar 1))))
theorem sc_read_book : FnScope ["text", "found"] ["text"] (defScope Hd.s25) := ⟨rfl, rfl, rfl, by decide +kernel, rfl, by decide +kernel, by decide +kernel⟩
def fn_read_book : PF := runP 1 1 bd_read_book
theorem ok_read_book {P : Program} {w : World} {K : PySem.W.Frag} {mg : Str → Option Value} {base : Heap} {cls : Nat → Addr} {flds : Nat → List Str} (g : Gf P w K mg base cls flds) (sf : Option Addr) : Fn P w K mg base 6 "read_book" (spF ⟨P, w, K, cls, flds, sf, none⟩ (pureF fn_read_book)) := g.d_read_book.fn (fun f fd F => F.bindsN (ps := ["text"]) fun _ _ _ _ _ _ us hl => match us, hl with | [_], _ => rfl) fun f fd F => fn_p (W := ⟨P, w, K, cls, flds, sf, none⟩) F sc_read_book rfl rfl fun cdv A outer s H vs E hr => by
  have o : Okx ⟨P, w, K, cls, flds, sf, none⟩ (cxOf CX0 P w K mg base ["text", "found"] "read_book" (defScope Hd.s25) f cdv A outer s H E).nox := ⟨rfl, rfl, rfl, u65 hr, rfl, sc_read_book.nd⟩
  have nd := sc_read_book.nd
  exact (zsCons (vSet (s := false) 1 nd (vZ (zIfExp (zTest (zIsi "str" o (by rfl) g.f_isinstance (by rfl) g.f_str (by rfl) (by decide +kernel) (bZ (zVar 0)))) (zVA (vCall (ok_book_in g sf) (hr.mono (by decide)) (zaCons (zVar 0) zaNil))) zNon)))
  (zsCons (zIf (s := false) (fCmpT ob_isN op_isN (zVar 1) (bZ zNon)) (zsOne zNever) zsNil)
  (zsOne (vRet (s := false) (vZ (zVar 1))))))
def bd_check_bookX : SM := (sIf (tNotD (eTest (un (dIsC 0) (eVar 0)))) (sRaise 3 (eVar 0)) sNext)
theorem sc_check_bookX : FnScope ["value"] ["value"] (defScope Hd.s18) := ⟨rfl, rfl, rfl, by decide +kernel, rfl, by decide +kernel, by decide +kernel⟩
def fn_check_bookX : PF := runP 1 0 bd_check_bookX
theorem ok_check_bookX {P : Program} {w : World} {K : PySem.W.Frag} {mg : Str → Option Value} {base : Heap} {cls : Nat → Addr} {flds : Nat → List Str} (g : Gf P w K mg base cls flds) (sf : Option Addr) : FnX P w K mg base 3 "check_book" (spX ⟨P, w, K, cls, flds, sf, none⟩ (pureF fn_check_bookX)) := g.d_check_book.fnX (fun f fd F => F.bindsN (ps := ["value"]) fun _ _ _ _ _ _ us hl => match us, hl with | [_], _ => rfl) fun f fd F => fn_xp (W := ⟨P, w, K, cls, flds, sf, none⟩) F sc_check_bookX rfl rfl fun cdv A outer s H vs E hr WW tk => by
  have o : Okx ⟨P, w, K, cls, flds, sf, none⟩ (cxOf (L2.CX P w) P w K mg base ["value"] "check_book" (defScope Hd.s18) f cdv A outer s H E) := ⟨rfl, rfl, rfl, u65 hr, rfl, sc_check_bookX.nd⟩
  have nd := sc_check_bookX.nd
  exact (zsOne (zIf (s := false) (zNotT (zTest (zIsC 0 o (by rfl) g.f_isinstance (by rfl) g.g_Book g.ic0 g.nc0 (bZ (zVar 0))))) (zsOne (zRaise (s := false) 3 o g.x_InvalidBook g.xl_InvalidBook tk (hr.mono (by decide)) g.g_InvalidBook (zVar 0))) zsNil))
def bd_text_of : SM := (seqS (sExpr (frzA (eCall (pureF fn_check_book) (aCons (eVar 0) aNil))))
  (seqS (sAsg (eLst (aCons (frzE (eStarL (eC (.str "houses")) (eFld 0 0 (eVar 0)))) (aCons (frzE (eStarL (eC (.str "stands")) (eFld 0 1 (eVar 0)))) aNil))) (gN 1))
  (seqS (sExt 1 (eLc (itSeq (eFld 0 2 (eVar 0))) (gT 3 (gsCons (gN 4) (gsCons (gN 5) (gsCons (gN 6) gsNil)))) tYesD (frzE (eLst (aCons (eC (.str "deed")) (aCons (eVar 4) (aCons (eIf (eTest (bin dIsN (eVar 5) (eC .non))) (eC (.str "_")) (eVar 5)) (aCons (eVar 6) aNil)))))) [4, 5, 6]))
  (seqS (sExt 1 (eLc (itSeq (eFld 0 3 (eVar 0))) (gN 2) tYesD (frzE (eStarL (eC (.str "hear")) (eVar 2))) [2]))
  (seqS (sIf (eTest (bin dNeA (eFld 0 4 (eVar 0)) (eTup aNil))) (sApp 1 (frzE (eStarL (eC (.str "lost")) (eFld 0 4 (eVar 0))))) sNext)
  (sRet (binG isStr dJoin (eC (.str "
")) (frzE (eLc (itOwn 1) (gN 3) tYesD (binG isStr dJoin (eC (.str " ")) (eVar 3)) [3])))))))))
theorem sc_text_of : FnScope ["book", "rows", "hearing", "row", "place", "sound", "other"] ["book"] (defScope Hd.s27) := ⟨rfl, rfl, rfl, by decide +kernel, rfl, by decide +kernel, by decide +kernel⟩
def fn_text_of : PF := runP 1 6 bd_text_of
theorem ok_text_of {P : Program} {w : World} {K : PySem.W.Frag} {mg : Str → Option Value} {base : Heap} {cls : Nat → Addr} {flds : Nat → List Str} (g : Gf P w K mg base cls flds) (sf : Option Addr) : Fn P w K mg base 2 "text_of" (spF ⟨P, w, K, cls, flds, sf, none⟩ (pureF fn_text_of)) := g.d_text_of.fn (fun f fd F => F.bindsN (ps := ["book"]) fun _ _ _ _ _ _ us hl => match us, hl with | [_], _ => rfl) fun f fd F => fn_p (W := ⟨P, w, K, cls, flds, sf, none⟩) F sc_text_of rfl rfl fun cdv A outer s H vs E hr => by
  have o : Okx ⟨P, w, K, cls, flds, sf, none⟩ (cxOf CX0 P w K mg base ["book", "rows", "hearing", "row", "place", "sound", "other"] "text_of" (defScope Hd.s27) f cdv A outer s H E).nox := ⟨rfl, rfl, rfl, u65 hr, rfl, sc_text_of.nd⟩
  have nd := sc_text_of.nd
  exact (zsCons (zExpr (s := false) (zVA (vCall (ok_check_book g sf) (hr.mono (by decide)) (zaCons (zVar 0) zaNil))))
  (zsCons (vSet (s := false) 1 nd (oLst (zaCons (zV (vStarL o zStr (zFld 0 0 o g.cl0 g.na_Book_homes g.nd0 (zVar 0) (hf := g.fl0_0)))) (zaCons (zV (vStarL o zStr (zFld 0 1 o g.cl0 g.na_Book_places g.nd0 (zVar 0) (hf := g.fl0_1)))) zaNil))))
  (zsCons (zExt 1 (hx := (bV (oLc [("place", 4), ("sound", 5), ("other", 6)] o (ziSeq o (zFld 0 2 o g.cl0 g.na_Book_acts g.nd0 (zVar 0) (hf := g.fl0_2))) (blkOk_by (N := ["book", "rows", "hearing", "row", "place", "sound", "other"]) (sc := defScope Hd.s27) (by decide +kernel)) (fun _ _ _ _ _ => (zgT o.blk.K o.blk.c (zgsCons (zgN 4 nd) (zgsCons (zgN 5 nd) (zgsCons (zgN 6 nd) zgsNil))))) (fun _ _ _ _ _ => ztNil) (fun _ _ _ _ _ => (vZ (zV (oLst (zaCons zStr (zaCons (zVar 4) (zaCons (zIfExp (fCmpT ob_isN op_isN (zVar 5) (bZ zNon)) (zGStr g.c_NONE.ex.choose_spec) (zVar 5)) (zaCons (zVar 6) zaNil))))))))))))
  (zsCons (zExt 1 (hx := (bV (oLc [("hearing", 2)] o (ziSeq o (zFld 0 3 o g.cl0 g.na_Book_ears g.nd0 (zVar 0) (hf := g.fl0_3))) (blkOk_by (N := ["book", "rows", "hearing", "row", "place", "sound", "other"]) (sc := defScope Hd.s27) (by decide +kernel)) (fun _ _ _ _ _ => (zgN 2 nd)) (fun _ _ _ _ _ => ztNil) (fun _ _ _ _ _ => (vZ (zV (vStarL o.blk zStr (zVar 2)))))))))
  (zsCons (zIf (s := false) (fCmpT ob_neA (r_neA o) (zFld 0 4 o g.cl0 g.na_Book_losses g.nd0 (zVar 0) (hf := g.fl0_4)) (bZ (zTup zaNil))) (zsOne (zApp 1 (hx := (vZ (zV (vStarL o zStr (zFld 0 4 o g.cl0 g.na_Book_losses g.nd0 (zVar 0) (hf := g.fl0_4)))))))) zsNil)
  (zsOne (vRet (s := false) (vZ (zJoin o zStr (zV (vSoft (oLc [("row", 3)] o (ziOwn 1 o) (blkOk_by (N := ["book", "rows", "hearing", "row", "place", "sound", "other"]) (sc := defScope Hd.s27) (by decide +kernel)) (fun _ _ _ _ _ => (zgN 3 nd)) (fun _ _ _ _ _ => ztNil) (fun _ _ _ _ _ => (vZ (zJoin o.blk zStr (zVar 3))))))))))))))))
def bd_text_ofX : SM := (seqS (sExpr (frzA (eCallX (pureF fn_check_bookX) (aCons (eVar 0) aNil))))
  (seqS (sAsg (eLst (aCons (frzE (eStarL (eC (.str "houses")) (eFld 0 0 (eVar 0)))) (aCons (frzE (eStarL (eC (.str "stands")) (eFld 0 1 (eVar 0)))) aNil))) (gN 1))
  (seqS (sExt 1 (eLc (itSeq (eFld 0 2 (eVar 0))) (gT 3 (gsCons (gN 4) (gsCons (gN 5) (gsCons (gN 6) gsNil)))) tYesD (frzE (eLst (aCons (eC (.str "deed")) (aCons (eVar 4) (aCons (eIf (eTest (bin dIsN (eVar 5) (eC .non))) (eC (.str "_")) (eVar 5)) (aCons (eVar 6) aNil)))))) [4, 5, 6]))
  (seqS (sExt 1 (eLc (itSeq (eFld 0 3 (eVar 0))) (gN 2) tYesD (frzE (eStarL (eC (.str "hear")) (eVar 2))) [2]))
  (seqS (sIf (eTest (bin dNeA (eFld 0 4 (eVar 0)) (eTup aNil))) (sApp 1 (frzE (eStarL (eC (.str "lost")) (eFld 0 4 (eVar 0))))) sNext)
  (sRet (binG isStr dJoin (eC (.str "
")) (frzE (eLc (itOwn 1) (gN 3) tYesD (binG isStr dJoin (eC (.str " ")) (eVar 3)) [3])))))))))
theorem sc_text_ofX : FnScope ["book", "rows", "hearing", "row", "place", "sound", "other"] ["book"] (defScope Hd.s27) := ⟨rfl, rfl, rfl, by decide +kernel, rfl, by decide +kernel, by decide +kernel⟩
def fn_text_ofX : PF := runP 1 6 bd_text_ofX
theorem ok_text_ofX {P : Program} {w : World} {K : PySem.W.Frag} {mg : Str → Option Value} {base : Heap} {cls : Nat → Addr} {flds : Nat → List Str} (g : Gf P w K mg base cls flds) (sf : Option Addr) : FnX P w K mg base 4 "text_of" (spX ⟨P, w, K, cls, flds, sf, none⟩ (pureF fn_text_ofX)) := g.d_text_of.fnX (fun f fd F => F.bindsN (ps := ["book"]) fun _ _ _ _ _ _ us hl => match us, hl with | [_], _ => rfl) fun f fd F => fn_xp (W := ⟨P, w, K, cls, flds, sf, none⟩) F sc_text_ofX rfl rfl fun cdv A outer s H vs E hr WW tk => by
  have o : Okx ⟨P, w, K, cls, flds, sf, none⟩ (cxOf (L2.CX P w) P w K mg base ["book", "rows", "hearing", "row", "place", "sound", "other"] "text_of" (defScope Hd.s27) f cdv A outer s H E) := ⟨rfl, rfl, rfl, u65 hr, rfl, sc_text_ofX.nd⟩
  have nd := sc_text_ofX.nd
  exact (zsCons (zExpr (s := false) (zVA (vCallX (ok_check_bookX g sf) tk (hr.mono (by decide)) (zaCons (zVar 0) zaNil))))
  (zsCons (vSet (s := false) 1 nd (oLst (zaCons (zV (vStarL o zStr (zFld 0 0 o g.cl0 g.na_Book_homes g.nd0 (zVar 0) (hf := g.fl0_0)))) (zaCons (zV (vStarL o zStr (zFld 0 1 o g.cl0 g.na_Book_places g.nd0 (zVar 0) (hf := g.fl0_1)))) zaNil))))
  (zsCons (zExt 1 (hx := (bV (oLc [("place", 4), ("sound", 5), ("other", 6)] o (ziSeq o (zFld 0 2 o g.cl0 g.na_Book_acts g.nd0 (zVar 0) (hf := g.fl0_2))) (blkOk_by (N := ["book", "rows", "hearing", "row", "place", "sound", "other"]) (sc := defScope Hd.s27) (by decide +kernel)) (fun _ _ _ _ _ => (zgT o.blk.K o.blk.c (zgsCons (zgN 4 nd) (zgsCons (zgN 5 nd) (zgsCons (zgN 6 nd) zgsNil))))) (fun _ _ _ _ _ => ztNil) (fun _ _ _ _ _ => (vZ (zV (oLst (zaCons zStr (zaCons (zVar 4) (zaCons (zIfExp (fCmpT ob_isN op_isN (zVar 5) (bZ zNon)) (zGStr g.c_NONE.ex.choose_spec) (zVar 5)) (zaCons (zVar 6) zaNil))))))))))))
  (zsCons (zExt 1 (hx := (bV (oLc [("hearing", 2)] o (ziSeq o (zFld 0 3 o g.cl0 g.na_Book_ears g.nd0 (zVar 0) (hf := g.fl0_3))) (blkOk_by (N := ["book", "rows", "hearing", "row", "place", "sound", "other"]) (sc := defScope Hd.s27) (by decide +kernel)) (fun _ _ _ _ _ => (zgN 2 nd)) (fun _ _ _ _ _ => ztNil) (fun _ _ _ _ _ => (vZ (zV (vStarL o.blk zStr (zVar 2)))))))))
  (zsCons (zIf (s := false) (fCmpT ob_neA (r_neA o) (zFld 0 4 o g.cl0 g.na_Book_losses g.nd0 (zVar 0) (hf := g.fl0_4)) (bZ (zTup zaNil))) (zsOne (zApp 1 (hx := (vZ (zV (vStarL o zStr (zFld 0 4 o g.cl0 g.na_Book_losses g.nd0 (zVar 0) (hf := g.fl0_4)))))))) zsNil)
  (zsOne (vRet (s := false) (vZ (zJoin o zStr (zV (vSoft (oLc [("row", 3)] o (ziOwn 1 o) (blkOk_by (N := ["book", "rows", "hearing", "row", "place", "sound", "other"]) (sc := defScope Hd.s27) (by decide +kernel)) (fun _ _ _ _ _ => (zgN 3 nd)) (fun _ _ _ _ _ => ztNil) (fun _ _ _ _ _ => (vZ (zJoin o.blk zStr (zVar 3))))))))))))))))
def bd_law : SM := (seqS (sFor (itRange (eC (.int 5))) (gN 1) (seqS (sAsg (eCall (pureF fn__law_generator) (aCons (eVar 0) (aCons (eVar 1) aNil))) (gNew 6))
  (seqS (sAsg (frzA (eCall fn__law_parts (aCons (eVar 6) (aCons (eC (.int 3)) (aCons (eC (.int 4)) aNil))))) (gN 7))
  (seqS (sMix ((11, (frzA (eCall (pureF fn__law_book) (aCons (eVar 7) aNil)))) :: ((12, (frzA (eCall (pureF fn__law_lines) (aCons (eVar 7) aNil)))) :: [])))
  (seqS (sAsg (binG isStr dJoin (eC (.str "
")) (frzE (eLc (itSeq (eVar 12)) (gN 16) tYesD (binG isStr dJoin (eC (.str " ")) (eVar 16)) [16]))) (gN 8))
  (seqS (sIf (tOrD (eTest (bin dNeA (frzA (eCall (pureF fn_text_of) (aCons (eVar 11) aNil))) (eVar 8))) (eTest (bin dNeA (frzA (eCall (pureF fn_text_of) (aCons (frzA (eCall (pureF fn__law_book) (aCons (eVar 7) aNil))) aNil))) (eVar 8)))) (sRet (eC (.bl false))) sNext)
  (seqS (sFor (itSeq (frzE (eLst (aCons (eVar 8) (aCons (frzA (eCall fn__law_spaced (aCons (eVar 6) (aCons (eVar 12) aNil)))) (aCons (frzA (eCall fn__law_spaced (aCons (eVar 6) (aCons (eVar 12) aNil)))) (aCons (frzE (bin dAddA (eVar 8) (eC (.str "
")))) aNil))))))) (gN 9) (seqS (sAsg (frzA (eCall (pureF fn_read_book) (aCons (eVar 9) aNil))) (gN 5))
  (seqS (sIf (tOrD (tNotD (eTest (un (dIsC 0) (eVar 5)))) (tOrD (eTest (eNeO 0 (pureF fn_Book___eq__) (eVar 5) (eVar 11))) (eTest (bin dNeA (frzA (eCall (pureF fn_text_of) (aCons (eVar 5) aNil))) (eVar 8))))) (sRet (eC (.bl false))) sNext)
  (seqS (sAsg (frzE (eLst (aCons (frzA (eMeth 0 (pureF fn_Book_houses) (eVar 5) aNil)) (aCons (frzA (eMeth 0 (pureF fn_Book_stands) (eVar 5) aNil)) (aCons (frzA (eMeth 0 (pureF fn_Book_deeds) (eVar 5) aNil)) (aCons (frzA (eMeth 0 (pureF fn_Book_hearings) (eVar 5) aNil)) (aCons (frzA (eMeth 0 (pureF fn_Book_lost) (eVar 5) aNil)) aNil))))))) (gN 13))
  (sIf (eTest (bin dNeA (un dRepr (eVar 13)) (un dRepr (eLc (itSeq (eVar 7)) (gN 4) tYesD (frzE (un dList (eVar 4))) [4])))) (sRet (eC (.bl false))) sNext)))))
  (sFor (itSeq (frzE (eLst (aCons (eC .non) (aCons (eC (.int 3)) (aCons (frzE (eLst aNil)) (aCons (eTup aNil) (aCons (frzA eDic) (aCons (eC (.str "houses a")) (aCons (eC (.bl true)) aNil)))))))))) (gN 10) (seqS (sAsg (eC .non) (gN 14))
  (seqS (sTry 15 14 [3] (sExpr (frzA (eCallX (pureF fn_text_ofX) (aCons (eVar 10) aNil)))))
  (sIf (tOrD (eTest (bin dIsN (eVar 14) (eC .non))) (eTest (bin dNeA (un dRepr (eExnF [3] (eVar 14))) (un dRepr (eVar 10))))) (sRet (eC (.bl false))) sNext)))))))))))
  (seqS (sAsg (frzE (eLst (aCons (eC (.str "houses houses deed")) (aCons (eC (.str "stands stands hear lost")) (aCons (eC (.str "deed hear lost stands")) (aCons (eC (.str "deed deed _ houses")) aNil)))))) (gN 2))
  (seqS (sAsg (frzE (bin dAddA (eVar 2) (eLst (aCons (eC (.str "hear lost deed hear")) (aCons (eC (.str "hear houses lost deed")) (aCons (eC (.str "lost lost houses")) aNil)))))) (gN 2))
  (seqS (sAsg (frzE (eLst (aCons (eTup (aCons (eC (.str "hear")) (aCons (eC (.str "lost")) (aCons (eC (.str "stands")) aNil)))) (aCons (eTup (aCons (eC (.str "deed")) (aCons (eC .non) (aCons (eC (.str "houses")) aNil)))) aNil)))) (gN 3))
  (seqS (sAsg (eCall (pureF (mkP 0 6 in_Book)) (aCons (frzE (eLst (aCons (eC (.str "houses")) (aCons (eC (.str "deed")) aNil)))) (aCons (frzE (eLst (aCons (eC (.str "stands")) (aCons (eC (.str "hear")) (aCons (eC (.str "lost")) aNil))))) (aCons (eVar 3) (aCons (frzE (eLst aNil)) (aCons (frzE (eLst (aCons (eC (.str "lost")) (aCons (eC (.str "houses")) aNil)))) aNil)))))) (gN 4))
  (seqS (sAsg (frzA (eCall (pureF fn_read_book) (aCons (frzE (bin dAddA (frzE (bin dMulAS (eC (.str " ")) (eC (.int 2000)))) (binG isStr dJoin (eC (.str "

")) (eVar 2)))) aNil))) (gN 5))
  (seqS (sIf (tOrD (eTest (bin dNeA (frzA (eMeth 0 (pureF fn_Book_hearings) (eVar 5) aNil)) (eLst (aCons (eTup (aCons (eC (.str "lost")) (aCons (eC (.str "deed")) (aCons (eC (.str "hear")) aNil)))) (aCons (eTup (aCons (eC (.str "houses")) (aCons (eC (.str "lost")) (aCons (eC (.str "deed")) aNil)))) aNil))))) (eTest (bin dNeA (frzA (eMeth 0 (pureF fn_Book_deeds) (eVar 5) aNil)) (eVar 3)))) (sRet (eC (.bl false))) sNext)
  (sRet (bin dEqA (frzE (eLst (aCons (frzA (eMeth 0 (pureF fn_Book_houses) (eVar 5) aNil)) (aCons (frzA (eMeth 0 (pureF fn_Book_stands) (eVar 5) aNil)) (aCons (frzA (eMeth 0 (pureF fn_Book_lost) (eVar 5) aNil)) aNil))))) (eLst (aCons (frzA (eMeth 0 (pureF fn_Book_houses) (eVar 4) aNil)) (aCons (frzA (eMeth 0 (pureF fn_Book_stands) (eVar 4) aNil)) (aCons (frzA (eMeth 0 (pureF fn_Book_lost) (eVar 4) aNil)) aNil)))))))))))))
theorem sc_law : FnScope ["_law_script", "_law_index", "_law_rows", "_law_deeds", "_law_some", "_law_told", "_law_generator_here", "_law_parts_here", "_law_due", "_law_text", "_law_odd", "_law_book_here", "_law_lines_here", "_law_lists", "_law_caught", "error", "_law_tokens"] ["_law_script"] (defScope Hd.s24) := ⟨rfl, rfl, rfl, by decide +kernel, rfl, by decide +kernel, by decide +kernel⟩
def fn_law : FV := runF 1 16 bd_law
theorem okF_law {P : Program} {w : World} {K : PySem.W.Frag} {mg : Str → Option Value} {base : Heap} {cls : Nat → Addr} {flds : Nat → List Str} (g : Gf P w K mg base cls flds) (sf : Option Addr) {f : Addr} {fd : FuncData} (F : FunD K "law" "law" (defArgs Hd.s24) (defBody Hd.s24) (defScope Hd.s24) [] [] f fd) : VmX.FnG P w K mg base CX0 7 f fd ["_law_script"] (spF ⟨P, w, K, cls, flds, sf, none⟩ fn_law) := fn_vC (W := ⟨P, w, K, cls, flds, sf, none⟩) F sc_law rfl rfl fun cdv A outer s H vs E hr hq => by
  have o : Okx ⟨P, w, K, cls, flds, sf, none⟩ (cxOf CX0 P w K mg base ["_law_script", "_law_index", "_law_rows", "_law_deeds", "_law_some", "_law_told", "_law_generator_here", "_law_parts_here", "_law_due", "_law_text", "_law_odd", "_law_book_here", "_law_lines_here", "_law_lists", "_law_caught", "error", "_law_tokens"] "law" (defScope Hd.s24) f cdv A outer s H E).nox := ⟨rfl, rfl, rfl, u65 hr, rfl, sc_law.nd⟩
  have nd := sc_law.nd
  exact (zsCons (zFor [1] PassesOwn.never o (ziRange (by rfl) g.f_range zInt) (zgN 1 nd) (zsCons (nSet (s := false) 6 nd (vCall (ok__law_generator g sf) (hr.mono (by decide)) (zaCons (zVar 0) (zaCons (zVar 1) zaNil))))
  (zsCons (vSet (s := false) 7 nd (vZ (zVA (vCall (ok__law_parts g sf) (hr.mono (by decide)) (zaCons (zVar 6) (zaCons zInt (zaCons zInt zaNil)))))))
  (zsCons (zPar2 o (zmV 11 nd (vZ (zVA (vCall (ok__law_book g sf) (hr.mono (by decide)) (zaCons (zVar 7) zaNil)))) (zmV 12 nd (vZ (zVA (vCall (ok__law_lines g sf) (hr.mono (by decide)) (zaCons (zVar 7) zaNil)))) zmNil)))
  (zsCons (vSet (s := false) 8 nd (vZ (zJoin o zStr (zV (oLc [("_law_tokens", 16)] o (ziSeq o (zVar 12)) (blkOk_by (N := ["_law_script", "_law_index", "_law_rows", "_law_deeds", "_law_some", "_law_told", "_law_generator_here", "_law_parts_here", "_law_due", "_law_text", "_law_odd", "_law_book_here", "_law_lines_here", "_law_lists", "_law_caught", "error", "_law_tokens"]) (sc := defScope Hd.s24) (by decide +kernel)) (fun _ _ _ _ _ => (zgN 16 nd)) (fun _ _ _ _ _ => ztNil) (fun _ _ _ _ _ => (vZ (zJoin o.blk zStr (zVar 16)))))))))
  (zsCons (zIf (s := false) ((zOrT (fCmpT ob_neA (r_neA o) (zVA (vCall (ok_text_of g sf) (hr.mono (by decide)) (zaCons (zVar 11) zaNil))) (bZ (zVar 8))) (zOr1 (fCmpT ob_neA (r_neA o) (zVA (vCall (ok_text_of g sf) (hr.mono (by decide)) (zaCons (zVA (vCall (ok__law_book g sf) (hr.mono (by decide)) (zaCons (zVar 7) zaNil))) zaNil))) (bZ (zVar 8)))))).pt (zsOne (vRet (s := false) (vZ zBl))) zsNil)
  (zsCons (zFor [9] PassesOwn.never o (ziSeq o (zV (oLst (zaCons (zVar 8) (zaCons (zVA (vCall (ok__law_spaced g sf) (hr.mono (by decide)) (zaCons (zVar 6) (zaCons (zVar 12) zaNil)))) (zaCons (zVA (vCall (ok__law_spaced g sf) (hr.mono (by decide)) (zaCons (zVar 6) (zaCons (zVar 12) zaNil)))) (zaCons (zV (fOpO ob_addA (r_addA o) (zVar 8) (bZ zStr))) zaNil))))))) (zgN 9 nd) (zsCons (vSet (s := false) 5 nd (vZ (zVA (vCall (ok_read_book g sf) (hr.mono (by decide)) (zaCons (zVar 9) zaNil)))))
  (zsCons (zIf (s := false) ((zOrT (zNotT (zTest (zIsC 0 o (by rfl) g.f_isinstance (by rfl) g.g_Book g.ic0 g.nc0 (bZ (zVar 5))))) (zOrT (zNeOT 0 (ne_Book g sf) (hr.mono (by decide)) (zVar 5) (zVar 11)) (zOr1 (fCmpT ob_neA (r_neA o) (zVA (vCall (ok_text_of g sf) (hr.mono (by decide)) (zaCons (zVar 5) zaNil))) (bZ (zVar 8))))))).pt (zsOne (vRet (s := false) (vZ zBl))) zsNil)
  (zsCons (vSet (s := false) 13 nd (vZ (zV (oLst (zaCons (zVA (vMeth0 0 o (ok_Book_houses g sf) (hr.mono (by decide)) (zVar 5) g.nm_Book_houses)) (zaCons (zVA (vMeth0 0 o (ok_Book_stands g sf) (hr.mono (by decide)) (zVar 5) g.nm_Book_stands)) (zaCons (zVA (vMeth0 0 o (ok_Book_deeds g sf) (hr.mono (by decide)) (zVar 5) g.nm_Book_deeds)) (zaCons (zVA (vMeth0 0 o (ok_Book_hearings g sf) (hr.mono (by decide)) (zVar 5) g.nm_Book_hearings)) (zaCons (zVA (vMeth0 0 o (ok_Book_lost g sf) (hr.mono (by decide)) (zVar 5) g.nm_Book_lost)) zaNil)))))))))
  (zsOne (zIf (s := false) (fCmpT ob_neA (r_neA o) (zRepr o hq (by rfl) g.f_repr (bZ (zVar 13))) (bZ (zRepr o hq (by rfl) g.f_repr (bV (oLc [("_law_some", 4)] o (ziSeq o (zVar 7)) (blkOk_by (N := ["_law_script", "_law_index", "_law_rows", "_law_deeds", "_law_some", "_law_told", "_law_generator_here", "_law_parts_here", "_law_due", "_law_text", "_law_odd", "_law_book_here", "_law_lines_here", "_law_lists", "_law_caught", "error", "_law_tokens"]) (sc := defScope Hd.s24) (by decide +kernel)) (fun _ _ _ _ _ => (zgN 4 nd)) (fun _ _ _ _ _ => ztNil) (fun _ _ _ _ _ => (vZ (zV (vCallT ub_list (c_list o.blk) (by rfl) g.f_list PyProof.Rows.boot_list (bZ (zVar 4))))))))))) (zsOne (vRet (s := false) (vZ zBl))) zsNil))))))
  (zsOne (zFor [10] PassesOwn.never o (ziSeq o (zV (oLst (zaCons zNon (zaCons zInt (zaCons (zV (oLst zaNil)) (zaCons (zTup zaNil) (zaCons zDicF (zaCons zStr (zaCons zBl zaNil)))))))))) (zgN 10 nd) (zsCons (vSet (s := false) 14 nd (vZ zNon))
  (zsCons (zTry (i := 15) (j := 14) (es := [3]) o (by decide) rfl rfl rfl g.g_InvalidBook g.xo_InvalidBook.1 g.xo_InvalidBook.2 (fun WW pn xe tk => by have o := o.tr pn xe; exact (zsOne (zExpr (s := false) (zVA (vCallX (ok_text_ofX g sf) tk (hr.mono (by decide)) (zaCons (zVar 10) zaNil)))))))
  (zsOne (zIf (s := false) ((zOrT (fCmpT ob_isN op_isN (zVar 14) (bZ zNon)) (zOr1 (fCmpT ob_neA (r_neA o) (zRepr o hq (by rfl) g.f_repr (bZ (zExnF o (g.xf_value _) (zVar 14)))) (bZ (zRepr o hq (by rfl) g.f_repr (bZ (zVar 10)))))))).pt (zsOne (vRet (s := false) (vZ zBl))) zsNil)))))))))))))
  (zsCons (vSet (s := false) 2 nd (vZ (zV (oLst (zaCons zStr (zaCons zStr (zaCons zStr (zaCons zStr zaNil))))))))
  (zsCons (vSet (s := false) 2 nd (vZ (zV (fOpO ob_addA (r_addA o) (zVar 2) (bV (oLst (zaCons zStr (zaCons zStr (zaCons zStr zaNil)))))))))
  (zsCons (vSet (s := false) 3 nd (vZ (zV (oLst (zaCons (zTup (zaCons zStr (zaCons zStr (zaCons zStr zaNil)))) (zaCons (zTup (zaCons zStr (zaCons zNon (zaCons zStr zaNil)))) zaNil))))))
  (zsCons (vSet (s := false) 4 nd (vZ (zMake (mk_Book g sf) g.nf0 (hr.mono (by decide)) (zaCons (zV (oLst (zaCons zStr (zaCons zStr zaNil)))) (zaCons (zV (oLst (zaCons zStr (zaCons zStr (zaCons zStr zaNil))))) (zaCons (zVar 3) (zaCons (zV (oLst zaNil)) (zaCons (zV (oLst (zaCons zStr (zaCons zStr zaNil)))) zaNil))))))))
  (zsCons (vSet (s := false) 5 nd (vZ (zVA (vCall (ok_read_book g sf) (hr.mono (by decide)) (zaCons (zV (fOpO ob_addA (r_addA o) (zV (fOpO ob_mulAS (r_mulAS o) zStr (bZ zInt))) (bZ (zJoin o zStr (zVar 2))))) zaNil)))))
  (zsCons (zIf (s := false) ((zOrT (fCmpT ob_neA (r_neA o) (zVA (vMeth0 0 o (ok_Book_hearings g sf) (hr.mono (by decide)) (zVar 5) g.nm_Book_hearings)) (bV (oLst (zaCons (zTup (zaCons zStr (zaCons zStr (zaCons zStr zaNil)))) (zaCons (zTup (zaCons zStr (zaCons zStr (zaCons zStr zaNil)))) zaNil))))) (zOr1 (fCmpT ob_neA (r_neA o) (zVA (vMeth0 0 o (ok_Book_deeds g sf) (hr.mono (by decide)) (zVar 5) g.nm_Book_deeds)) (bZ (zVar 3)))))).pt (zsOne (vRet (s := false) (vZ zBl))) zsNil)
  (zsOne (vRet (s := false) (vZ (fCmp ob_eqA (r_eqA o) (zV (oLst (zaCons (zVA (vMeth0 0 o (ok_Book_houses g sf) (hr.mono (by decide)) (zVar 5) g.nm_Book_houses)) (zaCons (zVA (vMeth0 0 o (ok_Book_stands g sf) (hr.mono (by decide)) (zVar 5) g.nm_Book_stands)) (zaCons (zVA (vMeth0 0 o (ok_Book_lost g sf) (hr.mono (by decide)) (zVar 5) g.nm_Book_lost)) zaNil))))) (bV (oLst (zaCons (zVA (vMeth0 0 o (ok_Book_houses g sf) (hr.mono (by decide)) (zVar 4) g.nm_Book_houses)) (zaCons (zVA (vMeth0 0 o (ok_Book_stands g sf) (hr.mono (by decide)) (zVar 4) g.nm_Book_stands)) (zaCons (zVA (vMeth0 0 o (ok_Book_lost g sf) (hr.mono (by decide)) (zVar 4) g.nm_Book_lost)) zaNil))))))))))))))))
end Vm

namespace Hm
structure Dd where
  bh : Bool
  pl : Nat
  ot : Nat
  fail : Bool
  hh : Nat → Option Nat
  hs : Nat → Option Nat
def Dd.mv (d : Dd) (i p : Nat) : Prop := d.hs i = some p ∨ (i = p ∧ (d.fail = true ∨ d.hs i = none))
def Dd.hm (d : Dd) (i p : Nat) : Prop := d.hh i = some p ∨ (i = p ∧ (d.fail = true ∨ d.hh i = none))
def gt (c : List Nat) (i : Nat) : Nat := c.getD i 0
@[simp] theorem gt_nil (i : Nat) : gt [] i = 0 := by simp [gt]
@[simp] theorem gt_zero (x : Nat) (r : List Nat) : gt (x :: r) 0 = x := by simp [gt]
@[simp] theorem gt_succ (x : Nat) (r : List Nat) (i : Nat) : gt (x :: r) (i + 1) = gt r i := by simp [gt]
def inc : List Nat → Nat → List Nat
  | [], _ => []
  | x :: r, 0 => (x + 1) :: r
  | x :: r, i + 1 => x :: inc r i
def dec : List Nat → Nat → List Nat
  | [], _ => []
  | x :: r, 0 => (x - 1) :: r
  | x :: r, i + 1 => x :: dec r i
theorem inc_len : ∀ (c : List Nat) i, (inc c i).length = c.length
  | [], _ => rfl
  | _ :: _, 0 => rfl
  | _ :: r, i + 1 => by simp [inc, inc_len r i]
theorem dec_len : ∀ (c : List Nat) i, (dec c i).length = c.length
  | [], _ => rfl
  | _ :: _, 0 => rfl
  | _ :: r, i + 1 => by simp [dec, dec_len r i]
theorem inc_gt : ∀ (c : List Nat) (i j : Nat), i < c.length → gt (inc c i) j = gt c j + (if j = i then 1 else 0)
  | [], _, _, h => by simp at h
  | x :: r, 0, 0, _ => by simp [inc]
  | x :: r, 0, j + 1, _ => by simp [inc]
  | x :: r, i + 1, 0, _ => by simp [inc]
  | x :: r, i + 1, j + 1, h => by
    have := inc_gt r i j (by simpa using h)
    simpa [inc] using this
theorem dec_gt : ∀ (c : List Nat) (i j : Nat), i < c.length → gt (dec c i) j = gt c j - (if j = i then 1 else 0)
  | [], _, _, h => by simp at h
  | x :: r, 0, 0, _ => by simp [dec]
  | x :: r, 0, j + 1, _ => by simp [dec]
  | x :: r, i + 1, 0, _ => by simp [dec]
  | x :: r, i + 1, j + 1, h => by
    have := dec_gt r i j (by simpa using h)
    simpa [dec] using this
theorem inc_sum : ∀ (c : List Nat) (i : Nat), i < c.length → (inc c i).sum = c.sum + 1
  | [], _, h => by simp at h
  | x :: r, 0, _ => by simp [inc]; omega
  | x :: r, i + 1, h => by
    have := inc_sum r i (by simpa using h)
    simp [inc, this]; omega
theorem ext {a b : List Nat} (h : a.length = b.length) (k : ∀ i, gt a i = gt b i) : a = b := by
  apply List.ext_getElem h
  intro i h1 h2
  have := k i
  simp [gt, List.getD, List.getElem?_eq_getElem h1, List.getElem?_eq_getElem h2] at this
  exact this
theorem gt_out {c : List Nat} {i : Nat} (h : c.length ≤ i) : gt c i = 0 := by simp [gt, List.getD, List.getElem?_eq_none h]
def Le (a b : List Nat) : Prop := ∀ i, gt a i ≤ gt b i
theorem Le.refl (a) : Le a a := fun _ => Nat.le_refl _
theorem Le.trans {a b c} (h : Le a b) (k : Le b c) : Le a c := fun i => Nat.le_trans (h i) (k i)
theorem Le.anti {a b : List Nat} (hl : a.length = b.length) (h : Le a b) (k : Le b a) : a = b := ext hl fun i => Nat.le_antisymm (h i) (k i)
theorem Le.tail {x y a b} (h : Le (x :: a) (y :: b)) : Le a b := fun i => by simpa using h (i + 1)
theorem Le.head {x y a b} (h : Le (x :: a) (y :: b)) : x ≤ y := by simpa using h 0
theorem Le.sum : ∀ {a b : List Nat}, a.length = b.length → Le a b → a.sum ≤ b.sum
  | [], [], _, _ => Nat.le_refl _
  | [], _ :: _, h, _ => by simp at h
  | _ :: _, [], h, _ => by simp at h
  | x :: a, y :: b, h, k => by
    have := Le.sum (by simpa using h) k.tail
    have := k.head
    simp; omega
theorem Le.eq_of_sum : ∀ {a b : List Nat}, a.length = b.length → Le a b → b.sum ≤ a.sum → a = b
  | [], [], _, _, _ => rfl
  | [], _ :: _, h, _, _ => by simp at h
  | _ :: _, [], h, _, _ => by simp at h
  | x :: a, y :: b, h, k, s => by
    have h1 := Le.sum (by simpa using h) k.tail
    have h2 := k.head
    simp at s
    have h3 := Le.eq_of_sum (by simpa using h) k.tail (by omega)
    subst h3
    have : x = y := by omega
    rw [this]
theorem Le.lt_ex {a b : List Nat} (hl : a.length = b.length) (h : Le a b) (n : a ≠ b) : ∃ i, i < b.length ∧ gt a i < gt b i := by
  refine Classical.byContradiction fun k => n (ext hl fun i => ?_)
  by_cases hi : i < b.length
  · have h1 := h i
    have h2 : ¬ gt a i < gt b i := fun z => k ⟨i, hi, z⟩
    omega
  · rw [gt_out (c := a) (by omega), gt_out (c := b) (by omega)]
theorem inc_dec {c : List Nat} {i : Nat} (h : 0 < gt c i) : inc (dec c i) i = c := by
  have hi : i < c.length := Nat.lt_of_not_le fun z => by rw [gt_out z] at h; omega
  refine ext (by rw [inc_len, dec_len]) fun j => ?_
  rw [inc_gt _ _ _ (by rw [dec_len]; exact hi), dec_gt _ _ _ hi]
  by_cases q : j = i
  · subst q; simp; omega
  · simp [q]
theorem inc_inj {a b : List Nat} {i : Nat} (hl : a.length = b.length) (hi : i < a.length) (h : inc a i = inc b i) : a = b := ext hl fun j => by
  have := congrArg (fun c => gt c j) h
  simp only [inc_gt a i j hi, inc_gt b i j (hl ▸ hi)] at this
  omega
theorem inc_comm {a : List Nat} {i j : Nat} (hi : i < a.length) (hj : j < a.length) : inc (inc a i) j = inc (inc a j) i := ext (by simp [inc_len]) fun k => by
  rw [inc_gt _ _ _ (by rw [inc_len]; exact hj), inc_gt _ _ _ hi, inc_gt _ _ _ (by rw [inc_len]; exact hi), inc_gt _ _ _ hj]
  omega
theorem Le.inc {a b : List Nat} {i : Nat} (ha : i < a.length) (hb : i < b.length) (h : Le a b) : Le (inc a i) (inc b i) := fun j => by
  rw [inc_gt _ _ _ ha, inc_gt _ _ _ hb]
  have := h j
  omega
theorem Le.up (a : List Nat) {i : Nat} (hi : i < a.length) : Le a (Hm.inc a i) := fun j => by
  rw [inc_gt _ _ _ hi]
  omega
abbrev zero (w : Nat) : List Nat := List.replicate w 0
theorem zero_gt (w i : Nat) : gt (zero w) i = 0 := by
  simp [gt, zero, List.getD, List.getElem?_replicate]
  split <;> rfl
theorem zero_sum (w : Nat) : (zero w).sum = 0 := by simp [zero]
theorem of_sum_zero {w : Nat} {c : List Nat} (hl : c.length = w) (h : c.sum = 0) : c = zero w :=
  (Le.eq_of_sum (by simp [hl]) (fun i => by rw [zero_gt]; omega) (by simp [h, zero_sum])).symm
theorem pos_ex : ∀ {c : List Nat}, 0 < c.sum → ∃ i, i < c.length ∧ 0 < gt c i
  | [], h => by simp at h
  | x :: r, h => by
    by_cases hx : 0 < x
    · exact ⟨0, by simp, by simpa using hx⟩
    · obtain ⟨i, h1, h2⟩ := pos_ex (c := r) (by simp at h; omega)
      exact ⟨i + 1, by simpa using h1, by simpa using h2⟩
inductive Mv (d : Dd) (w : Nat) : List Nat → List Nat → Prop
  | zero : Mv d w (zero w) (zero w)
  | add {c c' : List Nat} {i p : Nat} : Mv d w c c' → i < w → p < w → d.mv i p → Mv d w (inc c i) (inc c' p)
section
variable {d : Dd} {w : Nat}
theorem Mv.len {c c'} (h : Mv d w c c') : c.length = w ∧ c'.length = w := by
  induction h with
  | zero => simp
  | add _ _ _ _ ih => simp [inc_len, ih]
theorem Mv.sum {c c'} (h : Mv d w c c') : c.sum = c'.sum := by
  induction h with
  | zero => rfl
  | add h hi hp _ ih => rw [inc_sum _ _ (by rw [h.len.1]; exact hi), inc_sum _ _ (by rw [h.len.2]; exact hp), ih]
theorem Mv.inv {c x : List Nat} {p : Nat} (h : Mv d w c (inc x p)) (hx : x.length = w) (hp : p < w) : ∃ i c0, i < w ∧ c = inc c0 i ∧ d.mv i p ∧ Mv d w c0 x := by
  generalize hy : inc x p = y at h
  induction h generalizing x with
  | zero =>
    have := congrArg List.sum hy
    rw [inc_sum _ _ (hx ▸ hp), zero_sum] at this
    omega
  | @add c c' i q h hi hq hm ih =>
    by_cases e : p = q
    · subst e
      have : x = c' := inc_inj (by rw [hx, h.len.2]) (hx ▸ hp) hy
      subst this
      exact ⟨i, c, hi, rfl, hm, h⟩
    · have l2 := h.len.2
      have l1 := h.len.1
      have g1 : 0 < gt c' p := by
        have := congrArg (fun c => gt c p) hy
        simp only [inc_gt x p p (hx ▸ hp), inc_gt c' q p (l2 ▸ hq)] at this
        simp [e] at this
        omega
      have g2 : 0 < gt x q := by
        have := congrArg (fun c => gt c q) hy
        simp only [inc_gt x p q (hx ▸ hp), inc_gt c' q q (l2 ▸ hq)] at this
        have e' : ¬ q = p := fun z => e z.symm
        simp [e'] at this
        omega
      have e1 : inc (dec c' p) p = c' := inc_dec g1
      have e2 : inc (dec x q) q = x := inc_dec g2
      have e3 : dec x q = dec c' p := by
        apply inc_inj (i := p) (by rw [dec_len, dec_len, hx, l2]) (by rw [dec_len, hx]; exact hp)
        apply inc_inj (i := q) (by simp [inc_len, dec_len, hx, l2]) (by rw [inc_len, dec_len, hx]; exact hq)
        rw [inc_comm (by rw [dec_len, hx]; exact hp) (by rw [dec_len, hx]; exact hq), e2, hy, e1]
      obtain ⟨j, c0, hj, rfl, hm', h'⟩ := ih (x := dec c' p) (by rw [dec_len, l2]) e1
      refine ⟨j, inc c0 i, hj, inc_comm (by rw [h'.len.1]; exact hj) (by rw [h'.len.1]; exact hi), hm', ?_⟩
      have := h'.add hi hq hm
      rw [← e3, e2] at this
      exact this
theorem Mv.down {c c' : List Nat} (h : Mv d w c c') : ∀ {t : List Nat}, t.length = w → Le t c' → ∃ r, Le r c ∧ Mv d w r t := by
  induction h with
  | zero =>
    intro t ht hle
    have : t = Hm.zero w := ext (by simp [ht]) fun i => by have := hle i; rw [zero_gt] at this ⊢; omega
    subst this
    exact ⟨_, Le.refl _, .zero⟩
  | @add c c' i p h hi hp hm ih =>
    intro t ht hle
    have l2 := h.len.2
    have l1 := h.len.1
    by_cases q : 0 < gt t p
    · obtain ⟨r, h1, h2⟩ := ih (t := dec t p) (by rw [dec_len, ht]) fun j => by
        have := hle j
        rw [inc_gt _ _ _ (l2 ▸ hp)] at this
        rw [dec_gt _ _ _ (ht ▸ hp)]
        omega
      refine ⟨inc r i, Le.inc (by rw [h2.len.1]; exact hi) (by rw [l1]; exact hi) h1, ?_⟩
      have := h2.add hi hp hm
      rw [inc_dec q] at this
      exact this
    · obtain ⟨r, h1, h2⟩ := ih (t := t) ht fun j => by
        have := hle j
        rw [inc_gt _ _ _ (l2 ▸ hp)] at this
        by_cases e : j = p
        · subst e; omega
        · simp [e] at this; exact this
      exact ⟨r, h1.trans (Le.up _ (by rw [l1]; exact hi)), h2⟩
theorem Mv.up (tot : ∀ i, i < w → ∃ p, p < w ∧ d.mv i p) {r t : List Nat} (h : Mv d w r t) : ∀ (n : Nat) {c : List Nat}, c.length = w → Le r c → c.sum - r.sum = n → ∃ c', Le t c' ∧ Mv d w c c' := by
  intro n
  induction n with
  | zero =>
    intro c hc hle hs
    have := Le.eq_of_sum (by rw [h.len.1, hc]) hle (by omega)
    subst this
    exact ⟨t, Le.refl _, h⟩
  | succ n ih =>
    intro c hc hle hs
    obtain ⟨i, hi, hlt⟩ := Le.lt_ex (by rw [h.len.1, hc]) hle (fun e => by subst e; omega)
    have e1 : inc (dec c i) i = c := inc_dec (by omega)
    have s1 : c.sum = (dec c i).sum + 1 := by
      have := inc_sum (dec c i) i (by rw [dec_len]; exact hi)
      rw [e1] at this
      exact this
    obtain ⟨c', h1, h2⟩ := ih (c := dec c i) (by rw [dec_len, hc]) (fun j => by
      rw [dec_gt _ _ _ hi]
      have := hle j
      by_cases q : j = i
      · subst q; simp; omega
      · simp [q]; exact this) (by omega)
    obtain ⟨p, hp, hm⟩ := tot i (hc ▸ hi)
    refine ⟨inc c' p, h1.trans (Le.up _ (by rw [h2.len.2]; exact hp)), ?_⟩
    have := h2.add (hc ▸ hi) hp hm
    rw [e1] at this
    exact this
end
end Hm

namespace Hm
def add (a b : List Nat) : List Nat := List.zipWith (· + ·) a b
theorem add_gt : ∀ (a b : List Nat) (i : Nat), a.length = b.length → gt (add a b) i = gt a i + gt b i
  | [], [], i, _ => by simp [add]
  | [], _ :: _, _, h => by simp at h
  | _ :: _, [], _, h => by simp at h
  | x :: a, y :: b, 0, _ => by simp [add]
  | x :: a, y :: b, i + 1, h => by
    have := add_gt a b i (by simpa using h)
    simpa [add] using this
theorem add_zero {a : List Nat} {w} (h : a.length = w) : add a (zero w) = a := ext (by simp [add, h, zero]) fun i => by
  rw [add_gt _ _ _ (by simp [h, zero]), zero_gt]; omega
theorem add_inc {a b : List Nat} {i : Nat} (h : a.length = b.length) (hi : i < a.length) : add a (inc b i) = inc (add a b) i := ext (by simp [add, inc_len]) fun j => by
  rw [add_gt _ _ _ (by rw [inc_len]; exact h), inc_gt _ _ _ (h ▸ hi), inc_gt _ _ _ (by simp [add, ← h]; exact hi), add_gt _ _ _ h]
  omega
def split : Nat → Nat → List (List Nat)
  | _, 0 => []
  | m, 1 => [[m]]
  | m, k + 2 => (List.range (m + 1)).flatMap fun f => (split (m - f) (k + 1)).map (f :: ·)
theorem mem_split : ∀ {k m : Nat} {q : List Nat}, q ∈ split m (k + 1) ↔ q.length = k + 1 ∧ q.sum = m
  | 0, m, q => by
    simp only [split, List.mem_singleton]
    constructor
    · rintro rfl; simp
    · rintro ⟨h1, h2⟩
      match q, h1 with
      | [x], _ => simp at h2; rw [h2]
  | k + 1, m, q => by
    simp only [split, List.mem_flatMap, List.mem_map, List.mem_range]
    constructor
    · rintro ⟨f, hf, r, hr, rfl⟩
      have := mem_split.mp hr
      simp [this]; omega
    · rintro ⟨h1, h2⟩
      match q, h1 with
      | x :: r, h1 =>
        simp at h1 h2
        exact ⟨x, by omega, r, mem_split.mpr ⟨h1, by omega⟩, rfl⟩
theorem split_len : ∀ (k m : Nat), (split m k).length ≤ k ^ m
  | 0, m => by simp [split]
  | 1, m => by simp [split]
  | k + 2, m => by
    have ih := split_len (k + 1)
    have key : ∀ n, n ≤ m → ((List.range (n + 1)).map fun f => (k + 1) ^ f).sum ≤ (k + 2) ^ n := by
      intro n
      induction n with
      | zero => intro _; simp
      | succ n ihn =>
        intro hn
        have h1 := ihn (by omega)
        rw [List.range_succ, List.map_append, List.sum_append]
        have h2 : (k + 1) ^ (n + 1) ≤ (k + 1) * (k + 2) ^ n := by
          rw [Nat.pow_succ, Nat.mul_comm]
          exact Nat.mul_le_mul_left _ (Nat.pow_le_pow_left (by omega) n)
        have h3 : (k + 2) ^ (n + 1) = (k + 1) * (k + 2) ^ n + (k + 2) ^ n := by
          rw [Nat.pow_succ]
          have : (k + 2) ^ n * (k + 2) = (k + 2) ^ n * (k + 1) + (k + 2) ^ n := by rw [← Nat.mul_succ]
          rw [this, Nat.mul_comm ((k + 2) ^ n)]
        simp
        omega
    rw [split, List.length_flatMap]
    simp only [List.length_map]
    have : ((List.range (m + 1)).map fun f => (split (m - f) (k + 1)).length).sum ≤ ((List.range (m + 1)).map fun f => (k + 1) ^ (m - f)).sum := by
      generalize List.range (m + 1) = l
      induction l with
      | nil => simp
      | cons a l ihl =>
        simp
        have := ih (m - a)
        omega
    refine Nat.le_trans this (Nat.le_trans ?_ (key m (Nat.le_refl _)))
    have rev : ∀ n, ((List.range (n + 1)).map fun f => (k + 1) ^ (n - f)).sum = ((List.range (n + 1)).map fun f => (k + 1) ^ f).sum := by
      intro n
      induction n with
      | zero => simp
      | succ n ihn =>
        rw [List.range_succ_eq_map, List.map_cons, List.map_map, List.sum_cons]
        conv => rhs; rw [← List.range_succ_eq_map, List.range_succ (n := n + 1), List.map_append, List.sum_append]
        have : ((fun f => (k + 1) ^ (n + 1 - f)) ∘ Nat.succ) = fun f => (k + 1) ^ (n - f) := by
          funext f
          simp [Nat.succ_eq_add_one, Nat.add_sub_add_right]
        rw [this, ihn]
        simp
        omega
    rw [rev m]
    exact Nat.le_refl _
def row (w : Nat) (ss ps : List Nat) : List Nat := (ss.zip ps).foldl (fun r p => r.set p.1 p.2) (zero w)
theorem set_gt (c : List Nat) (i v j : Nat) (h : i < c.length) : gt (c.set i v) j = if j = i then v else gt c j := by
  simp only [gt, List.getD, List.getElem?_set]
  by_cases q : i = j
  · subst q; simp [h]
  · have q' : ¬ j = i := fun z => q z.symm
    simp [q, q']
theorem fold_len : ∀ (l : List (Nat × Nat)) (r : List Nat), (l.foldl (fun r p => r.set p.1 p.2) r).length = r.length
  | [], r => rfl
  | p :: l, r => by
    rw [List.foldl_cons, fold_len l]
    simp
theorem row_len (w ss ps) : (row w ss ps).length = w := by simp [row, fold_len, zero]
def rowG : List Nat → List Nat → Nat → Nat
  | s :: ss, p :: ps, i => (if i = s then p else 0) + rowG ss ps i
  | _, _, _ => 0
theorem rowG_not : ∀ {ss ps : List Nat} {i : Nat}, i ∉ ss → rowG ss ps i = 0
  | [], _, _, _ => by simp [rowG]
  | _ :: _, [], _, _ => by simp [rowG]
  | s :: ss, p :: ps, i, h => by
    simp at h
    simp [rowG, h.1, rowG_not h.2]
theorem fold_gt : ∀ (ss ps : List Nat) (r : List Nat), ss.Nodup → (∀ s ∈ ss, s < r.length) → ss.length = ps.length → ∀ i, gt ((ss.zip ps).foldl (fun r p => r.set p.1 p.2) r) i = if i ∈ ss then rowG ss ps i else gt r i
  | [], ps, r, _, _, _, i => by simp
  | s :: ss, [], r, _, _, h, i => by simp at h
  | s :: ss, p :: ps, r, hn, hs, hl, i => by
    simp only [List.zip_cons_cons, List.foldl_cons]
    rw [fold_gt ss ps _ (List.nodup_cons.mp hn).2 (fun x hx => by simp; exact hs x (List.mem_cons_of_mem _ hx)) (by simpa using hl)]
    rw [set_gt _ _ _ _ (hs s (List.mem_cons_self ..))]
    have h1 := (List.nodup_cons.mp hn).1
    by_cases e : i = s
    · subst e
      simp [h1, rowG, rowG_not h1]
    · by_cases e2 : i ∈ ss
      · simp [e, e2, rowG]
      · simp [e, e2]
theorem row_gt {w : Nat} {ss ps : List Nat} (hn : ss.Nodup) (hs : ∀ s ∈ ss, s < w) (hl : ss.length = ps.length) (i : Nat) : gt (row w ss ps) i = rowG ss ps i := by
  unfold row
  rw [fold_gt ss ps _ hn (fun s h => by simp [zero]; exact hs s h) hl]
  by_cases e : i ∈ ss
  · simp [e]
  · simp [e, rowG_not e, zero_gt]
theorem rowG_inc : ∀ {ss ps : List Nat} {j : Nat} (hj : j < ss.length), ss.Nodup → ss.length = ps.length → ∀ i, rowG ss (inc ps j) i = rowG ss ps i + if i = ss[j] then 1 else 0
  | [], _, j, hj, _, _, _ => by simp at hj
  | s :: ss, [], j, hj, _, h, _ => by simp at h
  | s :: ss, p :: ps, 0, hj, hn, hl, i => by
    simp only [inc, rowG, List.getElem_cons_zero]
    by_cases e : i = s
    · simp [e]; omega
    · simp [e]
  | s :: ss, p :: ps, j + 1, hj, hn, hl, i => by
    simp only [inc, rowG, List.getElem_cons_succ]
    rw [rowG_inc (by simpa using hj) (List.nodup_cons.mp hn).2 (by simpa using hl)]
    omega
theorem row_inc {w : Nat} {ss ps : List Nat} {j : Nat} (hn : ss.Nodup) (hs : ∀ s ∈ ss, s < w) (hl : ss.length = ps.length) (hj : j < ss.length) : row w ss (inc ps j) = inc (row w ss ps) ss[j] := ext (by simp [row_len, inc_len]) fun i => by
  rw [row_gt hn hs (by rw [inc_len]; exact hl), inc_gt _ _ _ (by rw [row_len]; exact hs _ (List.getElem_mem _)), row_gt hn hs hl, rowG_inc hj hn hl]
theorem rowG_zero : ∀ (ss : List Nat) (i : Nat), rowG ss (zero ss.length) i = 0
  | [], i => rfl
  | s :: ss, i => by
    have := rowG_zero ss i
    simp only [zero, List.length_cons, List.replicate_succ, rowG] at this ⊢
    rw [this]; split <;> rfl
theorem row_zero {w : Nat} {ss : List Nat} (hn : ss.Nodup) (hs : ∀ s ∈ ss, s < w) : row w ss (zero ss.length) = zero w := ext (by simp [row_len, zero]) fun i => by
  rw [row_gt hn hs (by simp [zero]), rowG_zero, zero_gt]
def incN (c : List Nat) (p : Nat) : Nat → List Nat
  | 0 => c
  | m + 1 => inc (incN c p m) p
theorem incN_len (c p) : ∀ m, (incN c p m).length = c.length
  | 0 => rfl
  | m + 1 => by simp [incN, inc_len, incN_len c p m]
theorem incN_gt {c : List Nat} {p : Nat} (hp : p < c.length) : ∀ (m i), gt (incN c p m) i = gt c i + if i = p then m else 0
  | 0, i => by simp [incN]
  | m + 1, i => by
    rw [incN, inc_gt _ _ _ (by rw [incN_len]; exact hp), incN_gt hp m i]
    split <;> omega
def srcF (f : Nat → Option Nat) (fl : Bool) (w p : Nat) : List Nat :=
  if p ∉ (List.range w).filter (fun i => f i == some p) ∧ (fl = true ∨ f p = none) then (List.range w).filter (fun i => f i == some p) ++ [p] else (List.range w).filter (fun i => f i == some p)
theorem mem_srcF {f : Nat → Option Nat} {fl : Bool} {w p i : Nat} (hp : p < w) : i ∈ srcF f fl w p ↔ i < w ∧ (f i = some p ∨ (i = p ∧ (fl = true ∨ f i = none))) := by
  unfold srcF
  split
  · rename_i h
    simp only [List.mem_append, List.mem_filter, List.mem_range, beq_iff_eq, List.mem_singleton]
    constructor
    · rintro (⟨h1, h2⟩ | rfl)
      · exact ⟨h1, .inl h2⟩
      · exact ⟨hp, .inr ⟨rfl, h.2⟩⟩
    · rintro ⟨h1, h2 | ⟨rfl, _⟩⟩
      · exact .inl ⟨h1, h2⟩
      · exact .inr rfl
  · rename_i h
    simp only [List.mem_filter, List.mem_range, beq_iff_eq] at h ⊢
    constructor
    · rintro ⟨h1, h2⟩
      exact ⟨h1, .inl h2⟩
    · rintro ⟨h1, h2 | ⟨rfl, h3⟩⟩
      · exact ⟨h1, h2⟩
      · refine Classical.byContradiction fun z => h ⟨z, h3⟩
theorem srcF_nodup {f : Nat → Option Nat} {fl : Bool} {w p : Nat} : (srcF f fl w p).Nodup := by
  unfold srcF
  have h1 : ((List.range w).filter fun i => f i == some p).Nodup := List.Nodup.sublist List.filter_sublist List.nodup_range
  split
  · rename_i h
    refine List.nodup_append.mpr ⟨h1, by simp, ?_⟩
    intro a ha b hb
    simp at hb
    subst hb
    intro e
    subst e
    exact h.1 ha
  · exact h1
abbrev Dd.srcs (d : Dd) (w p : Nat) : List Nat := srcF d.hs d.fail w p
abbrev Dd.hsrc (d : Dd) (nh p : Nat) : List Nat := srcF d.hh d.fail nh p
theorem mem_srcs {d : Dd} {w p i : Nat} (hp : p < w) : i ∈ d.srcs w p ↔ i < w ∧ d.mv i p := mem_srcF hp
theorem srcs_lt {d : Dd} {w p : Nat} (hp : p < w) : ∀ s ∈ d.srcs w p, s < w := fun s h => ((mem_srcs hp).mp h).1
theorem srcs_nodup {d : Dd} {w p : Nat} : (d.srcs w p).Nodup := srcF_nodup
section
variable {d : Dd} {w : Nat}
theorem mv_incN {x : List Nat} {p : Nat} (hx : x.length = w) (hp : p < w) : ∀ {m : Nat} {r : List Nat}, Mv d w r (incN x p m) ↔ ∃ r0 q, Mv d w r0 x ∧ q.length = (d.srcs w p).length ∧ q.sum = m ∧ r = add r0 (row w (d.srcs w p) q)
  | 0, r => by
    constructor
    · intro h
      exact ⟨r, zero (d.srcs w p).length, h, by simp [zero], zero_sum _, by rw [row_zero srcs_nodup (srcs_lt hp), add_zero h.len.1]⟩
    · rintro ⟨r0, q, h, h1, h2, rfl⟩
      rw [of_sum_zero h1 h2, row_zero srcs_nodup (srcs_lt hp), add_zero h.len.1]
      exact h
  | m + 1, r => by
    constructor
    · intro h
      obtain ⟨i, c0, hi, rfl, hm, h1⟩ := h.inv (by rw [incN_len, hx]) hp
      obtain ⟨r0, q, h2, h3, h4, rfl⟩ := (mv_incN hx hp).mp h1
      obtain ⟨j, hj, hji⟩ := List.getElem_of_mem ((mem_srcs hp).mpr ⟨hi, hm⟩)
      refine ⟨r0, inc q j, h2, by rw [inc_len, h3], by rw [inc_sum _ _ (by rw [h3]; exact hj), h4], ?_⟩
      rw [row_inc srcs_nodup (srcs_lt hp) h3.symm hj, hji, add_inc (by rw [h2.len.1, row_len]) (by rw [h2.len.1]; exact hi)]
    · rintro ⟨r0, q, h, h1, h2, rfl⟩
      obtain ⟨j, hj, hpos⟩ := pos_ex (c := q) (by omega)
      have e := inc_dec hpos
      have hj' : j < (d.srcs w p).length := h1 ▸ hj
      have hs := (mem_srcs hp).mp (List.getElem_mem hj')
      have s := inc_sum (dec q j) j (by rw [dec_len]; exact hj)
      rw [e] at s
      rw [← e, row_inc srcs_nodup (srcs_lt hp) (by rw [dec_len, h1]) hj', add_inc (by rw [h.len.1, row_len]) (by rw [h.len.1]; exact hs.1)]
      exact Mv.add ((mv_incN hx hp).mpr ⟨r0, dec q j, h, by rw [dec_len, h1], by omega, rfl⟩) hs.1 hp hs.2
def dstep (d : Dd) (w : Nat) (found : List (List Nat)) (p m : Nat) : List (List Nat) :=
  if 0 < m then (split m (d.srcs w p).length).flatMap fun q => found.map fun one => add one (row w (d.srcs w p) q) else found
def dealtN (d : Dd) (w : Nat) (c : List Nat) (n : Nat) : List (List Nat) := (List.range n).foldl (fun found p => dstep d w found p (gt c p)) [zero w]
abbrev dealt (d : Dd) (w : Nat) (c : List Nat) : List (List Nat) := dealtN d w c w
def trn (w : Nat) (c : List Nat) : Nat → List Nat
  | 0 => zero w
  | n + 1 => incN (trn w c n) n (gt c n)
theorem trn_len (c) : ∀ n, (trn w c n).length = w
  | 0 => by simp [trn, zero]
  | n + 1 => by rw [trn, incN_len, trn_len c n]
theorem trn_gt (c : List Nat) : ∀ {n : Nat}, n ≤ w → ∀ i, gt (trn w c n) i = if i < n then gt c i else 0
  | 0, _, i => by simp [trn, zero_gt]
  | n + 1, h, i => by
    rw [trn, incN_gt (by rw [trn_len]; omega), trn_gt c (by omega) i]
    by_cases e : i = n
    · subst e; simp
    · have : (i < n + 1) ↔ (i < n) := by omega
      simp [e, this]
theorem trn_full {c : List Nat} (h : c.length = w) : trn w c w = c := ext (by rw [trn_len, h]) fun i => by
  rw [trn_gt c (Nat.le_refl _)]
  by_cases e : i < w
  · simp [e]
  · rw [gt_out (c := c) (by omega)]; simp [e]
theorem mem_dstep {found : List (List Nat)} {x : List Nat} {p m : Nat} (hx : x.length = w) (hp : p < w) (ih : ∀ r, r ∈ found ↔ Mv d w r x) (r : List Nat) : r ∈ dstep d w found p m ↔ Mv d w r (incN x p m) := by
  unfold dstep
  by_cases hm : 0 < m
  · rw [if_pos hm, mv_incN hx hp]
    simp only [List.mem_flatMap, List.mem_map]
    cases hk : (d.srcs w p).length with
    | zero =>
      simp only [split]
      constructor
      · rintro ⟨q, h, _⟩; cases h
      · rintro ⟨r0, q, h, h1, h2, _⟩
        have : q = [] := List.length_eq_zero_iff.mp h1
        subst this
        simp at h2; omega
    | succ k =>
      constructor
      · rintro ⟨q, h, one, h1, rfl⟩
        have := mem_split.mp h
        exact ⟨one, q, (ih _).mp h1, this.1, this.2, rfl⟩
      · rintro ⟨r0, q, h, h1, h2, rfl⟩
        exact ⟨q, mem_split.mpr ⟨h1, h2⟩, r0, (ih _).mpr h, rfl⟩
  · have : m = 0 := by omega
    subst this
    simp [incN, ih]
theorem mem_dealtN (c : List Nat) : ∀ {n : Nat}, n ≤ w → ∀ r, r ∈ dealtN d w c n ↔ Mv d w r (trn w c n)
  | 0, _, r => by
    simp only [dealtN, List.range_zero, List.foldl_nil, List.mem_singleton, trn]
    constructor
    · rintro rfl; exact .zero
    · intro h
      exact of_sum_zero h.len.1 (by rw [h.sum, zero_sum])
  | n + 1, h, r => by
    have ih := mem_dealtN c (n := n) (by omega)
    unfold dealtN
    rw [List.range_succ, List.foldl_append]
    exact mem_dstep (trn_len c n) (by omega) ih r
theorem mem_dealt {c : List Nat} (hc : c.length = w) {r : List Nat} : r ∈ dealt d w c ↔ Mv d w r c := by
  rw [mem_dealtN c (Nat.le_refl _), trn_full hc]
end
end Hm

namespace Hm
abbrev St := Nat × List Nat
abbrev Sm (x : St) : Nat := x.2.sum
def Sle (x y : St) : Prop := x.1 = y.1 ∧ Le x.2 y.2
theorem Sle.refl (x) : Sle x x := ⟨rfl, Le.refl _⟩
theorem Sle.trans {x y z} (h : Sle x y) (k : Sle y z) : Sle x z := ⟨h.1.trans k.1, h.2.trans k.2⟩
def Wf (nh w : Nat) (x : St) : Prop := x.1 < nh ∧ x.2.length = w
structure Dd.Ok (d : Dd) (nh w : Nat) : Prop where
  pl : d.pl < if d.bh then nh else w
  ot : d.ot < if d.bh then nh else w
  hs : ∀ i p, d.hs i = some p → p < w
  hh : ∀ i p, d.hh i = some p → p < nh
def Step (d : Dd) (w : Nat) (x y : St) : Prop :=
  if d.bh then x.1 = d.pl ∧ y.1 = d.ot ∧ Mv d w x.2 y.2
  else d.hm x.1 y.1 ∧ ∃ o o', Mv d w o o' ∧ x.2 = inc o d.pl ∧ y.2 = inc o' d.ot
section
variable {d : Dd} {nh w : Nat}
theorem Sle.anti {x y : St} (hx : Wf nh w x) (hy : Wf nh w y) (h : Sle x y) (k : Sle y x) : x = y := Prod.ext h.1 (Le.anti (by rw [hx.2, hy.2]) h.2 k.2)
theorem Sle.eq_of_sum {x y : St} (hx : Wf nh w x) (hy : Wf nh w y) (h : Sle x y) (k : Sm y ≤ Sm x) : x = y := Prod.ext h.1 (Le.eq_of_sum (by rw [hx.2, hy.2]) h.2 k)
theorem Sle.sum {x y : St} (hx : Wf nh w x) (hy : Wf nh w y) (h : Sle x y) : Sm x ≤ Sm y := Le.sum (by rw [hx.2, hy.2]) h.2
theorem Dd.Ok.tot (ok : d.Ok nh w) (i : Nat) (hi : i < w) : ∃ p, p < w ∧ d.mv i p := by
  cases h : d.hs i with
  | none => exact ⟨i, hi, .inr ⟨rfl, .inr h⟩⟩
  | some p => exact ⟨p, ok.hs i p h, .inl h⟩
theorem Step.sum (ok : d.Ok nh w) {x y : St} (h : Step d w x y) : Sm x = Sm y := by
  unfold Step at h
  have h1 := ok.pl
  have h2 := ok.ot
  split at h
  · exact h.2.2.sum
  · rename_i q
    obtain ⟨_, o, o', m, e1, e2⟩ := h
    simp [q] at h1 h2
    show x.2.sum = y.2.sum
    rw [e1, e2, inc_sum _ _ (by rw [m.len.1]; exact h1), inc_sum _ _ (by rw [m.len.2]; exact h2), m.sum]
theorem Step.wf (ok : d.Ok nh w) {x y : St} (hx : Wf nh w x) (h : Step d w x y) : Wf nh w y := by
  unfold Step at h
  have h1 := ok.pl
  have h2 := ok.ot
  split at h
  · rename_i q
    simp [q] at h1 h2
    exact ⟨by rw [h.2.1]; exact h2, h.2.2.len.2⟩
  · rename_i q
    obtain ⟨hm, o, o', m, e1, e2⟩ := h
    refine ⟨?_, by rw [e2, inc_len, m.len.2]⟩
    rcases hm with h | ⟨h, _⟩
    · exact ok.hh _ _ h
    · rw [← h]; exact hx.1
theorem Step.up (ok : d.Ok nh w) {x x' y : St} (hx' : Wf nh w x') (h : Step d w x y) (l : Sle x x') : ∃ y', Sle y y' ∧ Step d w x' y' := by
  have h1 := ok.pl
  have h2 := ok.ot
  unfold Step at h ⊢
  by_cases q : d.bh = true
  · simp only [q, if_true] at h ⊢
    obtain ⟨c', k1, k2⟩ := h.2.2.up ok.tot _ hx'.2 l.2 rfl
    exact ⟨(d.ot, c'), ⟨h.2.1, k1⟩, by rw [← l.1]; exact h.1, rfl, k2⟩
  · simp [q] at h h1 h2 ⊢
    obtain ⟨hm, o, o', m, e1, e2⟩ := h
    have l2 := l.2
    rw [e1] at l2
    have g0 : 0 < gt x'.2 d.pl := by
      have := l2 d.pl
      rw [inc_gt _ _ _ (by rw [m.len.1]; exact h1)] at this
      simp at this; omega
    have e3 := inc_dec g0
    obtain ⟨c', k1, k2⟩ := m.up ok.tot _ (c := dec x'.2 d.pl) (by rw [dec_len, hx'.2]) (fun j => by
      have := l2 j
      rw [inc_gt _ _ _ (by rw [m.len.1]; exact h1)] at this
      rw [dec_gt _ _ _ (by rw [hx'.2]; exact h1)]
      omega) rfl
    refine ⟨y.1, inc c' d.ot, ⟨rfl, ?_⟩, by rw [← l.1]; exact hm, dec x'.2 d.pl, c', k2, e3.symm, rfl⟩
    rw [e2]
    exact Le.inc (by rw [m.len.2]; exact h2) (by rw [k2.len.2]; exact h2) k1
def restOf (d : Dd) (t : List Nat) : List Nat := if 0 < gt t d.ot then dec t d.ot else t
def beforeBy (d : Dd) (nh w : Nat) (y : St) : List St :=
  if d.bh then (if y.1 = d.ot then (dealt d w y.2).map fun r => (d.pl, r) else [])
  else (d.hsrc nh y.1).flatMap fun h => ((dealt d w (restOf d y.2)).map fun r => inc r d.pl).map fun r => (h, r)
theorem restOf_len (d : Dd) (t : List Nat) : (restOf d t).length = t.length := by
  unfold restOf; split
  · exact dec_len _ _
  · rfl
theorem before_snd (ok : d.Ok nh w) {y z : St} (hy : Wf nh w y) (h : z ∈ beforeBy d nh w y) : Wf nh w z ∧ (∃ y', Step d w z y' ∧ Sle y y') ∧ Sm y ≤ Sm z ∧ Sm z ≤ Sm y + 1 := by
  have h1 := ok.pl
  have h2 := ok.ot
  unfold beforeBy at h
  by_cases q : d.bh = true
  · simp only [q, if_true] at h h1 h2
    split at h
    · rename_i e
      obtain ⟨r, hr, rfl⟩ := List.mem_map.mp h
      have m := (mem_dealt hy.2).mp hr
      refine ⟨⟨h1, m.len.1⟩, ⟨y, ?_, Sle.refl _⟩, ?_, ?_⟩
      · unfold Step
        simp only [q, if_true]
        exact ⟨trivial, e, m⟩
      · exact Nat.le_of_eq m.sum.symm
      · show r.sum ≤ y.2.sum + 1
        rw [m.sum]; omega
    · cases h
  · simp [q] at h h1 h2
    obtain ⟨hh, hm, r, hr, rfl⟩ := h
    have hm' := (mem_srcF hy.1).mp hm
    have m := (mem_dealt (by rw [restOf_len, hy.2])).mp hr
    have rl := m.len.1
    have tl : (restOf d y.2).length = w := by rw [restOf_len, hy.2]
    have le : Le y.2 (inc (restOf d y.2) d.ot) := fun j => by
      rw [inc_gt _ _ _ (by rw [tl]; exact h2)]
      unfold restOf
      split
      · rw [dec_gt _ _ _ (by rw [hy.2]; exact h2)]; omega
      · omega
    have sm : (restOf d y.2).sum ≤ y.2.sum ∧ y.2.sum ≤ (restOf d y.2).sum + 1 := by
      unfold restOf
      split
      · rename_i g0
        have := inc_sum (dec y.2 d.ot) d.ot (by rw [dec_len, hy.2]; exact h2)
        rw [inc_dec g0] at this
        omega
      · omega
    refine ⟨⟨hm'.1, by rw [inc_len, rl]⟩, ⟨(y.1, inc (restOf d y.2) d.ot), ?_, ⟨rfl, le⟩⟩, ?_, ?_⟩
    · unfold Step
      simp [q]
      exact ⟨hm'.2, r, _, m, rfl, rfl⟩
    · show y.2.sum ≤ (inc r d.pl).sum
      rw [inc_sum _ _ (by rw [rl]; exact h1), m.sum]; omega
    · show (inc r d.pl).sum ≤ y.2.sum + 1
      rw [inc_sum _ _ (by rw [rl]; exact h1), m.sum]; omega
theorem before_cov (ok : d.Ok nh w) {x y y' : St} (hx : Wf nh w x) (hy : Wf nh w y) (h : Step d w x y') (l : Sle y y') : ∃ z, z ∈ beforeBy d nh w y ∧ Sle z x := by
  have h1 := ok.pl
  have h2 := ok.ot
  have hy' := h.wf ok hx
  unfold Step at h
  unfold beforeBy
  by_cases q : d.bh = true
  · simp only [q, if_true] at h h1 h2 ⊢
    obtain ⟨e1, e2, m⟩ := h
    obtain ⟨r, k1, k2⟩ := m.down hy.2 l.2
    rw [if_pos (by rw [l.1, e2])]
    exact ⟨(d.pl, r), List.mem_map.mpr ⟨r, (mem_dealt hy.2).mpr k2, rfl⟩, e1.symm, k1⟩
  · rw [if_neg q]
    simp [q] at h h1 h2
    obtain ⟨hm, o, o', m, e1, e2⟩ := h
    have tl : (restOf d y.2).length = w := by rw [restOf_len, hy.2]
    have l2 := l.2
    rw [e2] at l2
    have le : Le (restOf d y.2) o' := fun j => by
      have := l2 j
      rw [inc_gt _ _ _ (by rw [m.len.2]; exact h2)] at this
      unfold restOf
      split
      · rw [dec_gt _ _ _ (by rw [hy.2]; exact h2)]; omega
      · by_cases e : j = d.ot
        · subst e; omega
        · simp [e] at this; exact this
    obtain ⟨r, k1, k2⟩ := m.down tl le
    refine ⟨(x.1, inc r d.pl), List.mem_flatMap.mpr ⟨x.1, ?_, List.mem_map.mpr ⟨inc r d.pl, List.mem_map.mpr ⟨r, (mem_dealt tl).mpr k2, rfl⟩, rfl⟩⟩, rfl, ?_⟩
    · refine (mem_srcF hy.1).mpr ⟨hx.1, ?_⟩
      rw [l.1]
      exact hm
    · rw [e1]
      exact Le.inc (by rw [k2.len.1]; exact h1) (by rw [m.len.1]; exact h1) k1
end

structure Gd where
  nh : Nat
  w : Nat
  ds : List Dd
structure Gd.Ok (G : Gd) : Prop where
  nh : 1 ≤ G.nh
  w : 1 ≤ G.w
  ds : ∀ d ∈ G.ds, d.Ok G.nh G.w
abbrev Gd.Wf (G : Gd) (x : St) : Prop := Hm.Wf G.nh G.w x
inductive Pg (G : Gd) (goals : List St) : St → Prop
  | goal {g x : St} : g ∈ goals → G.Wf x → Sle g x → Pg G goals x
  | step {d : Dd} {x y : St} : d ∈ G.ds → G.Wf x → Step d G.w x y → Pg G goals y → Pg G goals x
def beforeA (G : Gd) (y : St) : List St := G.ds.flatMap fun d => beforeBy d G.nh G.w y
def Abv (found : List St) (x : St) : Prop := ∃ f ∈ found, Sle f x
section
variable {G : Gd} {goals : List St}
theorem Pg.wf {x} (h : Pg G goals x) : G.Wf x := by cases h <;> assumption
theorem Pg.up (ok : G.Ok) {x} (h : Pg G goals x) : ∀ {x'}, G.Wf x' → Sle x x' → Pg G goals x' := by
  induction h with
  | goal hg _ l => intro x' hx' l'; exact .goal hg hx' (l.trans l')
  | step hd hx s _ ih =>
    intro x' hx' l'
    obtain ⟨y', l2, s'⟩ := s.up (ok.ds _ hd) hx' l'
    exact .step hd hx' s' (ih (s'.wf (ok.ds _ hd) hx') l2)
theorem Pg.mono {goals' : List St} (ok : G.Ok) {x} (h : Pg G goals x) (k : ∀ g ∈ goals, G.Wf g → Pg G goals' g) (wf : ∀ g ∈ goals, G.Wf g) : Pg G goals' x := by
  induction h with
  | goal hg hx l => exact (k _ hg (wf _ hg)).up ok hx l
  | step hd hx s _ ih => exact .step hd hx s ih
theorem Pg.before (ok : G.Ok) {y z} (h : Pg G goals y) (hz : z ∈ beforeA G y) : Pg G goals z := by
  obtain ⟨d, hd, hz⟩ := List.mem_flatMap.mp hz
  obtain ⟨w1, ⟨y', s, l⟩, _⟩ := before_snd (ok.ds _ hd) h.wf hz
  exact .step hd w1 s (h.up ok (s.wf (ok.ds _ hd) w1) l)
structure Bas (G : Gd) (goals : List St) (B : List St) : Prop where
  snd : ∀ b ∈ B, Pg G goals b
  cov : ∀ x, Pg G goals x → Abv B x
  anti : ∀ a ∈ B, ∀ b ∈ B, Sle a b → a = b
  nodup : B.Nodup
theorem Bas.sub {B B' : List St} (h : Bas G goals B) (h' : Bas G goals B') : ∀ b ∈ B, b ∈ B' := by
  intro b hb
  obtain ⟨b', hb', l⟩ := h'.cov b (h.snd b hb)
  obtain ⟨b2, hb2, l2⟩ := h.cov b' (h'.snd b' hb')
  have e := h.anti _ hb2 _ hb (l2.trans l)
  subst e
  have := Sle.anti (h'.snd _ hb').wf (h.snd _ hb).wf l l2
  exact this ▸ hb'
theorem Pg.closed (ok : G.Ok) {T : St → Prop} (h0 : ∀ g ∈ goals, ∀ x, G.Wf x → Sle g x → T x) (h1 : ∀ d ∈ G.ds, ∀ x y, G.Wf x → Pg G goals y → Step d G.w x y → T y → T x) {x} (h : Pg G goals x) : T x := by
  induction h with
  | goal hg hx l => exact h0 _ hg _ hx l
  | step hd hx s hp ih => exact h1 _ hd _ _ hx hp s ih

structure Inv (G : Gd) (goals found W : List St) : Prop where
  snd : ∀ x ∈ found, Pg G goals x
  sndW : ∀ x ∈ W, Pg G goals x
  gl : ∀ g ∈ goals, Abv found g ∨ g ∈ W
  bf : ∀ f ∈ found, ∀ z ∈ beforeA G f, Abv found z ∨ z ∈ W
  anti : ∀ a ∈ found, ∀ b ∈ found, Sle a b → a = b
  nodup : found.Nodup
  ord : ∀ f ∈ found, ∀ x ∈ W, Sm f ≤ Sm x
theorem Abv.up {found : List St} {x y} (h : Abv found x) (l : Sle x y) : Abv found y := let ⟨f, hf, k⟩ := h; ⟨f, hf, k.trans l⟩
theorem Inv.low (ok : G.Ok) {found W : List St} (I : Inv G goals found W) (wfg : ∀ g ∈ goals, G.Wf g) (n : Nat) (hn : ∀ x ∈ W, n ≤ Sm x) {x} (h : Pg G goals x) : Abv found x ∨ n ≤ Sm x := by
  refine Pg.closed ok (T := fun x => Abv found x ∨ n ≤ Sm x) ?_ ?_ h
  · intro g hg x hx l
    rcases I.gl g hg with h | h
    · exact .inl (h.up l)
    · exact .inr (Nat.le_trans (hn _ h) (l.sum (wfg g hg) hx))
  · intro d hd x y hx hp s t
    rcases t with ⟨f, hf, l⟩ | t
    · obtain ⟨z, hz, lz⟩ := before_cov (ok.ds _ hd) hx (I.snd f hf).wf s l
      rcases I.bf f hf z (List.mem_flatMap.mpr ⟨d, hd, hz⟩) with k | k
      · exact .inl (k.up lz)
      · exact .inr (Nat.le_trans (hn _ k) (lz.sum (I.sndW z k).wf hx))
    · exact .inr (by rw [s.sum (ok.ds _ hd)]; exact t)
theorem Inv.done (ok : G.Ok) {found : List St} (I : Inv G goals found []) (wfg : ∀ g ∈ goals, G.Wf g) : Bas G goals found where
  snd := I.snd
  anti := I.anti
  nodup := I.nodup
  cov := fun x h => by
    rcases I.low ok wfg (Sm x + 1) (fun x hx => by cases hx) h with k | k
    · exact k
    · omega
theorem Inv.least (ok : G.Ok) {found W B : List St} {one : St} (I : Inv G goals found W) (wfg : ∀ g ∈ goals, G.Wf g) (hB : Bas G goals B) (h1 : one ∈ W) (hm : ∀ x ∈ W, Sm one ≤ Sm x) (hn : ¬ Abv found one) : one ∈ B := by
  have hp := I.sndW one h1
  obtain ⟨b, hb, l⟩ := hB.cov one hp
  have hpb := hB.snd b hb
  rcases I.low ok wfg (Sm one) hm hpb with k | k
  · exact absurd (k.up l) hn
  · exact (Sle.eq_of_sum hpb.wf hp.wf l k) ▸ hb
theorem Inv.skip {found W W' : List St} {one : St} (I : Inv G goals found W) (ha : Abv found one) (hW : ∀ x, x ∈ W ↔ x = one ∨ x ∈ W') : Inv G goals found W' where
  snd := I.snd
  sndW := fun x h => I.sndW x ((hW x).mpr (.inr h))
  gl := fun g hg => (I.gl g hg).elim .inl fun h => ((hW g).mp h).elim (fun e => .inl (e ▸ ha)) .inr
  bf := fun f hf z hz => (I.bf f hf z hz).elim .inl fun h => ((hW z).mp h).elim (fun e => .inl (e ▸ ha)) .inr
  anti := I.anti
  nodup := I.nodup
  ord := fun f hf x hx => I.ord f hf x ((hW x).mpr (.inr hx))
theorem Inv.take (ok : G.Ok) {found W W' : List St} {one : St} (I : Inv G goals found W) (hn : ¬ Abv found one) (h1 : one ∈ W) (hm : ∀ x ∈ W, Sm one ≤ Sm x) (hW : ∀ x ∈ W, x = one ∨ x ∈ W') (hW1 : ∀ x ∈ W', x ∈ W ∨ x ∈ beforeA G one) (hW2 : ∀ x ∈ beforeA G one, x ∈ W') : Inv G goals (found ++ [one]) W' := by
  have up : ∀ {x}, Abv found x → Abv (found ++ [one]) x := fun ⟨f, hf, l⟩ => ⟨f, List.mem_append_left _ hf, l⟩
  have sf : Abv (found ++ [one]) one := ⟨one, by simp, Sle.refl _⟩
  have hp := I.sndW one h1
  have sb : ∀ z ∈ beforeA G one, Sm one ≤ Sm z := fun z hz => by
    obtain ⟨d, hd, hz⟩ := List.mem_flatMap.mp hz
    exact (before_snd (ok.ds _ hd) hp.wf hz).2.2.1
  refine ⟨?_, ?_, ?_, ?_, ?_, ?_, ?_⟩
  · intro x hx
    rcases List.mem_append.mp hx with h | h
    · exact I.snd x h
    · simp at h; exact h ▸ hp
  · intro x hx
    rcases hW1 x hx with h | h
    · exact I.sndW x h
    · exact hp.before ok h
  · intro g hg
    rcases I.gl g hg with h | h
    · exact .inl (up h)
    · rcases hW g h with rfl | h
      · exact .inl sf
      · exact .inr h
  · intro f hf z hz
    rcases List.mem_append.mp hf with h | h
    · rcases I.bf f h z hz with k | k
      · exact .inl (up k)
      · rcases hW z k with rfl | k
        · exact .inl sf
        · exact .inr k
    · simp at h
      subst h
      exact .inr (hW2 z hz)
  · intro a ha b hb l
    rcases List.mem_append.mp ha with h | h <;> rcases List.mem_append.mp hb with k | k
    · exact I.anti a h b k l
    · simp at k; subst k; exact absurd ⟨a, h, l⟩ hn
    · simp at h; subst h
      exact Sle.eq_of_sum hp.wf (I.snd b k).wf l (I.ord b k _ h1)
    · simp at h k; rw [h, k]
  · refine List.nodup_append.mpr ⟨I.nodup, by simp, ?_⟩
    intro a ha b hb e
    simp at hb
    subst hb
    subst e
    exact hn ⟨a, ha, Sle.refl _⟩
  · intro f hf x hx
    have hx' : Sm one ≤ Sm x := (hW1 x hx).elim (hm x) (sb x)
    rcases List.mem_append.mp hf with h | h
    · exact Nat.le_trans (I.ord f h one h1) hx'
    · simp at h; exact h ▸ hx'
def LB (G : Gd) (f x : St) : Prop := G.Wf x ∧ Sm f ≤ Sm x ∧ Sm x ≤ Sm f + 1 ∧ ∃ d ∈ G.ds, ∃ y, Step d G.w x y ∧ Sle f y
structure LInv (G : Gd) (goals found W : List St) : Prop where
  snd : ∀ x ∈ found, Pg G goals x
  sndW : ∀ x ∈ W, Pg G goals x
  gl : ∀ g ∈ goals, Abv found g ∨ g ∈ W
  bf : ∀ f ∈ found, ∀ z, LB G f z → Abv found z ∨ z ∈ W
  anti : ∀ a ∈ found, ∀ b ∈ found, Sle a b → a = b
  nodup : found.Nodup
theorem LInv.done (ok : G.Ok) {found : List St} (I : LInv G goals found []) (wfg : ∀ g ∈ goals, G.Wf g) : Bas G goals found where
  snd := I.snd
  anti := I.anti
  nodup := I.nodup
  cov := fun x h => by
    refine Pg.closed ok (T := Abv found) ?_ ?_ h
    · intro g hg x hx l
      rcases I.gl g hg with h | h
      · exact h.up l
      · cases h
    · intro d hd x y hx hp s ⟨f, hf, l⟩
      obtain ⟨z, hz, lz⟩ := before_cov (ok.ds _ hd) hx (I.snd f hf).wf s l
      obtain ⟨w1, ⟨y', s', l'⟩, k1, k2⟩ := before_snd (ok.ds _ hd) (I.snd f hf).wf hz
      rcases I.bf f hf z ⟨w1, k1, k2, d, hd, y', s', l'⟩ with k | k
      · exact k.up lz
      · cases k
theorem LInv.skip {found W W' : List St} {one : St} (I : LInv G goals found W) (ha : Abv found one) (hW : ∀ x, x ∈ W ↔ x = one ∨ x ∈ W') : LInv G goals found W' where
  snd := I.snd
  sndW := fun x h => I.sndW x ((hW x).mpr (.inr h))
  gl := fun g hg => (I.gl g hg).elim .inl fun h => ((hW g).mp h).elim (fun e => .inl (e ▸ ha)) .inr
  bf := fun f hf z hz => (I.bf f hf z hz).elim .inl fun h => ((hW z).mp h).elim (fun e => .inl (e ▸ ha)) .inr
  anti := I.anti
  nodup := I.nodup
theorem LInv.take (ok : G.Ok) {found found' W W' : List St} {one : St} (I : LInv G goals found W) (hn : ¬ Abv found one) (h1 : one ∈ W)
    (hf' : ∀ x, x ∈ found' ↔ x = one ∨ (x ∈ found ∧ ¬ Sle one x)) (nd : found'.Nodup)
    (hW : ∀ x ∈ W, x = one ∨ x ∈ W') (hW1 : ∀ x ∈ W', x ∈ W ∨ LB G one x) (hW2 : ∀ x, LB G one x → Abv found' x ∨ x ∈ W') : LInv G goals found' W' := by
  have hp := I.sndW one h1
  have sf : Abv found' one := ⟨one, (hf' one).mpr (.inl rfl), Sle.refl _⟩
  have up : ∀ {x}, Abv found x → Abv found' x := fun {x} ⟨f, hf, l⟩ => by
    by_cases q : Sle one f
    · exact ⟨one, (hf' one).mpr (.inl rfl), q.trans l⟩
    · exact ⟨f, (hf' f).mpr (.inr ⟨hf, q⟩), l⟩
  refine ⟨?_, ?_, ?_, ?_, ?_, nd⟩
  · intro x hx
    rcases (hf' x).mp hx with rfl | h
    · exact hp
    · exact I.snd x h.1
  · intro x hx
    rcases hW1 x hx with h | h
    · exact I.sndW x h
    · obtain ⟨w1, _, _, d, hd, y, s, l⟩ := h
      exact .step hd w1 s (hp.up ok (s.wf (ok.ds _ hd) w1) l)
  · intro g hg
    rcases I.gl g hg with h | h
    · exact .inl (up h)
    · rcases hW g h with rfl | h
      · exact .inl sf
      · exact .inr h
  · intro f hf z hz
    rcases (hf' f).mp hf with rfl | h
    · exact hW2 z hz
    · rcases I.bf f h.1 z hz with k | k
      · exact .inl (up k)
      · rcases hW z k with rfl | k
        · exact .inl sf
        · exact .inr k
  · intro a ha b hb l
    rcases (hf' a).mp ha with rfl | h <;> rcases (hf' b).mp hb with rfl | k
    · rfl
    · exact absurd l k.2
    · exact absurd ⟨a, h.1, l⟩ hn
    · exact I.anti a h.1 b k.1 l
end
end Hm

namespace Hm
def sumTo (g : Nat → Nat) : Nat → Nat
  | 0 => 0
  | n + 1 => sumTo g n + g n
def inflow (f : Nat → Option Nat) (k : List Nat) (n p : Nat) : Nat := sumTo (fun i => if f i = some p then gt k i else 0) n
structure Kv (d : Dd) (w : Nat) (o k : List Nat) : Prop where
  len : k.length = w
  le : ∀ i, i < w → gt k i ≤ gt o i
  non : ∀ i, i < w → d.hs i = none → gt k i = 0
  all : d.fail = false → ∀ i, i < w → d.hs i ≠ none → gt k i = gt o i
def Flow (d : Dd) (w : Nat) (o k o' : List Nat) : Prop := o'.length = w ∧ ∀ p, p < w → gt o' p + gt k p = gt o p + inflow d.hs k w p
def kstep (f : Nat → Option Nat) (k later : List Nat) (i : Nat) : List Nat :=
  if 0 < gt k i then
    let l1 := later.set i (gt later i - gt k i)
    let s := (f i).getD 0
    l1.set s (gt l1 s + gt k i)
  else later
def applyK (f : Nat → Option Nat) (k o : List Nat) (n : Nat) : List Nat := (List.range n).foldl (kstep f k) o
end Hm

set_option maxHeartbeats 2000000
namespace Vm
open PySem L2
@[irreducible] def Wp (s : SM) (e : En) (Q : En → Prop) (R : D → En → Prop) : Prop := match s e with
  | .nx e1 => Q e1
  | .rt d e1 => R d e1
  | _ => False
section
variable {e e1 e2 : En} {Q : En → Prop} {R : D → En → Prop}
theorem Wp.mono {s : SM} {Q' : En → Prop} {R' : D → En → Prop} (h : Wp s e Q R) (hq : ∀ e, Q e → Q' e) (hr : ∀ d e, R d e → R' d e) : Wp s e Q' R' := by
  unfold Wp at h ⊢
  split at h
  · exact hq _ h
  · exact hr _ _ h
  · exact h.elim
theorem wp_seq {s k : SM} (h : Wp s e (fun e1 => Wp k e1 Q R) R) : Wp (seqS s k) e Q R := by
  unfold Wp seqS at *
  split at h
  · rename_i q; simp only [q]; exact h
  · rename_i q; simp only [q]; exact h
  · exact h.elim
theorem wp_asg {f : EM} {g : GM} {d : D} (h : f e = .ok d e1) (k : g d e1 = some e2) (q : Q e2) : Wp (sAsg f g) e Q R := by
  simp [Wp, sAsg, h, ofE, k, q]
theorem wp_set {f : EM} {i : Nat} {d : D} (h : f e = .ok d e1) (q : Q ⟨e1.sl.set i (some d), e1.mu⟩) : Wp (sAsg f (gN i)) e Q R := wp_asg h rfl q
theorem wp_ret {f : EM} {d : D} (h : f e = .ok d e1) (q : R d e1) : Wp (sRet f) e Q R := by
  simp [Wp, sRet, h, ofE, q]
theorem wp_expr {f : EM} {d : D} (h : f e = .ok d e1) (q : Q e1) : Wp (sExpr f) e Q R := by
  simp [Wp, sExpr, h, ofE, q]
theorem wp_next (q : Q e) : Wp sNext e Q R := by
  unfold Wp sNext
  exact q
theorem wp_if {t : TM} {a b : SM} {k : Bool} (h : t e = .ok k e1) (ha : k = true → Wp a e1 Q R) (hb : k = false → Wp b e1 Q R) : Wp (sIf t a b) e Q R := by
  cases k
  · have := hb rfl
    simpa [Wp, sIf, h, ofE] using this
  · have := ha rfl
    simpa [Wp, sIf, h, ofE] using this
theorem wp_mix {ms : List Mx} {ds : List D} (h : mxEv ms e = .ok ds e1) (hl : ds.length ≤ LIM) (k : mxSet ms ds e1 = some e2) (q : Q e2) : Wp (sMix ms) e Q R := by
  simp [Wp, sMix, h, ofE, hl, k, nxO, q]
theorem wp_forGo {α : Type} {enc : α → D} {g : GM} {bd : SM} (I : List α → En → Prop) : ∀ {l pre : List α} {e : En}, I pre e →
    (∀ p a r e, pre ++ l = p ++ a :: r → I p e → ∃ e2, g (enc a) e = some e2 ∧ Wp bd e2 (I (p ++ [a])) R) → (∀ e, I (pre ++ l) e → Q e) → Wp (forGo g bd (l.map enc)) e Q R
  | [], pre, e, h0, _, hq => by
    rw [List.append_nil] at hq
    unfold Wp
    simp only [List.map_nil, forGo]
    exact hq _ h0
  | a :: l, pre, e, h0, hs, hq => by
    obtain ⟨e2, h1, h2⟩ := hs pre a l e rfl h0
    have key : ∀ e3, I (pre ++ [a]) e3 → Wp (forGo g bd (l.map enc)) e3 Q R := fun e3 h3 => wp_forGo I (pre := pre ++ [a]) h3 (fun p b r e5 he hp => hs p b r e5 (by rw [← he]; simp) hp) (fun e6 h6 => hq e6 (by simpa using h6))
    unfold Wp at h2 ⊢
    simp only [List.map_cons, forGo, h1]
    split at h2
    · rename_i q
      have := key _ h2
      unfold Wp at this
      simp only [q]
      exact this
    · rename_i q; simp only [q]; exact h2
    · exact h2.elim
theorem wp_for {α : Type} {enc : α → D} {it : LM} {g : GM} {bd : SM} {l : List α} (I : List α → En → Prop) (hit : it e = .ok (l.map enc) e1) (h0 : I [] e1)
    (hs : ∀ p a r e, l = p ++ a :: r → I p e → ∃ e2, g (enc a) e = some e2 ∧ Wp bd e2 (I (p ++ [a])) R) (hq : ∀ e, I l e → Q e) : Wp (sFor it g bd) e Q R := by
  have := wp_forGo (g := g) (bd := bd) (enc := enc) (l := l) (pre := []) (Q := Q) (R := R) I h0 (fun p a r e h => hs p a r e (by simpa using h)) (by simpa using hq)
  unfold Wp at this ⊢
  simp only [sFor, hit, ofE]
  exact this
theorem run_ret {m n : Nat} {bd : SM} {ds : List D} {P : D → Prop} (hl : ds.length = m) (h : Wp bd ⟨ds.map some ++ List.replicate n none, []⟩ (fun _ => False) fun d e => e.mu = [] ∧ P d) : ∃ d, runP m n bd ds = .ok d ∧ P d := by
  unfold Wp at h
  unfold runP
  rw [if_pos hl]
  split at h
  · exact h.elim
  · rename_i d e1 q
    refine ⟨d, ?_, h.2⟩
    simp only [q, endP, h.1]
  · exact h.elim
theorem run_eq {m n : Nat} {bd : SM} {ds : List D} {d : D} (hl : ds.length = m) (h : Wp bd ⟨ds.map some ++ List.replicate n none, []⟩ (fun _ => False) fun d' e => e.mu = [] ∧ d' = d) : runP m n bd ds = .ok d := by
  obtain ⟨d', h1, rfl⟩ := run_ret hl h
  exact h1
theorem run_non {m n : Nat} {bd : SM} {ds : List D} (hl : ds.length = m) (h : Wp bd ⟨ds.map some ++ List.replicate n none, []⟩ (fun e => e.mu = []) fun _ _ => False) : runP m n bd ds = .ok .non := by
  unfold Wp at h
  unfold runP
  rw [if_pos hl]
  split at h
  · rename_i q; simp only [q, endP, h]
  · exact h.elim
  · exact h.elim
theorem lc_go {α : Type} {enc : α → D} {p : α → Bool} {r : α → D} {g : GM} {tt : TM} {te : EM} {vs : List Nat} {e0 : En} : ∀ {l : List α} {acc : List D},
    (∀ a ∈ l, ∃ E, g (enc a) e0 = some E ∧ tt E = .ok (p a) E ∧ (p a = true → te E = .ok (r a) E) ∧ wipeE E vs = e0) → acc.length + l.length ≤ LIM → lcGo g tt te vs (l.map enc) acc e0 = .ok (acc ++ (l.filter p).map r) e0
  | [], acc, _, _ => by simp [lcGo]
  | a :: l, acc, h, hl => by
    obtain ⟨E, h1, h2, h3, h4⟩ := h a (List.mem_cons_self ..)
    have hl' : acc.length + l.length < LIM := by simp at hl; omega
    have ih := fun acc' (k : acc'.length + l.length ≤ LIM) => lc_go (acc := acc') (fun a ha => h a (List.mem_cons_of_mem _ ha)) k
    cases q : p a
    · simp [lcGo, h1, h2, Rs.nox, Rs.bind, q, h4, List.filter_cons]
      exact ih acc (by omega)
    · have h5 := h3 q
      simp [lcGo, h1, h2, h5, Rs.nox, Rs.bind, q, h4, List.filter_cons]
      rw [if_pos (by omega), ih _ (by simp; omega)]
      simp
theorem eLc_ok {α : Type} {enc : α → D} {l : List α} {p : α → Bool} {r : α → D} {it : LM} {g : GM} {tt : TM} {te : EM} {vs : List Nat} (hit : it e = .ok (l.map enc) e1) (hl : l.length ≤ LIM)
    (hc : clear e1 vs = true) (hb : back e1 vs (wipeE e1 vs) = e1)
    (h : ∀ a ∈ l, ∃ E, g (enc a) (wipeE e1 vs) = some E ∧ tt E = .ok (p a) E ∧ (p a = true → te E = .ok (r a) E) ∧ wipeE E vs = wipeE e1 vs) : eLc it g tt te vs e = .ok (.olst ((l.filter p).map r)) e1 := by
  unfold eLc
  rw [hit]
  simp only [Rs.bind, hc]
  rw [lc_go h (by simpa using hl)]
  have : ((l.filter p).map r).length ≤ LIM := by
    rw [List.length_map]
    exact Nat.le_trans (List.length_filter_le _ _) hl
  simp only [mkLst, List.nil_append, this, if_true, lift, hb]
  rfl
theorem eLc_map {α : Type} {enc : α → D} {l : List α} {r : α → D} {it : LM} {g : GM} {te : EM} {vs : List Nat} (hit : it e = .ok (l.map enc) e1) (hl : l.length ≤ LIM)
    (hc : clear e1 vs = true) (hb : back e1 vs (wipeE e1 vs) = e1)
    (h : ∀ a ∈ l, ∃ E, g (enc a) (wipeE e1 vs) = some E ∧ te E = .ok (r a) E ∧ wipeE E vs = wipeE e1 vs) : eLc it g tYesD te vs e = .ok (.olst (l.map r)) e1 := by
  rw [eLc_ok (p := fun _ => true) (r := r) (tt := tYesD) hit hl hc hb fun a ha => let ⟨E, h1, h2, h3⟩ := h a ha; ⟨E, h1, rfl, fun _ => h2, h3⟩]
  rw [List.filter_eq_self.mpr (fun _ _ => rfl)]
theorem call_ok {p : PF} {ar : LM} {ds : List D} {d : D} (h : ar e = .ok ds e1) (hm : e1.mu = [] ∨ noLocL ds = true) (k : p ds = .ok d) : eCall (pureF p) ar e = .ok d e1 := by
  obtain ⟨sl, mu⟩ := e1
  cases mu with
  | nil => simp [eCall, h, Rs.bind, callF, pureF, k, toRo]
  | cons c mu =>
    have hm' : noLocL ds = true := by rcases hm with h | h
                                      · cases h
                                      · exact h
    simp [eCall, h, Rs.bind, callF, pureF, k, toRo, hm']
theorem meth_ok {c : Nat} {p : PF} {fo : EM} {ar : LM} {fs ds : List D} {d : D} (h : fo e = .ok (.ins c fs) e1) (h2 : ar e1 = .ok ds e2) (hm : e2.mu = []) (k : p (.ins c fs :: ds) = .ok d) : eMeth c (pureF p) fo ar e = .ok d e2 := by
  obtain ⟨sl, mu⟩ := e2
  cases hm
  simp [eMeth, h, h2, Rs.bind, callF, pureF, k, toRo]
end
@[simp] theorem isF_non : isF .non = true := rfl
@[simp] theorem isF_bl (b) : isF (.bl b) = true := rfl
@[simp] theorem isF_int (b) : isF (.int b) = true := rfl
@[simp] theorem isF_str (b) : isF (.str b) = true := rfl
@[simp] theorem isF_tup (b) : isF (.tup b) = true := rfl
@[simp] theorem isF_tux (b) : isF (.tux b) = true := rfl
@[simp] theorem isF_lst (b) : isF (.lst b) = true := rfl
@[simp] theorem isF_rol (b) : isF (.rol b) = true := rfl
@[simp] theorem isF_dic (b) : isF (.dic b) = true := rfl
@[simp] theorem isF_dix (b) : isF (.dix b) = true := rfl
@[simp] theorem isF_ins (c b) : isF (.ins c b) = true := rfl
@[simp] theorem isF_loc (b) : isF (.loc b) = true := rfl
@[simp] theorem isF_olst (b) : isF (.olst b) = false := rfl
@[simp] theorem isF_odic (b) : isF (.odic b) = false := rfl
@[simp] theorem isF_odix (b) : isF (.odix b) = false := rfl
abbrev eN (n : Nat) : D := .int (n : Int)
def eT (c : List Nat) : D := .tup (c.map eN)
@[simp] theorem eqv_int (a b : Int) : PyData.eqv (.int a) (.int b) = (a == b) := by simp [PyData.eqv]
@[simp] theorem eqv_str (a b : Str) : PyData.eqv (.str a) (.str b) = (a == b) := by simp [PyData.eqv]
theorem deq_int (a b : Int) : deq (.int a) (.int b) = (a == b) := by simp [deq, pd]
theorem deq_str' (a b : Str) : deq (.str a) (.str b) = (a == b) := by simp [deq, pd]
@[simp] theorem dEqA_int (a b : Int) : dEqA (.int a) (.int b) = some (.bl (a == b)) := by simp [orD, dEqA, dEq, pln, deq_int]
@[simp] theorem dEqA_str (a b : Str) : dEqA (.str a) (.str b) = some (.bl (a == b)) := by simp [orD, dEqA, dEq, pln, deq_str']
@[simp] theorem dNeA_int (a b : Int) : dNeA (.int a) (.int b) = some (.bl (!(a == b))) := by simp [orD, dNeA, dNe, pln, deq_int]
theorem deq_lst_nil (xs : List D) : deq (.lst xs) (.olst []) = xs.isEmpty := by
  cases xs <;> simp [deq, pd, pdL, PyData.eqv, PyData.eqvAll]
theorem dEqA_nil {xs : List D} (h : pln DEP (.lst xs) = true) : dEqA (.lst xs) (.olst []) = some (.bl xs.isEmpty) := by
  have h2 : pln DEP (.olst []) = true := by decide
  simp [orD, dEqA, dEq, h, h2, deq_lst_nil]
theorem dNeA_nil {xs : List D} (h : pln DEP (.lst xs) = true) : dNeA (.lst xs) (.olst []) = some (.bl (!xs.isEmpty)) := by
  have h2 : pln DEP (.olst []) = true := by decide
  simp [orD, dNeA, dNe, h, h2, deq_lst_nil]
theorem plnLA {n : Nat} : ∀ {l : List D}, (∀ d ∈ l, pln n d = true) → plnL n l = true
  | [], _ => by cases n <;> rfl
  | d :: l, h => by simp [plnL, h d (by simp), plnLA fun x hx => h x (List.mem_cons_of_mem _ hx)]
theorem pln_lst {n : Nat} {xs : List D} (h : ∀ d ∈ xs, pln n d = true) : pln (n + 1) (.lst xs) = true := by simp [pln, plnLA h]
theorem pln_tup {n : Nat} {xs : List D} (h : ∀ d ∈ xs, pln n d = true) : pln (n + 1) (.tup xs) = true := by simp [pln, plnLA h]
theorem pln_tux {n : Nat} {xs : List D} (h : ∀ d ∈ xs, pln n d = true) : pln (n + 1) (.tux xs) = true := by simp [pln, plnLA h]
@[simp] theorem pln_int (n : Nat) (i : Int) : pln n (.int i) = true := by cases n <;> rfl
@[simp] theorem pln_str (n : Nat) (i : Str) : pln n (.str i) = true := by cases n <;> rfl
@[simp] theorem pln_non (n : Nat) : pln n .non = true := by cases n <;> rfl
@[simp] theorem pln_bl (n : Nat) (b : Bool) : pln n (.bl b) = true := by cases n <;> rfl
@[simp] theorem pln_eT (n : Nat) (c : List Nat) : pln (n + 1) (eT c) = true := pln_tup fun d h => by
  obtain ⟨x, _, rfl⟩ := List.mem_map.mp h
  simp
@[simp] theorem isF_eT (c : List Nat) : isF (eT c) = true := rfl
@[simp] theorem dLt_int (a b : Int) : dLt (.int a) (.int b) = some (.bl (decide (a < b))) := rfl
@[simp] theorem dLe_int (a b : Int) : dLe (.int a) (.int b) = some (.bl (decide (a ≤ b))) := rfl
@[simp] theorem dGt_int (a b : Int) : dGt (.int a) (.int b) = some (.bl (decide (b < a))) := rfl
@[simp] theorem dGe_int (a b : Int) : dGe (.int a) (.int b) = some (.bl (decide (b ≤ a))) := rfl
@[simp] theorem dSub_int (a b : Int) : dSub (.int a) (.int b) = some (.int (a - b)) := rfl
@[simp] theorem dAddA_int (a b : Int) : dAddA (.int a) (.int b) = some (.int (a + b)) := rfl
theorem dAddA_lst {xs ys : List D} (h : xs.length + ys.length ≤ LIM) : dAddA (.lst xs) (.lst ys) = some (.olst (xs ++ ys)) := by
  simp [orD, dAddA, dAddI, dInt, dCatT, dCatS, dCatL, litems?, h]
theorem ixN_nat {n i : Nat} (h : i < n) : ixN n (i : Int) = some i := by
  simp [ixN, h]
theorem atI_nat {xs : List D} {i : Nat} {d : D} (h : xs[i]? = some d) : atI xs (i : Int) = some d := by
  have := (List.getElem?_eq_some_iff.mp h).1
  simp [atI, ixN_nat this, h]
theorem dIxA_lst {xs : List D} {i : Nat} {d : D} (h : xs[i]? = some d) (hd : isF d = true) : dIxA (.lst xs) (.int (i : Int)) = some d := by
  simp [orD, dIxA, dIx, items?, atI_nat h, hd]
@[simp] theorem dIxA_t0 (a : D) (r : List D) : dIxA (.tup (a :: r)) (.int 0) = if isF a then some a else none := by
  have : atI (a :: r) (0 : Int) = some a := atI_nat (i := 0) rfl
  by_cases h : isF a = true
  · simp [orD, dIxA, dIx, items?, this, h]
  · simp only [Bool.not_eq_true] at h
    simp [orD, dIxA, dIx, items?, this, h, dIxK, dkvs?, dIxN, nkvs?]
@[simp] theorem dIxA_t1 (a b : D) (r : List D) : dIxA (.tup (a :: b :: r)) (.int 1) = if isF b then some b else none := by
  have : atI (a :: b :: r) (1 : Int) = some b := atI_nat (i := 1) rfl
  by_cases h : isF b = true
  · simp [orD, dIxA, dIx, items?, this, h]
  · simp only [Bool.not_eq_true] at h
    simp [orD, dIxA, dIx, items?, this, h, dIxK, dkvs?, dIxN, nkvs?]
@[simp] theorem dIxA_t2 (a b c : D) (r : List D) : dIxA (.tup (a :: b :: c :: r)) (.int 2) = if isF c then some c else none := by
  have : atI (a :: b :: c :: r) (2 : Int) = some c := atI_nat (i := 2) rfl
  by_cases h : isF c = true
  · simp [orD, dIxA, dIx, items?, this, h]
  · simp only [Bool.not_eq_true] at h
    simp [orD, dIxA, dIx, items?, this, h, dIxK, dkvs?, dIxN, nkvs?]
@[simp] theorem dIxA_l0 (a : D) (r : List D) : dIxA (.lst (a :: r)) (.int 0) = if isF a then some a else none := by
  have : atI (a :: r) (0 : Int) = some a := atI_nat (i := 0) rfl
  by_cases h : isF a = true
  · simp [orD, dIxA, dIx, items?, this, h]
  · simp only [Bool.not_eq_true] at h
    simp [orD, dIxA, dIx, items?, this, h, dIxK, dkvs?, dIxN, nkvs?]
@[simp] theorem dIxA_l1 (a b : D) (r : List D) : dIxA (.lst (a :: b :: r)) (.int 1) = if isF b then some b else none := by
  have : atI (a :: b :: r) (1 : Int) = some b := atI_nat (i := 1) rfl
  by_cases h : isF b = true
  · simp [orD, dIxA, dIx, items?, this, h]
  · simp only [Bool.not_eq_true] at h
    simp [orD, dIxA, dIx, items?, this, h, dIxK, dkvs?, dIxN, nkvs?]
theorem ints_map : ∀ (c : List Nat), ints? (c.map eN) = some (c.map fun (n : Nat) => (n : Int))
  | [] => rfl
  | x :: c => by simp [ints?, ints_map c]
theorem sum_cast : ∀ (c : List Nat), (c.map fun (n : Nat) => (n : Int)).sum = (c.sum : Nat)
  | [] => rfl
  | x :: c => by simp [sum_cast c]
@[simp] theorem dSum_eT (c : List Nat) : dSum (eT c) = some (eN c.sum) := by simp [dSum, eT, fitems?, ints_map, sum_cast]
@[simp] theorem dSum_lst (c : List Nat) : dSum (.lst (c.map eN)) = some (eN c.sum) := by simp [dSum, fitems?, ints_map, sum_cast]
def eK (l : List (Nat × Nat)) : List (D × D) := l.map fun p => (eN p.1, eN p.2)
theorem map_eT_F (l : List (List Nat)) : (l.map eT).all isF = true := by simp
theorem lim0 : (0 ≤ LIM) = True := by simp [LIM]
theorem lim1 : (1 ≤ LIM) = True := by simp [LIM]
theorem lim2 : (2 ≤ LIM) = True := by simp [LIM]
theorem lim3 : (3 ≤ LIM) = True := by simp [LIM]
theorem lim4 : (4 ≤ LIM) = True := by simp [LIM]
theorem lim5 : (5 ≤ LIM) = True := by simp [LIM]
theorem lim6 : (6 ≤ LIM) = True := by simp [LIM]
theorem lim7 : (7 ≤ LIM) = True := by simp [LIM]
theorem lim8 : (8 ≤ LIM) = True := by simp [LIM]
local macro_rules | `(tactic| simp! only [$xs,*]) => `(tactic| simp only [bin, un, eVar, eBor, eC, eTest, tAndD, tOrD, tNotD, eOfT, eIf, eAnd, eOr, eNot, aNil, aCons, eTup, eLst, Rs.bind, lift, ofE, eMove, eFrz, frzE, frzA, frzD, gN, gsNil, gsCons, gT, itSeq, seqOf, itOwn, itZipS, itEnum, itItems, wipeE, wipeS, back, backS, clear, tYesD, eFld, isT, items?, fitems?, litems?, Rs.nox, pN, pS, eSl, mkTup, mkLst, dIsN, dNotN, isN, eDic, eDix, mxEv, mxSet, toRo,   isF_non, isF_bl, isF_int, isF_str, isF_tup, isF_tux, isF_lst, isF_rol, isF_dic, isF_dix, isF_ins, isF_loc, isF_olst, isF_odic, isF_odix, isF_eT, if_true, if_false, reduceIte, Bool.false_eq_true, Bool.true_eq_false, Bool.not_true, Bool.not_false, Bool.and_true, Bool.true_and, Bool.and_false, Bool.false_and, Bool.or_true, Bool.true_or, Bool.or_false, Bool.false_or,   List.getElem?_cons_zero, List.getElem?_cons_succ, List.set_cons_zero, List.set_cons_succ, Option.bind_some, Option.map_some, Option.getD_some, Option.getD_none, List.length_cons, List.length_nil, List.length_map, Nat.zero_add, Nat.reduceAdd, List.all_cons, List.all_nil, List.map_cons, List.map_nil, List.replicate, List.cons_append, List.nil_append, lim0, lim1, lim2, lim3, lim4, lim5, lim6, lim7, lim8,   dEqA_int, dEqA_str, dNeA_int, dLt_int, dLe_int, dGt_int, dGe_int, dSub_int, dAddA_int, dIxA_t0, dIxA_t1, dIxA_t2, dIxA_l0, dIxA_l1, dSum_eT, dSum_lst, map_eT_F, $xs,*])
theorem rngD_nat (n : Nat) : rngD (n : Int) = (List.range n).map eN := by
  simp [rngD]
theorem itRange_ok {f : EM} {e e1 : En} {n : Nat} (h : f e = .ok (eN n) e1) (hn : n ≤ LIM) : itRange f e = .ok ((List.range n).map eN) e1 := by
  have h2 : -1000000 ≤ (n : Int) ∧ (n : Int) ≤ 1000000 := by
    unfold LIM at hn
    omega
  unfold itRange
  rw [h]
  simp only [Rs.bind]
  rw [if_pos h2, rngD_nat]
theorem cut_lo (c : List D) (i : Nat) : cutD c none (some (i : Int)) = c.take i := by
  simp only [cutD, HT.sIx_none, HT.sIx_nat]
  by_cases h : i ≤ c.length
  · rw [Nat.min_eq_left h]; simp
  · rw [Nat.min_eq_right (by omega)]
    simp [List.take_of_length_le (show c.length ≤ i by omega)]
theorem cut_hi (c : List D) (i : Nat) : cutD c (some (i : Int)) none = c.drop i := by
  simp only [cutD, HT.sIx_none, HT.sIx_nat]
  by_cases h : i ≤ c.length
  · rw [Nat.min_eq_left h, List.take_of_length_le (by simp)]
  · rw [Nat.min_eq_right (by omega), List.drop_of_length_le (Nat.le_refl _), List.drop_of_length_le (by omega)]
    simp
def ent (f : Nat → Option Nat) (n : Nat) : List (Nat × Nat) := (List.range n).filterMap fun i => (f i).map fun p => (i, p)
def eDeed (d : Hm.Dd) (nh w : Nat) (s : D) : D := .ins 1 [.bl d.bh, eN d.pl, eN d.ot, s, .bl d.fail, .dic (eK (ent d.hh nh)), .dic (eK (ent d.hs w))]
def eGr (b : D) (ds : List D) (w : Nat) : D := .ins 2 [b, .lst ds, eN w]
@[simp] theorem isF_eDeed (d nh w s) : isF (eDeed d nh w s) = true := rfl
@[simp] theorem isF_eGr (d nh w) : isF (eGr d nh w) = true := rfl
theorem chg_app {sl : List (Option D)} {i : Nat} {ds : List D} {d : D} (h : sl[i]? = some (some (.olst ds))) (hl : ds.length < LIM) : chg i (kApp d) ⟨sl, []⟩ = some ⟨sl.set i (some (.olst (ds ++ [d]))), []⟩ := by
  simp [chg, hold?, h, kApp, hl, En.put]
theorem wp_app {i : Nat} {f : EM} {e : En} {sl : List (Option D)} {ds : List D} {d : D} {Q : En → Prop} {R : D → En → Prop} (he : e = ⟨sl, []⟩) (h : sl[i]? = some (some (.olst ds))) (hf : f e = .ok d e) (hl : ds.length < LIM) (q : Q ⟨sl.set i (some (.olst (ds ++ [d]))), []⟩) : Wp (sApp i f) e Q R := by
  subst he
  unfold Wp sApp
  simp only [hasL, hold?, h, hf, ofE, chg_app h hl, nxO]
  exact q
theorem wp_ext {i : Nat} {f : EM} {e : En} {sl : List (Option D)} {ds d : List D} {x : D} {Q : En → Prop} {R : D → En → Prop} (he : e = ⟨sl, []⟩) (h : sl[i]? = some (some (.olst ds))) (hf : f e = .ok x e) (hx : litems? x = some d) (hl : ds.length + d.length ≤ LIM) (q : Q ⟨sl.set i (some (.olst (ds ++ d))), []⟩) : Wp (sExt i f) e Q R := by
  subst he
  unfold Wp sExt
  simp only [hasL, hold?, h, hf, ofE, hx, nxO, chg, Option.bind, kExt, hl, if_true, Option.map, En.put]
  exact q
section
variable {d : Hm.Dd} {nh w p : Nat} {s b : D} {dl : List D}
end
theorem range_split {w a : Nat} {p r : List Nat} (h : List.range w = p ++ a :: r) : p = List.range a ∧ a < w := by
  have hl : p.length < w := by
    have := congrArg List.length h
    simp at this; omega
  have h1 : a = p.length := by
    have := congrArg (fun l => l[p.length]?) h
    simp [hl] at this
    exact this.symm
  refine ⟨?_, by omega⟩
  have := congrArg (List.take p.length) h
  rw [List.take_left, List.take_range, Nat.min_eq_left (by omega)] at this
  rw [h1]
  exact this.symm
section
variable {d : Hm.Dd} {nh w : Nat} {s b : D} {dl : List D}
end
def eSt (x : Hm.St) : D := .tup [eN x.1, eT x.2]
@[simp] theorem isF_eSt (x) : isF (eSt x) = true := rfl
theorem ocall {p : PF} {ar : LM} {ds : List D} {r : D} {e : En} (h1 : ar e = .ok ds e) (hm : e.mu = []) (k : p ds = .ok r) : eCall (pureF p) ar e = .ok r e := call_ok (e1 := e) h1 (.inl hm) k
theorem fcall {p : PF} {ar : LM} {ds : List D} {r d : D} {e : En} (h1 : ar e = .ok ds e) (hm : e.mu = []) (k : p ds = .ok r) (hr : frzT r = some d) : frzA (eCall (pureF p) ar) e = .ok d e := by
  have := call_ok (e1 := e) h1 (.inl hm) k
  rw [show frzA _ e = (eCall (pureF p) ar e).bind fun d e1 => lift (frzT d) e1 from rfl, this]
  simp only [Rs.bind, hr, lift]
theorem itSeq_ok {f : EM} {e e1 : En} {d : D} {ds : List D} (h : f e = .ok d e1) (k : items? d = some ds) : itSeq f e = .ok ds e1 := by
  simp only [itSeq, h, Rs.bind, seqOf, k]
theorem eIf_t {t : TM} {f g : EM} {e e1 : En} {r : Rs D} (h : t e = .ok true e1) (k : f e1 = r) : eIf t f g e = r := by
  simp only [eIf, h, Rs.bind, if_true, k]
theorem eIf_f {t : TM} {f g : EM} {e e1 : En} {r : Rs D} (h : t e = .ok false e1) (k : g e1 = r) : eIf t f g e = r := by
  simp only [eIf, h, Rs.bind, k]
  rfl
theorem frzE_ok {f : EM} {e e1 : En} {d d' : D} (h : f e = .ok d e1) (k : frzD d = some d') : frzE f e = .ok d' e1 := by
  simp only [frzE, h, Rs.bind, k, lift]
theorem frzA_ok {f : EM} {e e1 : En} {d d' : D} (h : f e = .ok d e1) (k : frzT d = some d') : frzA f e = .ok d' e1 := by
  simp only [frzA, h, Rs.bind, k, lift]
theorem un_ok {g : D → Option D} {f : EM} {e e1 : En} {d d' : D} (h : f e = .ok d e1) (k : g d = some d') : un g f e = .ok d' e1 := by
  simp only [un, h, Rs.bind, k, lift]
theorem bin_ok {g : D → D → Option D} {f1 f2 : EM} {e e1 e2 : En} {x y d : D} (h1 : f1 e = .ok x e1) (h2 : f2 e1 = .ok y e2) (k : g x y = some d) : bin g f1 f2 e = .ok d e2 := by
  simp only [bin, h1, h2, Rs.bind, k, lift]
theorem aCons_ok {f : EM} {g : LM} {e e1 e2 : En} {d : D} {ds : List D} (h : f e = .ok d e1) (k : g e1 = .ok ds e2) : aCons f g e = .ok (d :: ds) e2 := by
  simp only [aCons, h, k, Rs.bind]
theorem eTest_ok {f : EM} {e e1 : En} {k : Bool} (h : f e = .ok (.bl k) e1) : eTest f e = .ok k e1 := by
  simp only [eTest, h, Rs.bind]
theorem tOr_f {f g : TM} {e e1 : En} {r : Rs Bool} (h : f e = .ok false e1) (k : g e1 = r) : tOrD f g e = r := by
  simp only [tOrD, h, Rs.bind, k]
  rfl
theorem tAnd_t {f g : TM} {e e1 : En} {r : Rs Bool} (h : f e = .ok true e1) (k : g e1 = r) : tAndD f g e = r := by
  simp only [tAndD, h, Rs.bind, k, if_true]
theorem tAnd_f {f g : TM} {e e1 : En} (h : f e = .ok false e1) : tAndD f g e = .ok false e1 := by
  simp only [tAndD, h, Rs.bind]
  rfl
theorem tNot_ok {f : TM} {e e1 : En} {k : Bool} (h : f e = .ok k e1) : tNotD f e = .ok (!k) e1 := by
  simp only [tNotD, h, Rs.bind]
section
variable {d : Hm.Dd} {nh w : Nat} {s b : D} {dl : List D}
end
def eG (b : D) (nh w : Nat) (L : List (Hm.Dd × D)) : D := eGr b (L.map fun p => eDeed p.1 nh w p.2) w
@[simp] theorem isF_eG (b nh w L) : isF (eG b nh w L) = true := rfl
abbrev gd (nh w : Nat) (L : List (Hm.Dd × D)) : Hm.Gd := ⟨nh, w, L.map (·.1)⟩
section
variable {b : D} {nh w : Nat} {L : List (Hm.Dd × D)}
end
def sleB (x y : Hm.St) : Bool := (x.1 == y.1) && ((y.2.zip x.2).filter fun p => decide (p.1 < p.2)).isEmpty
abbrev Wt := List (Nat × List Hm.St)
def eW (W : Wt) : List (D × D) := W.map fun p => (eN p.1, .olst (p.2.map eSt))
def putW : Wt → Nat → Hm.St → Wt
  | [], k, x => [(k, [x])]
  | (j, l) :: r, k, x => if j = k then (j, l ++ [x]) :: r else (j, l) :: putW r k x
def flatW (W : Wt) : List Hm.St := W.flatMap (·.2)
structure WtOk (W : Wt) : Prop where
  nd : (W.map (·.1)).Nodup
  ne : ∀ p ∈ W, p.2 ≠ []
  sm : ∀ p ∈ W, ∀ x ∈ p.2, Hm.Sm x = p.1
def delW (W : Wt) (k : Nat) : Wt := W.filter fun p => !(p.1 == k)
section
variable {b : D} {nh w : Nat} {L : List (Hm.Dd × D)}
end
structure Ent where
  bh : Bool
  pl : Nat
  sn : Option Str
  ot : Nat
structure Pt where
  H : List Str
  S : List Str
  ds : List Ent
  es : List Ent
  ls : List Str
def Pt.nm (P : Pt) (bh : Bool) (i : Nat) : Str := ((if bh then P.H else P.S)[i]?).getD ⟨#[]⟩
def eO : Option Str → D
  | none => .non
  | some x => .str x
@[simp] theorem isF_eO (o) : isF (eO o) = true := by cases o <;> rfl
def eE (P : Pt) (e : Ent) : D := .tup [.str (P.nm e.bh e.pl), eO e.sn, .str (P.nm e.bh e.ot)]
@[simp] theorem isF_eE (P e) : isF (eE P e) = true := rfl
def eStr (l : List Str) : List D := l.map .str
def eP (P : Pt) : D := .lst [.lst (eStr P.H), .lst (eStr P.S), .lst (P.ds.map (eE P)), .lst (P.es.map (eE P)), .lst (eStr P.ls)]
def Pt.n (P : Pt) (bh : Bool) : Nat := if bh then P.H.length else P.S.length
structure Ent.Ok (P : Pt) (e : Ent) : Prop where
  pl : e.pl < P.n e.bh
  ot : e.ot < P.n e.bh
def okName (x : Str) : Bool := decide (1 ≤ x.length) && (decide (x.length ≤ 8) && (charsD x).all fun d => match d with | .str y => PyData.strOk y && inS y "abcdefghijklmnopqrstuvwxyz" | _ => false)
structure Pt.Ok (P : Pt) : Prop where
  nd : (P.H ++ P.S).Nodup
  nm : ∀ x ∈ P.H ++ P.S ++ P.ls, okName x = true
  h1 : 1 ≤ P.H.length
  h3 : P.H.length ≤ 3
  s1 : 1 ≤ P.S.length
  s4 : P.S.length ≤ 4
  d10 : P.ds.length ≤ 10
  e12 : P.es.length ≤ 12
  l4 : P.ls.length ≤ 4
  ln : P.ls.Nodup
  ds : ∀ e ∈ P.ds, e.Ok P ∧ ∀ x, e.sn = some x → okName x = true
  es : ∀ e ∈ P.es, e.Ok P ∧ ∃ x, e.sn = some x ∧ okName x = true
  en : (P.es.map fun e => (e.bh, e.pl, e.sn)).Nodup
theorem nm_inj {P : Pt} (h : (P.H ++ P.S).Nodup) {b1 b2 : Bool} {i j : Nat} (hi : i < P.n b1) (hj : j < P.n b2) (e : P.nm b1 i = P.nm b2 j) : b1 = b2 ∧ i = j := by
  have hn := List.nodup_append.mp h
  unfold Pt.nm Pt.n at *
  cases b1 <;> cases b2
  · simp at hi hj e ⊢
    rw [List.getElem?_eq_getElem hi, List.getElem?_eq_getElem hj] at e
    exact (List.getElem?_inj hi hn.2.1).mp (by rw [List.getElem?_eq_getElem hi, List.getElem?_eq_getElem hj]; simpa using e)
  · simp at hi hj e ⊢
    rw [List.getElem?_eq_getElem hi, List.getElem?_eq_getElem hj] at e
    exact hn.2.2 _ (List.getElem_mem hj) _ (List.getElem_mem hi) (by simpa using e.symm)
  · simp at hi hj e ⊢
    rw [List.getElem?_eq_getElem hi, List.getElem?_eq_getElem hj] at e
    exact hn.2.2 _ (List.getElem_mem hi) _ (List.getElem_mem hj) (by simpa using e)
  · simp at hi hj e ⊢
    rw [List.getElem?_eq_getElem hi, List.getElem?_eq_getElem hj] at e
    exact (List.getElem?_inj hi hn.1).mp (by rw [List.getElem?_eq_getElem hi, List.getElem?_eq_getElem hj]; simpa using e)
def Pt.hear (P : Pt) (bh : Bool) (i : Nat) (s : Option Str) : Option Nat := (P.es.find? fun e => e.bh == bh && (e.pl == i && (e.sn == s && s.isSome))).map (·.ot)
theorem kq_pair (a b c : Str) (o : Option Str) : kq (.tup [.str a, .str b]) (.tup [.str c, eO o]) = (a == c && some b == o) := by
  cases o with
  | none => simp [kq, dnest, dnestL, eO, NestedKey.beq, NestedKey.beqAll]
  | some x =>
    simp only [kq, dnest, dnestL, eO, Option.bind, Option.map, NestedKey.beq, NestedKey.beqAll, Bool.and_true]
    rw [Bool.eq_iff_iff]
    simp
def eKn (P : Pt) (l : List Ent) : List (D × D) := l.map fun e => (.tup [.str (P.nm e.bh e.pl), eO e.sn], .str (P.nm e.bh e.ot))
theorem lk_known {P : Pt} (ok : P.Ok) {bh : Bool} {i : Nat} (hi : i < P.n bh) (s : Option Str) : ∀ {l : List Ent}, (∀ e ∈ l, e ∈ P.es) → lkD (eKn P l) (.tup [.str (P.nm bh i), eO s]) = ((l.find? fun e => e.bh == bh && (e.pl == i && (e.sn == s && s.isSome))).map fun e => .str (P.nm bh e.ot))
  | [], _ => rfl
  | e :: l, h => by
    have ih := lk_known ok hi s (l := l) fun e he => h e (List.mem_cons_of_mem _ he)
    obtain ⟨oke, x, hx, _⟩ := ok.es e (h e (List.mem_cons_self ..))
    have e1 : kq (.tup [.str (P.nm e.bh e.pl), eO e.sn]) (.tup [.str (P.nm bh i), eO s]) = (e.bh == bh && (e.pl == i && (e.sn == s && s.isSome))) := by
      rw [hx]
      show kq (.tup [.str (P.nm e.bh e.pl), .str x]) _ = _
      rw [kq_pair, Bool.eq_iff_iff]
      simp only [Bool.and_eq_true, beq_iff_eq]
      constructor
      · rintro ⟨h1, h2⟩
        obtain ⟨h3, h4⟩ := nm_inj ok.nd oke.pl hi h1
        exact ⟨h3, h4, h2, by rw [← h2]; rfl⟩
      · rintro ⟨h1, h2, h3, _⟩
        exact ⟨by rw [h1, h2], h3⟩
    simp only [eKn, List.map_cons, lkD, List.find?_cons]
    rw [e1]
    cases q : (e.bh == bh && (e.pl == i && (e.sn == s && s.isSome)))
    · simp only [Bool.false_eq_true, if_false]
      exact ih
    · have : e.bh = bh := by
        simp only [Bool.and_eq_true, beq_iff_eq] at q
        exact q.1
      simp [this]
theorem nkey_pair (a : Str) (o : Option Str) : ∃ k, nkey (.tup [.str a, eO o]) = some k := by
  cases o with
  | none => exact ⟨_, rfl⟩
  | some x => exact ⟨_, rfl⟩
theorem inD_str (x : Str) (l : List Str) : inD (.str x) (eStr l) = l.contains x := by
  unfold inD eStr
  induction l with
  | nil => rfl
  | cons y l ih =>
    simp only [List.map_cons, List.any_cons, List.contains_cons, ih, deq_str']
    congr 1
    rw [Bool.eq_iff_iff]
    simp
    exact eq_comm
theorem inD_non (l : List Str) : inD .non (eStr l) = false := by
  unfold inD eStr
  induction l with
  | nil => rfl
  | cons y l ih => simp only [List.map_cons, List.any_cons, ih]; rfl
def hasS (l : List Str) : Option Str → Bool
  | none => false
  | some x => l.contains x
theorem inD_eO (o : Option Str) (l : List Str) : inD (eO o) (eStr l) = hasS l o := by
  cases o with
  | none => exact inD_non l
  | some x => exact inD_str x l
theorem flat_eO (o : Option Str) : flat (eO o) = true := by cases o <;> rfl
theorem flat_eStr (l : List Str) : (eStr l).all flat = true := by simp [eStr, flat]
theorem in_lst (o : Option Str) (l : List Str) : dInA (eO o) (.lst (eStr l)) = some (.bl (hasS l o)) := by
  simp only [dInA, orD, dIn, dInF, fitems?, flat_eO, flat_eStr, inD_eO, true_and, if_true]
  rfl
theorem isF_eStr (l : List Str) : (eStr l).all isF = true := by simp [eStr]
@[simp] theorem isi_lst (xs : List D) : dIsiN "list" (.lst xs) = some (.bl true) := by
  simp only [dIsiN, dIsi, tyN, Option.bind]
  rfl
@[simp] theorem isi_str (x : Str) : dIsiN "str" (.str x) = some (.bl true) := by
  simp only [dIsiN, dIsi, tyN, Option.bind]
  rfl
@[simp] theorem isi_tup (xs : List D) : dIsiN "tuple" (.tup xs) = some (.bl true) := by
  simp only [dIsiN, dIsi, tyN, Option.bind]
  rfl
@[simp] theorem isi_int (i : Int) : dIsiN "int" (.int i) = some (.bl true) := by
  simp only [dIsiN, dIsi, tyN, Option.bind]
  rfl
@[simp] theorem isi_ib (i : Int) : dIsiN "bool" (.int i) = some (.bl false) := by
  simp only [dIsiN, dIsi, tyN, Option.bind]
  rfl
theorem check_size_eq {xs : List D} {a c : Nat} (h1 : a ≤ xs.length) (h2 : xs.length ≤ c) : fn_check_size [.lst xs, eN a, eN c] = .ok .non := by
  refine run_non rfl ?_
  unfold bd_check_size
  have e1 : decide ((a : Int) ≤ (xs.length : Int)) = true := by simp; omega
  have e2 : decide ((xs.length : Int) ≤ (c : Int)) = true := by simp; omega
  refine wp_if (k := false) (e1 := ⟨[some (.lst xs), some (eN a), some (eN c)], []⟩) ?_ (fun h => by cases h) fun _ => wp_next rfl
  simp! only [isi_lst, eChain, dLen, e1, e2]
theorem is_name_eq {x : Str} (h : okName x = true) : fn_is_name [.str x] = .ok (.bl true) := by
  unfold okName at h
  simp only [Bool.and_eq_true, decide_eq_true_eq, List.all_eq_true] at h
  obtain ⟨h1, h2, h3⟩ := h
  refine run_eq rfl ?_
  unfold bd_is_name
  have e1 : decide ((1 : Int) ≤ (x.length : Int)) = true := by simp; omega
  have e2 : decide ((x.length : Int) ≤ (8 : Int)) = true := by simp; omega
  have e3 : x.length ≤ LIM := by unfold LIM; omega
  refine wp_seq (wp_if (k := false) (e1 := ⟨[some (.str x), none], []⟩) ?_ (fun h => by cases h) fun _ => wp_next ?_)
  · simp! only [isi_str, eChain, dLen, e1, e2, e3]
  refine wp_ret (d := .bl true) (e1 := ⟨[some (.str x), none], []⟩) ?_ ⟨rfl, rfl⟩
  have hfil : (charsD x).filter (fun d => match d with | .str y => !inS y "abcdefghijklmnopqrstuvwxyz" | _ => false) = [] := by
    rw [List.filter_eq_nil_iff]
    intro d hd
    have := h3 d hd
    split
    · simp only [Bool.and_eq_true] at this
      simp [this.2]
    · simp
  refine bin_ok (x := .lst []) (y := .olst []) (e1 := ⟨[some (.str x), none], []⟩) (frzE_ok (d := .olst (((charsD x).filter (fun d => match d with | .str y => !inS y "abcdefghijklmnopqrstuvwxyz" | _ => false)).map id)) ?_ (by rw [hfil]; rfl)) (by simp! only []) (by rw [dEqA_nil (by decide)]; rfl)
  refine eLc_ok (enc := id) (l := charsD x) ?_ ?_ rfl rfl ?_
  · have : (charsD x).all (fun d => match d with | .str y => PyData.strOk y | _ => false) = true := by
      rw [List.all_eq_true]
      intro d hd
      have := h3 d hd
      split
      · simp only [Bool.and_eq_true] at this
        exact this.1
      · exact absurd this (by split <;> simp_all)
    simp only [itStr, eVar, List.map_cons, List.map_nil, List.replicate, List.cons_append, List.nil_append, List.getElem?_cons_zero, isF_str, if_true, Rs.bind, List.map_id]
    exact if_pos this
  · have : (charsD x).length = x.length := by simp [charsD, Str.length]
    omega
  · intro d hd
    unfold charsD at hd
    obtain ⟨c, _, rfl⟩ := List.mem_map.mp hd
    refine ⟨_, rfl, ?_, (fun _ => by simp! only [id]), rfl⟩
    simp! only [id, dNotInA, orD, dNotIn, dInF, dInL, dInS]
theorem in_olst (o : Option Str) (l : List Str) : dInA (eO o) (.olst (eStr l)) = some (.bl (hasS l o)) := by
  simp only [dInA, orD, dIn, dInF, fitems?, flat_eO, flat_eStr, isF_eStr, inD_eO, true_and, if_true]
  rfl
theorem enum_str {l : List Str} : enumD 0 (eStr l) = (List.range l.length).map fun i => .tup [eN i, .str (l[i]?.getD ⟨#[]⟩)] := by
  have : ∀ (c : List Str) (n : Nat), enumD n (eStr c) = (List.range c.length).map fun i => .tup [eN (n + i), .str (c[i]?.getD ⟨#[]⟩)] := by
    intro c
    induction c with
    | nil => intro n; rfl
    | cons x c ih =>
      intro n
      unfold eStr at ih ⊢
      simp only [List.map_cons, enumD, ih, List.length_cons, List.range_succ_eq_map, List.map_map]
      congr 1
      apply List.map_congr_left
      intro i _
      simp
      omega
  have := this l 0
  simpa using this
theorem check_names_eq {l o : List Str} (hn : l.Nodup) (hd : ∀ x ∈ l, x ∉ o) (hk : ∀ x ∈ l, okName x = true) : fn_check_names [.lst (eStr l), .lst (eStr o)] = .ok .non := by
  refine run_non rfl ?_
  unfold bd_check_names
  refine wp_for (enc := fun i => .tup [eN i, .str (l[i]?.getD ⟨#[]⟩)]) (l := List.range l.length) (e1 := ⟨[some (.lst (eStr l)), some (.lst (eStr o)), none, none], []⟩)
    (fun p e => ∃ x y, e = ⟨[some (.lst (eStr l)), some (.lst (eStr o)), x, y], []⟩) ?_ ⟨none, none, rfl⟩ ?_ (fun e ⟨x, y, h⟩ => by rw [h])
  · simp! only [enum_str]
  · rintro p i r e he ⟨x, y, rfl⟩
    obtain ⟨_, hi⟩ := range_split he
    have hx : l[i]? = some l[i] := List.getElem?_eq_getElem hi
    have hm : l[i] ∈ l := List.getElem_mem hi
    refine ⟨⟨[some (.lst (eStr l)), some (.lst (eStr o)), some (eN i), some (.str l[i])], []⟩, by simp! only [hx], ?_⟩
    refine wp_if (k := false) (e1 := ⟨[some (.lst (eStr l)), some (.lst (eStr o)), some (eN i), some (.str l[i])], []⟩) ?_ (fun h => by cases h) fun _ => wp_next ⟨_, _, rfl⟩
    have h1 := fcall (p := fn_is_name) (ar := aCons (eVar 3) aNil) (ds := [.str l[i]]) (e := ⟨[some (.lst (eStr l)), some (.lst (eStr o)), some (eN i), some (.str l[i])], []⟩) (by simp! only []) rfl (is_name_eq (hk _ hm)) rfl
    have h2 : hasS (l.take i) (some l[i]) = false := by
      simp only [hasS]
      rw [Bool.eq_false_iff]
      intro z
      have z := List.contains_iff_mem.mp z
      obtain ⟨j, hj, e⟩ := List.getElem_of_mem z
      rw [List.length_take] at hj
      rw [List.getElem_take] at e
      have : j = i := (List.getElem?_inj (by omega) hn).mp (by rw [List.getElem?_eq_getElem (by omega), hx, e])
      omega
    have h3 : hasS o (some l[i]) = false := by
      simp only [hasS]
      rw [Bool.eq_false_iff]
      intro z
      exact hd _ hm (List.contains_iff_mem.mp z)
    have h4 : dSlA (.lst (eStr l)) none (some (i : Int)) = some (.olst (eStr (l.take i))) := by
      simp only [dSlA, dSlT, dSlL, litems?, Option.map, cut_lo]
      simp [eStr, List.map_take]
    have h5 := in_olst (some l[i]) (l.take i)
    have h6 := in_lst (some l[i]) o
    rw [h2] at h5
    rw [h3] at h6
    simp only [eO] at h5 h6
    simp only [tOrD, tNotD, eTest, h1, Rs.bind, Bool.not_true, bin, eVar, eSl, pN, pS, List.getElem?_cons_succ, List.getElem?_cons_zero, isF_str, isF_lst, isF_int, if_true, h4, lift, h5, h6]
    rfl
theorem one_of_lst {o : Str} {l : List Str} : fn_is_one_of [.str o, .lst (eStr l)] = .ok (.bl (l.contains o)) := by
  refine run_eq rfl ?_
  unfold bd_is_one_of
  refine wp_ret (d := .bl (l.contains o)) (e1 := ⟨[some (.str o), some (.lst (eStr l))], []⟩) ?_ ⟨rfl, rfl⟩
  have := in_lst (some o) l
  simp only [eO, hasS] at this
  simp! only [isi_str, this]
theorem nm_mem {P : Pt} (h : (P.H ++ P.S).Nodup) {bh : Bool} {i : Nat} (hi : i < P.n bh) : P.H.contains (P.nm bh i) = bh ∧ P.S.contains (P.nm bh i) = !bh := by
  have hn := List.nodup_append.mp h
  unfold Pt.nm Pt.n at *
  cases bh
  · simp at hi ⊢
    rw [List.getElem?_eq_getElem hi]
    exact ⟨fun z => hn.2.2 _ z _ (List.getElem_mem hi) rfl, List.getElem_mem hi⟩
  · simp at hi ⊢
    rw [List.getElem?_eq_getElem hi]
    exact ⟨List.getElem_mem hi, fun z => hn.2.2 _ (List.getElem_mem hi) _ z rfl⟩
theorem is_entry_eq {P : Pt} (ok : P.Ok) {e : Ent} (he : e.Ok P) : fn_is_entry [eE P e, .lst (eStr P.H), .lst (eStr P.S)] = .ok (.bl true) := by
  refine run_eq rfl ?_
  unfold bd_is_entry
  have l3 : dLen (eE P e) = some (.int 3) := rfl
  refine wp_seq (wp_if (k := false) (e1 := ⟨[some (eE P e), some (.lst (eStr P.H)), some (.lst (eStr P.S)), none], []⟩) ?_ (fun h => by cases h) fun _ => wp_next ?_)
  · have : dIsiN "tuple" (eE P e) = some (.bl true) := isi_tup _
    simp! only [this, isF_eE, l3]
    rfl
  refine wp_seq (wp_for (enc := fun l => .lst (eStr l)) (l := [P.H, P.S]) (e1 := ⟨[some (eE P e), some (.lst (eStr P.H)), some (.lst (eStr P.S)), none], []⟩)
    (fun p e' => (p = [] ∨ e.bh = false) ∧ p.length < 2 ∧ ∃ x, e' = ⟨[some (eE P e), some (.lst (eStr P.H)), some (.lst (eStr P.S)), x], []⟩) ?_ ⟨.inl rfl, by simp, none, rfl⟩ ?_ ?_)
  · simp! only []
  · rintro p l r e' hs ⟨hp, _, x, rfl⟩
    refine ⟨⟨[some (eE P e), some (.lst (eStr P.H)), some (.lst (eStr P.S)), some (.lst (eStr l))], []⟩, rfl, ?_⟩
    have h1 := nm_mem ok.nd he.pl
    have h2 := nm_mem ok.nd he.ot
    have c1 := fcall (p := fn_is_one_of) (ar := aCons (bin dIxA (eVar 0) (eC (.int 0))) (aCons (eVar 3) aNil)) (ds := [.str (P.nm e.bh e.pl), .lst (eStr l)]) (e := ⟨[some (eE P e), some (.lst (eStr P.H)), some (.lst (eStr P.S)), some (.lst (eStr l))], []⟩) (by simp! only [isF_eE]; simp! only [eE]) rfl one_of_lst rfl
    have c2 := fcall (p := fn_is_one_of) (ar := aCons (bin dIxA (eVar 0) (eC (.int 2))) (aCons (eVar 3) aNil)) (ds := [.str (P.nm e.bh e.ot), .lst (eStr l)]) (e := ⟨[some (eE P e), some (.lst (eStr P.H)), some (.lst (eStr P.S)), some (.lst (eStr l))], []⟩) (by simp! only [isF_eE]; simp! only [eE]) rfl one_of_lst rfl
    refine wp_if (k := l.contains (P.nm e.bh e.pl) && l.contains (P.nm e.bh e.ot)) (e1 := ⟨[some (eE P e), some (.lst (eStr P.H)), some (.lst (eStr P.S)), some (.lst (eStr l))], []⟩) ?_ (fun k => ?_) fun k => ?_
    · simp only [tAndD, eTest, c1, c2, Rs.bind]
      cases l.contains (P.nm e.bh e.pl) <;> simp
    · exact wp_ret (d := .bl true) (e1 := ⟨[some (eE P e), some (.lst (eStr P.H)), some (.lst (eStr P.S)), some (.lst (eStr l))], []⟩) rfl ⟨rfl, rfl⟩
    · match p, hs with
      | [], hs =>
        simp at hs
        obtain ⟨rfl, rfl⟩ := hs
        rw [h1.1, h2.1] at k
        refine wp_next ⟨.inr (by simpa using k), by simp, _, rfl⟩
      | [p0], hs =>
        simp at hs
        obtain ⟨rfl, rfl, rfl⟩ := hs
        rcases hp with hp | hp
        · cases hp
        · rw [h1.2, h2.2, hp] at k
          simp at k
      | p0 :: p1 :: p2, hs => simp at hs
  · rintro e' ⟨_, h, _⟩
    simp at h
theorem run_i {c m n : Nat} {bd : SM} {ds fs : List D} (hl : ds.length = m) (h : Wp bd ⟨some (.oins c true []) :: (ds.map some ++ List.replicate n none), []⟩ (fun e => e.mu = [] ∧ e.sl[0]? = some (some (.oins c true fs))) fun _ _ => False) : runI c m n bd ds = some fs := by
  unfold Wp at h
  unfold runI
  rw [if_pos hl]
  split at h
  · rename_i q; simp only [q, endI, h.1, h.2, if_true]
  · exact h.elim
  · exact h.elim
theorem wp_self {i c j : Nat} {t : Bool} {fv : EM} {e e1 : En} {ds : List D} {d : D} {Q : En → Prop} {R : D → En → Prop} (hv : fv e = .ok d e1) (h : e1.sl[i]? = some (some (.oins c t ds))) (hj : ds.length = j) (q : Q ⟨e1.sl.set i (some (.oins c t (ds ++ [d]))), e1.mu⟩) : Wp (sSelf i c j fv) e Q R := by
  unfold Wp sSelf
  simp only [hv, ofE, h, hj, and_self, if_true, En.put]
  exact q
theorem wp_setN {i : Nat} {fi fv : EM} {e : En} {sl : List (Option D)} {kvs : List (D × D)} {y d : D} {k : NestedKey} {Q : En → Prop} {R : D → En → Prop} (he : e = ⟨sl, []⟩) (h : sl[i]? = some (some (.odix kvs))) (hv : fv e = .ok d e) (hi : fi e = .ok y e) (hk : nkey y = some k) (hl : kvs.length < LIM) (q : Q ⟨sl.set i (some (.odix (putD kvs y d))), []⟩) : Wp (sSetA i fi fv) e Q R := by
  subst he
  unfold Wp sSetA
  simp only [hv, ofE, hasO, hold?, h, hi, chg, Option.bind, kSetA, hk, Option.isSome, hl, and_self, if_true, Option.map, En.put, nxO]
  exact q
def eBk (P : Pt) : D := .ins 0 [.tux (eStr P.H), .tux (eStr P.S), .tux (P.ds.map (eE P)), .tux (P.es.map (eE P)), .tux (eStr P.ls), .dix (eKn P P.es)]
@[simp] theorem isF_eBk (P) : isF (eBk P) = true := rfl
theorem lkD_any : ∀ (kvs : List (D × D)) (y : D), (kvs.any fun p => kq p.1 y) = (lkD kvs y).isSome
  | [], _ => rfl
  | (k, d) :: r, y => by
    simp only [List.any_cons, lkD, lkD_any r y]
    cases kq k y <;> simp
theorem key_new {P : Pt} (ok : P.Ok) {p r : List Ent} {e : Ent} (h : P.es = p ++ e :: r) : lkD (eKn P p) (.tup [.str (P.nm e.bh e.pl), eO e.sn]) = none := by
  have he : e ∈ P.es := by rw [h]; simp
  rw [lk_known ok (ok.es e he).1.pl e.sn fun x hx => by rw [h]; exact List.mem_append_left _ hx]
  rw [Option.map_eq_none_iff, List.find?_eq_none]
  intro x hx
  have hn := ok.en
  rw [h, List.map_append, List.map_cons] at hn
  have := (List.nodup_append.mp hn).2.2 _ (List.mem_map.mpr ⟨x, hx, rfl⟩) _ (List.mem_cons_self ..)
  simp only [Bool.and_eq_true, beq_iff_eq, not_and]
  intro h1 h2 h3
  exact absurd (by rw [h1, h2, h3]) this
theorem eE_all (P : Pt) (l : List Ent) : (l.map (eE P)).all isF = true := by simp
theorem slice2 {P : Pt} (e : Ent) : dSlA (eE P e) none (some 2) = some (.tup [.str (P.nm e.bh e.pl), eO e.sn]) := rfl
theorem book_in {P : Pt} (ok : P.Ok) : in_Book [.lst (eStr P.H), .lst (eStr P.S), .lst (P.ds.map (eE P)), .lst (P.es.map (eE P)), .lst (eStr P.ls)] = some [.tux (eStr P.H), .tux (eStr P.S), .tux (P.ds.map (eE P)), .tux (P.es.map (eE P)), .tux (eStr P.ls), .odix (eKn P P.es)] := by
  refine run_i rfl ?_
  unfold bd_Book_init
  have hn := List.nodup_append.mp ok.nd
  let S : List D → Option D → Option D → En := fun f x6 x7 => ⟨[some (.oins 0 true f), some (.lst (eStr P.H)), some (.lst (eStr P.S)), some (.lst (P.ds.map (eE P))), some (.lst (P.es.map (eE P))), some (.lst (eStr P.ls)), x6, x7], []⟩
  have lenS : ∀ l : List Str, (eStr l).length = l.length := fun l => by simp [eStr]
  have s1 := check_size_eq (xs := eStr P.H) (a := 1) (c := 3) (by rw [lenS]; exact ok.h1) (by rw [lenS]; exact ok.h3)
  have s2 := check_size_eq (xs := eStr P.S) (a := 1) (c := 4) (by rw [lenS]; exact ok.s1) (by rw [lenS]; exact ok.s4)
  have s3 := check_size_eq (xs := P.ds.map (eE P)) (a := 0) (c := 10) (by omega) (by rw [List.length_map]; exact ok.d10)
  have s4 := check_size_eq (xs := P.es.map (eE P)) (a := 0) (c := 12) (by omega) (by rw [List.length_map]; exact ok.e12)
  have s5 := check_size_eq (xs := eStr P.ls) (a := 0) (c := 4) (by omega) (by rw [lenS]; exact ok.l4)
  have n1 := check_names_eq (l := P.H) (o := []) hn.1 (by simp) fun x hx => ok.nm x (by simp [hx])
  have n2 := check_names_eq (l := P.S) (o := P.H) hn.2.1 (fun x hx hx' => hn.2.2 _ hx' _ hx rfl) fun x hx => ok.nm x (by simp [hx])
  have n5 := check_names_eq (l := P.ls) (o := []) ok.ln (by simp) fun x hx => ok.nm x (by simp [hx])
  refine wp_seq (wp_expr (e1 := S [] none none) (fcall (ds := [.lst (eStr P.H), eN 1, eN 3]) (by simp! only []; rfl) rfl s1 rfl) ?_)
  refine wp_seq (wp_expr (e1 := S [] none none) (fcall (ds := [.lst (eStr P.H), .lst (eStr [])]) (by simp! only [S]; rfl) rfl n1 rfl) ?_)
  refine wp_seq (wp_expr (e1 := S [] none none) (fcall (ds := [.lst (eStr P.S), eN 1, eN 4]) (by simp! only [S]; rfl) rfl s2 rfl) ?_)
  refine wp_seq (wp_expr (e1 := S [] none none) (fcall (ds := [.lst (eStr P.S), .lst (eStr P.H)]) (by simp! only [S]) rfl n2 rfl) ?_)
  refine wp_seq (wp_expr (e1 := S [] none none) (fcall (ds := [.lst (P.ds.map (eE P)), eN 0, eN 10]) (by simp! only [S]; rfl) rfl s3 rfl) ?_)
  refine wp_seq (wp_for (enc := eE P) (l := P.ds) (e1 := S [] none none) (fun p e => ∃ x, e = S [] x none) (by simp! only [S]) ⟨none, rfl⟩ ?_ ?_)
  · rintro p a r e he ⟨x, rfl⟩
    have ha := ok.ds a (by rw [he]; simp)
    refine ⟨S [] (some (eE P a)) none, rfl, ?_⟩
    have c1 := fcall (p := fn_is_entry) (ar := aCons (eVar 6) (aCons (eVar 1) (aCons (eVar 2) aNil))) (ds := [eE P a, .lst (eStr P.H), .lst (eStr P.S)]) (e := S [] (some (eE P a)) none) (by simp! only [S, isF_eE]) rfl (is_entry_eq ok ha.1) rfl
    refine wp_if (k := false) (e1 := S [] (some (eE P a)) none) ?_ (fun h => by cases h) fun _ => wp_next ⟨_, rfl⟩
    have g1 : bin dIxA (eVar 6) (eC (.int 1)) (S [] (some (eE P a)) none) = .ok (eO a.sn) (S [] (some (eE P a)) none) := by
      simp! only [S, isF_eE]
      simp! only [eE, isF_eO]
    cases hs : a.sn with
    | none =>
      rw [hs] at g1
      have g2 := bin_ok (g := dNotN) g1 (f2 := eC .non) (y := .non) (e2 := S [] (some (eE P a)) none) rfl (d := .bl false) rfl
      simp only [tOrD, tNotD, tAndD, eTest, c1, g2, Rs.bind]
      rfl
    | some z =>
      rw [hs] at g1
      have g2 := bin_ok (g := dNotN) g1 (f2 := eC .non) (y := .non) (e2 := S [] (some (eE P a)) none) rfl (d := .bl true) rfl
      have c2 := fcall (p := fn_is_name) (ar := aCons (bin dIxA (eVar 6) (eC (.int 1))) aNil) (ds := [.str z]) (e := S [] (some (eE P a)) none) (aCons_ok g1 rfl) rfl (is_name_eq (ha.2 z hs)) rfl
      simp only [tOrD, tNotD, tAndD, eTest, c1, g2, c2, Rs.bind]
      rfl
  rintro e ⟨x, rfl⟩
  refine wp_seq (wp_expr (e1 := S [] x none) (fcall (ds := [.lst (P.es.map (eE P)), eN 0, eN 12]) (by simp! only [S]; rfl) rfl s4 rfl) ?_)
  refine wp_seq (wp_set (d := .odix []) (e1 := S [] x none) (by simp! only []) ?_)
  refine wp_seq (wp_for (enc := eE P) (l := P.es) (e1 := S [] x (some (.odix []))) (fun p e => ∃ x, e = S [] x (some (.odix (eKn P p)))) (by simp! only [S]) ⟨x, rfl⟩ ?_ ?_)
  · rintro p a r e he ⟨x, rfl⟩
    obtain ⟨ha, z, hz, hz2⟩ := ok.es a (by rw [he]; simp)
    refine ⟨S [] (some (eE P a)) (some (.odix (eKn P p))), rfl, ?_⟩
    have hnew := key_new ok he
    rw [hz] at hnew
    have g1 : bin dIxA (eVar 6) (eC (.int 1)) (S [] (some (eE P a)) (some (.odix (eKn P p)))) = .ok (.str z) (S [] (some (eE P a)) (some (.odix (eKn P p)))) := by
      simp! only [S, isF_eE]
      simp! only [eE, isF_eO]
      rw [hz]
      rfl
    have g3 : frzE (eSl dSlA (eVar 6) pN (pS (eC (.int 2)))) (S [] (some (eE P a)) (some (.odix (eKn P p)))) = .ok (.tup [.str (P.nm a.bh a.pl), .str z]) (S [] (some (eE P a)) (some (.odix (eKn P p)))) := by
      have := slice2 (P := P) a
      rw [hz] at this
      simp! only [S, isF_eE, this, eO]
    have c1 := fcall (p := fn_is_entry) (ar := aCons (eVar 6) (aCons (eVar 1) (aCons (eVar 2) aNil))) (ds := [eE P a, .lst (eStr P.H), .lst (eStr P.S)]) (e := S [] (some (eE P a)) (some (.odix (eKn P p)))) (by simp! only [S, isF_eE]) rfl (is_entry_eq ok ha) rfl
    have c2 := fcall (p := fn_is_name) (ar := aCons (bin dIxA (eVar 6) (eC (.int 1))) aNil) (ds := [.str z]) (e := S [] (some (eE P a)) (some (.odix (eKn P p)))) (aCons_ok g1 rfl) rfl (is_name_eq hz2) rfl
    have g4 := bin_ok (g := dInA) g3 (f2 := eBor 7) (y := .odix (eKn P p)) (e2 := S [] (some (eE P a)) (some (.odix (eKn P p)))) rfl (d := .bl false) (by
      obtain ⟨k, hk⟩ := nkey_pair (P.nm a.bh a.pl) (some z)
      simp only [eO] at hk hnew
      simp only [dInA, orD, dIn, dInF, dInL, dInS, fitems?, dInK, dkvs?, dInN, nkvs?, hk, hnew]
      rfl)
    refine wp_seq (wp_if (k := false) (e1 := S [] (some (eE P a)) (some (.odix (eKn P p)))) ?_ (fun h => by cases h) fun _ => wp_next ?_)
    · simp only [tOrD, tNotD, eTest, c1, c2, g4, Rs.bind]
      rfl
    obtain ⟨k, hk⟩ := nkey_pair (P.nm a.bh a.pl) (some z)
    have hlen : (eKn P p).length < LIM := by
      have h1 := ok.e12
      have h2 : p.length ≤ P.es.length := by rw [he]; simp
      simp only [eKn, List.length_map]
      unfold LIM; omega
    refine wp_setN (y := .tup [.str (P.nm a.bh a.pl), .str z]) (d := .str (P.nm a.bh a.ot)) rfl rfl ?_ g3 hk hlen ⟨some (eE P a), ?_⟩
    · simp! only [S, isF_eE]
      simp! only [eE]
    · have : putD (eKn P p) (.tup [.str (P.nm a.bh a.pl), .str z]) (.str (P.nm a.bh a.ot)) = eKn P (p ++ [a]) := by
        simp only [eO] at hnew
        unfold putD
        rw [lkD_any, hnew]
        simp [eKn, hz, eO]
      rw [this]
      rfl
  rintro e ⟨x, rfl⟩
  have tS : ∀ l : List Str, dTupleX (.lst (eStr l)) = some (.tux (eStr l)) := fun _ => rfl
  have tE : ∀ l : List Ent, dTupleX (.lst (l.map (eE P))) = some (.tux (l.map (eE P))) := fun _ => rfl
  refine wp_seq (wp_expr (e1 := S [] x (some (.odix (eKn P P.es)))) (fcall (ds := [.lst (eStr P.ls), eN 0, eN 4]) (by simp! only [S]; rfl) rfl s5 rfl) ?_)
  refine wp_seq (wp_expr (e1 := S [] x (some (.odix (eKn P P.es)))) (fcall (ds := [.lst (eStr P.ls), .lst (eStr [])]) (by simp! only [S]; rfl) rfl n5 rfl) ?_)
  refine wp_seq (wp_self (d := .tux (eStr P.H)) (e1 := S [] x (some (.odix (eKn P P.es)))) (by simp! only [S, tS]) rfl rfl ?_)
  refine wp_seq (wp_self (d := .tux (eStr P.S)) (e1 := S [.tux (eStr P.H)] x (some (.odix (eKn P P.es)))) (by simp! only [S, tS]) rfl rfl ?_)
  refine wp_seq (wp_self (d := .tux (P.ds.map (eE P))) (e1 := S [.tux (eStr P.H), .tux (eStr P.S)] x (some (.odix (eKn P P.es)))) (by simp! only [S, tE]) rfl rfl ?_)
  refine wp_seq (wp_self (d := .tux (P.es.map (eE P))) (e1 := S [.tux (eStr P.H), .tux (eStr P.S), .tux (P.ds.map (eE P))] x (some (.odix (eKn P P.es)))) (by simp! only [S, tE]) rfl rfl ?_)
  refine wp_seq (wp_self (d := .tux (eStr P.ls)) (e1 := S [.tux (eStr P.H), .tux (eStr P.S), .tux (P.ds.map (eE P)), .tux (P.es.map (eE P))] x (some (.odix (eKn P P.es)))) (by simp! only [S, tS]) rfl rfl ?_)
  exact wp_self (d := .odix (eKn P P.es)) (e1 := ⟨[some (.oins 0 true [.tux (eStr P.H), .tux (eStr P.S), .tux (P.ds.map (eE P)), .tux (P.es.map (eE P)), .tux (eStr P.ls)]), some (.lst (eStr P.H)), some (.lst (eStr P.S)), some (.lst (P.ds.map (eE P))), some (.lst (P.es.map (eE P))), some (.lst (eStr P.ls)), x, none], []⟩) (by simp! only [S]) rfl rfl ⟨rfl, rfl⟩
theorem frzTK_kn (P : Pt) : ∀ l : List Ent, frzTK (eKn P l) = some (eKn P l)
  | [] => rfl
  | a :: l => by
    have := frzTK_kn P l
    simp only [eKn, List.map_cons, frzTK, frzT, Option.bind] at this ⊢
    rw [this]; rfl
theorem book_eq {P : Pt} (ok : P.Ok) : mkP 0 6 in_Book [.lst (eStr P.H), .lst (eStr P.S), .lst (P.ds.map (eE P)), .lst (P.es.map (eE P)), .lst (eStr P.ls)] = .ok (eBk P) := by
  simp only [mkP, book_in ok, Option.bind, frzTL, frzT, Option.map, frzTK_kn]
  rfl
def dd (P : Pt) (e : Ent) : Hm.Dd := ⟨e.bh, e.pl, e.ot, hasS P.ls e.sn, fun i => if e.bh then none else P.hear true i e.sn, fun i => P.hear false i e.sn⟩
theorem nm_get {P : Pt} {bh : Bool} {i : Nat} (hi : i < P.n bh) : (if bh then P.H else P.S)[i]? = some (P.nm bh i) := by
  unfold Pt.nm Pt.n at *
  cases bh
  · simp at hi ⊢
    rw [List.getElem?_eq_getElem hi]
    rfl
  · simp at hi ⊢
    rw [List.getElem?_eq_getElem hi]
    rfl
def eKp (f : Nat → Option Nat) (l : List Nat) : List (D × D) := eK (l.filterMap fun i => (f i).map fun p => (i, p))
theorem binG_ok {ok : D → Bool} {g : D → D → Option D} {fa fb : EM} {e e1 e2 : En} {x y d : D} (h1 : fa e = .ok x e1) (hx : ok x = true) (h2 : fb e1 = .ok y e2) (k : g x y = some d) : binG ok g fa fb e = .ok d e2 := by
  simp only [binG, h1, Rs.bind, hx, if_true, h2, k, lift]
def Pt.L (P : Pt) : List (Hm.Dd × D) := P.ds.map fun e => (dd P e, eO e.sn)
abbrev Pt.G (P : Pt) : Hm.Gd := gd P.H.length P.S.length P.L
def eGP (P : Pt) : D := eG (eBk P) P.H.length P.S.length P.L
abbrev Gl := Option Nat × List Nat
def eGl (P : Pt) (g : Gl) : D := .tup [eO (g.1.map (P.nm true)), .lst (g.2.map eN)]
@[simp] theorem isF_eGl (P g) : isF (eGl P g) = true := rfl
def gs (P : Pt) (g : Gl) : List Hm.St := match g.1 with
  | none => (List.range P.H.length).map fun h => (h, g.2)
  | some h => [(h, g.2)]
structure GlOk (P : Pt) (g : Gl) : Prop where
  h : ∀ h, g.1 = some h → h < P.H.length
  c : g.2.length = P.S.length
def isBeg (x : Hm.St) : Bool := (x.1 == 0) && ((x.2.drop 1).filter fun n => decide (0 < n)).isEmpty
def oN : Option Nat → D
  | none => .non
  | some n => eN n
def begs (F : List Hm.St) : List Nat := (F.filter isBeg).map fun x => Hm.gt x.2 0
def bg (w m : Nat) : Hm.St := (0, m :: Hm.zero (w - 1))
structure Num (G : Hm.Gd) (goals : List Hm.St) (o : Option Nat) : Prop where
  none : o = none → ∀ m, ¬ Hm.Pg G goals (bg G.w m)
  some : ∀ k, o = some k → Hm.Pg G goals (bg G.w k) ∧ ∀ m, Hm.Pg G goals (bg G.w m) → k ≤ m
def SmallN (n : Nat) (P : Pt) (g : Gl) : Prop := ∃ B, Hm.Bas P.G (gs P g) B ∧ B.length ≤ n ∧ ∀ x ∈ B, Hm.Sm x ≤ 4
abbrev Small (P : Pt) (g : Gl) : Prop := SmallN 90 P g
theorem SmallN.mono {n m : Nat} {P : Pt} {g : Gl} (h : SmallN n P g) (k : n ≤ m) : SmallN m P g := let ⟨B, h1, h2, h3⟩ := h; ⟨B, h1, Nat.le_trans h2 k, h3⟩
theorem check_book_eq (P : Pt) : fn_check_book [eBk P] = .ok .non := by
  refine run_non rfl ?_
  unfold bd_check_book
  have : dIsC 0 (eBk P) = some (.bl true) := rfl
  refine wp_if (k := false) (e1 := ⟨[some (eBk P)], []⟩) ?_ (fun h => by cases h) fun _ => wp_next rfl
  simp! only [isF_eBk, this]
def eLs (P : Pt) (x : Hm.St) : D := .tup [.str (P.nm true x.1), eT x.2]
@[simp] theorem isF_eLs (P x) : isF (eLs P x) = true := rfl
theorem frzD_gen {α : Type} (f : α → D) (h : ∀ a, isF (f a) = true) (l : List α) : frzD (.olst (l.map f)) = some (.lst (l.map f)) := by
  have : (l.map f).all isF = true := by
    rw [List.all_map, List.all_eq_true]
    exact fun a _ => h a
  simp only [frzD, isF_olst, this, if_true]
  rfl
theorem li_gen {α : Type} (f : α → D) (h : ∀ a, isF (f a) = true) (l : List α) : litems? (.olst (l.map f)) = some (l.map f) := by
  have : (l.map f).all isF = true := by
    rw [List.all_map, List.all_eq_true]
    exact fun a _ => h a
  simp only [litems?, this, if_true]
theorem bin_s {g : D → D → Option D} {f1 f2 : EM} {e : En} {x y d : D} (h1 : f1 e = .ok x e) (h2 : f2 e = .ok y e) (k : g x y = some d) : bin g f1 f2 e = .ok d e := bin_ok h1 h2 k
def cstep (m : Nat) (found : List (List Nat)) (k : Nat) : List (List Nat) := (found.filter fun c => decide (c.sum + k ≤ m)).map (· ++ [k])
def cnts (m : Nat) : Nat → List (List Nat)
  | 0 => [[]]
  | n + 1 => (List.range (m + 1)).flatMap (cstep m (cnts m n))
def chstep (found : List (List Nat)) (k : Nat) : List (List Nat) := found.map (· ++ [k])
def chs (l : List Nat) : Nat → List (List Nat)
  | 0 => [[]]
  | n + 1 => (List.range (Hm.gt l n + 1)).flatMap (chstep (chs l n))
def oth (e : Ent) (c : List Nat) : List Nat := if e.bh then c else Hm.dec c e.pl
def m0 (P : Pt) (e : Ent) (h : Nat) : Nat := if !e.bh && (P.hear true h e.sn).isSome then 1 else 0
def mrow (P : Pt) (e : Ent) (o : List Nat) : List Nat := (List.range P.S.length).map fun i => if (P.hear false i e.sn).isSome then Hm.gt o i else 0
def heards (P : Pt) (e : Ent) (h : Nat) (o : List Nat) : List (List Nat) := if hasS P.ls e.sn then chs (m0 P e h :: mrow P e o) (P.S.length + 1) else [m0 P e h :: mrow P e o]
def nxt (P : Pt) (e : Ent) (x : Hm.St) (hb : Nat) (k : List Nat) : Hm.St :=
  (if e.bh then e.ot else if hb = 1 then (P.hear true x.1 e.sn).getD 0 else x.1,
   if e.bh then Hm.applyK (dd P e).hs k (oth e x.2) P.S.length else Hm.inc (Hm.applyK (dd P e).hs k (oth e x.2) P.S.length) e.ot)
def ena (e : Ent) (x : Hm.St) : Bool := if e.bh then e.pl == x.1 else decide (0 < Hm.gt x.2 e.pl)
def kd (P : Pt) : D := match P.es with
  | [] => .dic []
  | _ :: _ => .dix (eKn P P.es)
@[simp] theorem isF_kd (P) : isF (kd P) = true := by unfold kd; split <;> rfl
def eKt (P : Pt) (e : Ent) : D := .tup [.tup [.str (P.nm e.bh e.pl), eO e.sn], .str (P.nm e.bh e.ot)]
@[simp] theorem isF_eP (P) : isF (eP P) = true := rfl
def ePr (P : Pt) (e : Ent) : D := .tup [.str (P.nm e.bh e.pl), eO e.sn]
theorem pln_eO (n) (o) : pln n (eO o) = true := by cases o <;> simp [eO]
theorem pln_pr {P : Pt} (n : Nat) (e : Ent) : pln (n + 1) (ePr P e) = true := pln_tup fun d h => by
  simp at h
  rcases h with rfl | rfl
  · simp
  · exact pln_eO _ _
theorem deq_pair (a b : Str) (o1 o2 : Option Str) : deq (.tup [.str a, eO o1]) (.tup [.str b, eO o2]) = (a == b && o1 == o2) := by
  cases o1 <;> cases o2 <;> simp [deq, pd, pdL, eO, PyData.eqv, PyData.eqvAll]
def eEv (P : Pt) (p : D × Hm.St) : D := .tup [p.1, eLs P p.2]
theorem mk_tup2 {f g : EM} {e : En} {a b : D} (h1 : f e = .ok a e) (h2 : g e = .ok b e) : eTup (aCons f (aCons g aNil)) e = .ok (.tup [a, b]) e := by
  simp only [eTup, aCons, aNil, h1, h2, Rs.bind, mkTup, List.length_cons, List.length_nil, Nat.zero_add, Nat.reduceAdd, lim2, if_true, lift]
theorem mk_tup3 {f g h : EM} {e : En} {a b c : D} (h1 : f e = .ok a e) (h2 : g e = .ok b e) (h3 : h e = .ok c e) : eTup (aCons f (aCons g (aCons h aNil))) e = .ok (.tup [a, b, c]) e := by
  simp only [eTup, aCons, aNil, h1, h2, h3, Rs.bind, mkTup, List.length_cons, List.length_nil, Nat.zero_add, Nat.reduceAdd, lim3, if_true, lift]
def eGt (P : Pt) (g : Gl) : D := .tup [eO (g.1.map (P.nm true)), eT g.2]
@[simp] theorem isF_eGt (P g) : isF (eGt P g) = true := rfl
def eWt (P : Pt) (x : Hm.St) : D := .tup [eN (Hm.Sm x), .str (P.nm true x.1), eT x.2]
def Pt.box (P : Pt) : List Hm.St := (List.range P.H.length).flatMap fun h => (cnts 4 P.S.length).map fun c => (h, c)
def unc (P : Pt) (found : List Hm.St) : List Hm.St := P.box.filter fun x => !(found.any fun y => sleB y x)
theorem run_f {m n : Nat} {bd : SM} {ds : List D} {mu : Mu} {P : D → Mu → Prop} (hl : ds.length = m) (h : Wp bd ⟨ds.map some ++ List.replicate n none, mu⟩ (fun _ => False) fun d e => P d e.mu) : ∃ d mu', runF m n bd mu ds = .ok d mu' ∧ P d mu' := by
  unfold Wp at h
  unfold runF runB
  rw [if_pos hl]
  split at h
  · exact h.elim
  · rename_i d e1 q
    exact ⟨d, e1.mu, by simp only [q], h⟩
  · exact h.elim
def Gen (N n : Nat) (mu : Mu) : Prop := ∃ a b c : Int, mu[n]? = some (some (.olst [.int a, .int b, .int c])) ∧ 0 ≤ a ∧ 0 ≤ b ∧ b < 2147483647 ∧ 0 ≤ c ∧ c ≤ (N : Int)
theorem Gen.mono {N M n : Nat} {mu : Mu} (h : Gen N n mu) (k : N ≤ M) : Gen M n mu := by
  obtain ⟨a, b, c, h1, h2, h3, h4, h5, h6⟩ := h
  exact ⟨a, b, c, h1, h2, h3, h4, h5, by omega⟩
theorem mul_ok {i j : Int} (hi : 0 ≤ i) (hi2 : i < 2 ^ 200) (hj : 0 ≤ j) (hj2 : j < 2 ^ 200) : dMulA (.int i) (.int j) = some (.int (i * j)) := by
  have h1 : i.natAbs.log2 ≤ 200 := by
    by_cases z : i.natAbs = 0
    · rw [z]; decide
    · have : i.natAbs < 2 ^ 201 := by omega
      have := (Nat.log2_lt z).mpr this
      omega
  have h2 : j.natAbs.log2 ≤ 200 := by
    by_cases z : j.natAbs = 0
    · rw [z]; decide
    · have : j.natAbs < 2 ^ 201 := by omega
      have := (Nat.log2_lt z).mpr this
      omega
  have : i.natAbs.log2 + j.natAbs.log2 < 1000000 := by omega
  simp only [dMulA, orD, dMulI, dInt, gMul, this, if_true, Option.map]
theorem mod_ok (i : Int) {j : Int} (hj : 0 < j) : dMod (.int i) (.int j) = some (.int (i % j)) := by
  simp only [dMod, dInt, gMod, hj, if_true, Option.map]
theorem toI (i : Int) : dToInt (.int i) = some (.int i) := rfl
theorem hash_eq {s i : Int} (hs : 0 ≤ s) (hs2 : s < 2147483647) (hi : 0 ≤ i) (hi2 : i < 2 ^ 40) : ∃ r : Int, fn__law_hash [.int s, .int i] = .ok (.int r) ∧ 0 ≤ r ∧ r < 2147483587 := by
  obtain ⟨m1, g1⟩ : ∃ m1 : Int, m1 = (s * 1103515245 + 7919 * i * i + i + 1) % 2147483647 := ⟨_, rfl⟩
  obtain ⟨m2, g2⟩ : ∃ m2 : Int, m2 = (m1 * m1 + 69621) % 2147483629 := ⟨_, rfl⟩
  have hm1 : 0 ≤ m1 ∧ m1 < 2147483647 := by rw [g1]; exact ⟨Int.emod_nonneg _ (by omega), Int.emod_lt_of_pos _ (by omega)⟩
  have hm2 : 0 ≤ m2 ∧ m2 < 2147483629 := by rw [g2]; exact ⟨Int.emod_nonneg _ (by omega), Int.emod_lt_of_pos _ (by omega)⟩
  refine ⟨(m2 * 48271) % 2147483587, ?_, Int.emod_nonneg _ (by omega), Int.emod_lt_of_pos _ (by omega)⟩
  refine run_eq rfl ?_
  unfold bd__law_hash
  have h7 : 0 ≤ 7919 * i ∧ 7919 * i < 2 ^ 200 := by omega
  have e1 := mul_ok (i := s) (j := 1103515245) hs (by omega) (by omega) (by omega)
  have e2 := mul_ok (i := 7919) (j := i) (by omega) (by omega) hi (by omega)
  have e3 := mul_ok (i := 7919 * i) (j := i) h7.1 h7.2 hi (by omega)
  have e4 := mul_ok (i := m1) (j := m1) hm1.1 (by omega) hm1.1 (by omega)
  have e5 := mul_ok (i := m2) (j := 48271) hm2.1 (by omega) (by omega) (by omega)
  have f1 := mod_ok (s * 1103515245 + 7919 * i * i + i + 1) (j := 2147483647) (by omega)
  rw [← g1] at f1
  have f2 := mod_ok (m1 * m1 + 69621) (j := 2147483629) (by omega)
  rw [← g2] at f2
  have f3 := mod_ok (m2 * 48271) (j := 2147483587) (by omega)
  refine wp_seq (wp_set (d := .int m1) (e1 := ⟨[some (.int s), some (.int i), none], []⟩) ?_ ?_)
  · simp! only [e1, e2, e3, toI, f1]
  refine wp_seq (wp_set (d := .int m2) (e1 := ⟨[some (.int s), some (.int i), some (.int m1)], []⟩) ?_ ?_)
  · simp! only [e4, toI, f2]
  refine wp_ret (e1 := ⟨[some (.int s), some (.int i), some (.int m2)], []⟩) ?_ ⟨rfl, rfl⟩
  simp! only [e5, toI, f3]
theorem ixL_ok {i n : Nat} {k : Int} {sl : List (Option D)} {mu : Mu} {ds : List D} {d : D} (h0 : sl[i]? = some (some (.loc n))) (h1 : mu[n]? = some (some (.olst ds))) (h2 : atI ds k = some d) (h3 : isF d = true) : eIxL i k ⟨sl, mu⟩ = .ok d ⟨sl, mu⟩ := by
  simp only [eIxL, hold?, h0, En.at, h1, Option.getD_some, Option.map_some, h2, Option.bind_some, h3, if_true, lift]
theorem wp_setM {i n j : Nat} {fi fv : EM} {sl : List (Option D)} {mu : Mu} {ds : List D} {d : D} {Q : En → Prop} {R : D → En → Prop} (h0 : sl[i]? = some (some (.loc n))) (h1 : mu[n]? = some (some (.olst ds))) (hv : fv ⟨sl, mu⟩ = .ok d ⟨sl, mu⟩) (hi : fi ⟨sl, mu⟩ = .ok (eN j) ⟨sl, mu⟩) (hj : j < ds.length) (q : Q ⟨sl, mu.set n (some (.olst (ds.set j d)))⟩) : Wp (sSetA i fi fv) ⟨sl, mu⟩ Q R := by
  unfold Wp sSetA
  simp only [hv, ofE, hasO, hold?, h0, En.at, h1, Option.getD_some, Option.map_some, hi, chg, Option.bind, kSetA, ixN_nat hj, Option.map, En.put, nxO]
  exact q
theorem bits_small (k : Nat) (h : k ≤ 100000) : Builtin.Int.intBits (k : Int) ≤ 29 := by
  unfold Builtin.Int.intBits
  simp only [Int.natAbs_natCast]
  split
  · omega
  · have hk : k ≠ 0 := by
      intro z
      subst z
      contradiction
    have : k.log2 < 17 := (Nat.log2_lt hk).mpr (by omega)
    omega
theorem random_eqM {N n k : Nat} {mu : Mu} (hg : Gen N n mu) (h1 : 1 ≤ k) (h8 : k ≤ 100000) (hN : N < 1000000) : ∃ (d : D) (mu' : Mu), fn__law_random mu [.loc n, eN k] = .ok d mu' ∧ (∃ r, d = eN r ∧ r < k) ∧ Gen (N + 1) n mu' ∧ mu'.length = mu.length := by
  obtain ⟨a, b, c, hm, ha, hb, hb2, hc, hc2⟩ := hg
  have hn : n < mu.length := (List.getElem?_eq_some_iff.mp hm).1
  refine run_f (P := fun d mu' => (∃ r, d = eN r ∧ r < k) ∧ Gen (N + 1) n mu' ∧ mu'.length = mu.length) rfl ?_
  unfold bd__law_random
  let L : Int → Int → Int → List D := fun a b c => [.int a, .int b, .int c]
  have at0 : ∀ a b c, atI (L a b c) 0 = some (.int a) := fun _ _ _ => rfl
  have at1 : ∀ a b c, atI (L a b c) 1 = some (.int b) := fun _ _ _ => rfl
  have at2 : ∀ a b c, atI (L a b c) 2 = some (.int c) := fun _ _ _ => rfl
  let S : Option D → Option D → Mu → En := fun x2 x3 mu => ⟨[some (.loc n), some (eN k), x2, x3], mu⟩
  have rd : ∀ {x2 x3 mu a b c}, mu[n]? = some (some (.olst (L a b c))) → eIxL 0 0 (S x2 x3 mu) = .ok (.int a) (S x2 x3 mu) ∧ eIxL 0 1 (S x2 x3 mu) = .ok (.int b) (S x2 x3 mu) ∧ eIxL 0 2 (S x2 x3 mu) = .ok (.int c) (S x2 x3 mu) := by
    intro x2 x3 mu a b c h
    exact ⟨ixL_ok rfl h (at0 _ _ _) rfl, ixL_ok rfl h (at1 _ _ _) rfl, ixL_ok rfl h (at2 _ _ _) rfl⟩
  have r0 := rd (x2 := none) (x3 := none) hm
  refine wp_seq (wp_if (k := decide (0 < a)) (e1 := S none none mu) (eTest_ok (bin_s (x := .int a) (y := .int 0) r0.1 rfl (by rw [dGt_int]))) (fun hk => ?_) fun hk => wp_next ?_)
  · have hmod := mod_ok a (j := (k : Int)) (by omega)
    have hm0 : 0 ≤ a % (k : Int) ∧ a % (k : Int) < k := ⟨Int.emod_nonneg _ (by omega), Int.emod_lt_of_pos _ (by omega)⟩
    refine wp_seq (wp_set (d := .int (a % (k : Int))) (e1 := S none none mu) (bin_s (x := .int a) (y := eN k) (un_ok r0.1 rfl) rfl hmod) ?_)
    have r1 := rd (x2 := some (.int (a % (k : Int)))) (x3 := none) hm
    have hf : dFdv (.int a) (.int (k : Int)) = some (.int (a / (k : Int))) := by
      have : 0 < (k : Int) ∧ (k : Int) < 1073741824 := by omega
      simp only [dFdv, dInt, gFdv, this, and_self, if_true, Option.map]
    refine wp_seq (wp_setM (i := 0) (n := n) (j := 0) (d := .int (a / (k : Int))) (ds := L a b c) rfl hm (bin_s (x := .int a) (y := eN k) r1.1 rfl hf) rfl (by simp [L]) ?_)
    refine wp_ret (d := .int (a % (k : Int))) (e1 := S (some (.int (a % (k : Int)))) none (mu.set n (some (.olst (L (a / (k : Int)) b c))))) rfl ⟨⟨(a % (k : Int)).toNat, ?_, by omega⟩, ⟨a / (k : Int), b, c, by show (mu.set n _)[n]? = _; rw [List.getElem?_set_self hn], Int.ediv_nonneg ha (by omega), hb, hb2, hc, by omega⟩, by show (mu.set n _).length = _; simp⟩
    congr 1
    omega
  · refine wp_seq (wp_set (d := .int 0) (e1 := S none none mu) rfl ?_)
    obtain ⟨r, q1, q2, q3⟩ := hash_eq (s := b) (i := c + 1) hb hb2 (by omega) (by omega)
    have hbits := bits_small k h8
    refine wp_seq (wp_for (enc := eN) (l := List.range 1) (e1 := S (some (.int 0)) none mu)
      (fun p e => (p = [] ∧ e = S (some (.int 0)) none mu) ∨ (p.length = 1 ∧ ∃ x3, e = S (some (.int r)) x3 (mu.set n (some (.olst (L a b (c + 1)))))) ) ?_ (.inl ⟨rfl, rfl⟩) ?_ ?_)
    · refine itRange_ok (n := 1) ?_ (by unfold LIM; omega)
      refine frzE_ok (d := eN 1) (bin_s (x := .int 1) (y := .int 0) rfl (bin_s (x := .int (Builtin.Int.intBits (k : Int) : Nat)) (y := .int 30) (un_ok (d := eN k) rfl rfl) rfl ?_) rfl) rfl
      have : 0 < (30 : Int) ∧ (30 : Int) < 1073741824 := by omega
      simp only [dFdv, dInt, gFdv, this, and_self, if_true, Option.map]
      congr 2
      omega
    · rintro p i r2 e he hI
      have hp : p = [] := by
        have := congrArg List.length he
        simp at this
        exact List.length_eq_zero_iff.mp (by omega)
      subst hp
      rcases hI with ⟨_, rfl⟩ | ⟨h, _⟩
      · refine ⟨S (some (.int 0)) (some (eN i)) mu, rfl, ?_⟩
        have r1 := rd (x2 := some (.int 0)) (x3 := some (eN i)) hm
        refine wp_seq (wp_setM (i := 0) (n := n) (j := 2) (d := .int (c + 1)) (ds := L a b c) rfl hm (frzE_ok (bin_s (x := .int c) (y := .int 1) r1.2.2 rfl rfl) rfl) rfl (by simp [L]) ?_)
        have hm' : (mu.set n (some (.olst (L a b (c + 1)))))[n]? = some (some (.olst (L a b (c + 1)))) := List.getElem?_set_self hn
        have r3 := rd (x2 := some (.int 0)) (x3 := some (eN i)) hm'
        have e0 := mul_ok (i := 0) (j := 2147483587) (by omega) (by omega) (by omega) (by omega)
        have hcall := call_ok (p := fn__law_hash) (ar := aCons (eIxL 0 1) (aCons (eIxL 0 2) aNil)) (e := S (some (.int 0)) (some (eN i)) (mu.set n (some (.olst (L a b (c + 1)))))) (e1 := S (some (.int 0)) (some (eN i)) (mu.set n (some (.olst (L a b (c + 1)))))) (ds := [.int b, .int (c + 1)]) (aCons_ok r3.2.1 (aCons_ok r3.2.2 rfl)) (.inr rfl) q1
        refine wp_set (d := .int r) (e1 := S (some (.int 0)) (some (eN i)) (mu.set n (some (.olst (L a b (c + 1)))))) (frzE_ok (d := .int r) (bin_s (x := .int 0) (y := .int r) (frzE_ok (bin_s (x := .int 0) (y := .int 2147483587) rfl rfl e0) rfl) hcall ?_) rfl) (.inr ⟨rfl, some (eN i), rfl⟩)
        rw [dAddA_int]
        congr 2
        omega
      · simp at h
    · rintro e hI
      rcases hI with ⟨h, _⟩ | ⟨_, x3, rfl⟩
      · cases h
      · have hmod := mod_ok r (j := (k : Int)) (by omega)
        have hm0 : 0 ≤ r % (k : Int) ∧ r % (k : Int) < k := ⟨Int.emod_nonneg _ (by omega), Int.emod_lt_of_pos _ (by omega)⟩
        refine wp_ret (d := .int (r % (k : Int))) (e1 := S (some (.int r)) x3 (mu.set n (some (.olst (L a b (c + 1)))))) (bin_s (x := .int r) (y := eN k) (un_ok (d := .int r) rfl rfl) rfl hmod) ⟨⟨(r % (k : Int)).toNat, ?_, by omega⟩, ⟨a, b, c + 1, by show (mu.set n _)[n]? = _; rw [List.getElem?_set_self hn], ha, hb, hb2, by omega, by omega⟩, by show (mu.set n _).length = _; simp⟩
        congr 1
        omega
theorem fvcall {F : FV} {ar : LM} {e : En} {sl : List (Option D)} {mu mu' : Mu} {ds : List D} {d : D} (h1 : ar e = .ok ds ⟨sl, mu⟩) (h2 : F mu ds = .ok d mu') : eCall F ar e = .ok d ⟨sl, mu'⟩ := by
  simp only [eCall, h1, Rs.bind, callF, h2]
theorem rndM {N n k : Nat} {sl : List (Option D)} {mu : Mu} {fk : EM} (h0 : sl[0]? = some (some (.loc n))) (hk : fk ⟨sl, mu⟩ = .ok (eN k) ⟨sl, mu⟩) (hg : Gen N n mu) (h1 : 1 ≤ k) (h8 : k ≤ 100000) (hN : N < 1000000) :
    ∃ r mu', eCall fn__law_random (aCons (eVar 0) (aCons fk aNil)) ⟨sl, mu⟩ = .ok (eN r) ⟨sl, mu'⟩ ∧ frzA (eCall fn__law_random (aCons (eVar 0) (aCons fk aNil))) ⟨sl, mu⟩ = .ok (eN r) ⟨sl, mu'⟩ ∧ r < k ∧ Gen (N + 1) n mu' ∧ mu'.length = mu.length := by
  obtain ⟨d, mu', h2, ⟨r, rfl, hr⟩, h4, h5⟩ := random_eqM hg h1 h8 hN
  have h6 : eCall fn__law_random (aCons (eVar 0) (aCons fk aNil)) ⟨sl, mu⟩ = .ok (eN r) ⟨sl, mu'⟩ := fvcall (aCons_ok (by simp [eVar, h0]) (aCons_ok hk rfl)) h2
  exact ⟨r, mu', h6, frzA_ok h6 rfl, hr, h4, h5⟩
theorem rnd {N n k : Nat} {sl : List (Option D)} {mu : Mu} {fk : EM} (h0 : sl[0]? = some (some (.loc n))) (hk : fk ⟨sl, mu⟩ = .ok (eN k) ⟨sl, mu⟩) (hg : Gen N n mu) (h1 : 1 ≤ k) (h8 : k ≤ 8) (hN : N < 1000000) :
    ∃ r mu', eCall fn__law_random (aCons (eVar 0) (aCons fk aNil)) ⟨sl, mu⟩ = .ok (eN r) ⟨sl, mu'⟩ ∧ frzA (eCall fn__law_random (aCons (eVar 0) (aCons fk aNil))) ⟨sl, mu⟩ = .ok (eN r) ⟨sl, mu'⟩ ∧ r < k ∧ Gen (N + 1) n mu' ∧ mu'.length = mu.length := rndM h0 hk hg h1 (by omega) hN
theorem ix_names {l : List Str} {i : Nat} {x : Str} (h : l[i]? = some x) : dIxA (.lst (eStr l)) (eN i) = some (.str x) := dIxA_lst (by simp only [eStr, List.getElem?_map, h, Option.map_some]) rfl
theorem entry_eq {N n : Nat} {mu : Mu} {H S : List Str} {sn : List (Option Str)} (hg : Gen N n mu) (hH : 1 ≤ H.length) (hH8 : H.length ≤ 8) (hS : 1 ≤ S.length) (hS8 : S.length ≤ 8) (hs : 1 ≤ sn.length) (hs8 : sn.length ≤ 8) (hN : N + 4 < 1000000) :
    ∃ (d : D) (mu' : Mu), fn__law_entry_drawn mu [.loc n, .lst (eStr H), .lst (eStr S), .lst (sn.map eO)] = .ok d mu' ∧ (∃ e : Ent, d = eE ⟨H, S, [], [], []⟩ e ∧ e.Ok ⟨H, S, [], [], []⟩ ∧ e.sn ∈ sn) ∧ Gen (N + 4) n mu' ∧ mu'.length = mu.length := by
  refine run_f (P := fun d mu' => (∃ e : Ent, d = eE ⟨H, S, [], [], []⟩ e ∧ e.Ok ⟨H, S, [], [], []⟩ ∧ e.sn ∈ sn) ∧ Gen (N + 4) n mu' ∧ mu'.length = mu.length) rfl ?_
  unfold bd__law_entry_drawn
  let T : Option D → Option D → Option D → Mu → En := fun x4 x5 x6 mu => ⟨[some (.loc n), some (.lst (eStr H)), some (.lst (eStr S)), some (.lst (sn.map eO)), x4, x5, x6], mu⟩
  obtain ⟨r1, m1, _, a1, b1, c1, d1⟩ := rnd (sl := [some (.loc n), some (.lst (eStr H)), some (.lst (eStr S)), some (.lst (sn.map eO)), none, none, none]) (mu := mu) (fk := eC (.int 3)) (k := 3) rfl rfl hg (by omega) (by omega) (by omega)
  let bh : Bool := decide (r1 = 0)
  let P : Pt := ⟨H, S, [], [], []⟩
  let nl : List Str := if bh then H else S
  have hnl : nl.length = P.n bh := by
    simp only [nl, Pt.n]
    cases bh <;> rfl
  have hnl1 : 1 ≤ nl.length ∧ nl.length ≤ 8 := by
    simp only [nl]; split <;> omega
  refine wp_seq (wp_set (d := .lst (eStr nl)) (e1 := T none none none m1) ?_ ?_)
  · have ht : eTest (bin dEqA (frzA (eCall fn__law_random (aCons (eVar 0) (aCons (eC (.int 3)) aNil)))) (eC (.int 0))) (T none none none mu) = .ok bh (T none none none m1) := by
      refine eTest_ok (bin_ok a1 (e2 := T none none none m1) (y := .int 0) rfl ?_)
      rw [dEqA_int]
      congr 2
      simp only [bh]
      rw [Bool.eq_iff_iff]
      simp
    cases q : bh
    · rw [q] at ht
      refine eIf_f ht ?_
      simp only [nl, q]
      rfl
    · rw [q] at ht
      refine eIf_t ht ?_
      simp only [nl, q]
      rfl
  have lenN : ∀ x5 x6 m, un dLen (eVar 4) (T (some (.lst (eStr nl))) x5 x6 m) = .ok (eN nl.length) (T (some (.lst (eStr nl))) x5 x6 m) := fun x5 x6 m => un_ok (d := .lst (eStr nl)) rfl (by simp [items?, dLen, eStr])
  obtain ⟨r2, m2, a2, _, b2, c2, d2⟩ := rnd (sl := [some (.loc n), some (.lst (eStr H)), some (.lst (eStr S)), some (.lst (sn.map eO)), some (.lst (eStr nl)), none, none]) (mu := m1) (fk := un dLen (eVar 4)) (k := nl.length) rfl (lenN none none m1) c1 hnl1.1 hnl1.2 (by omega)
  obtain ⟨r3, m3, a3, _, b3, c3, d3⟩ := rnd (sl := [some (.loc n), some (.lst (eStr H)), some (.lst (eStr S)), some (.lst (sn.map eO)), some (.lst (eStr nl)), none, none]) (mu := m2) (fk := un dLen (eVar 4)) (k := nl.length) rfl (lenN none none m2) c2 hnl1.1 hnl1.2 (by omega)
  have nmg : ∀ i, i < nl.length → nl[i]? = some (P.nm bh i) := fun i hi => by
    have := nm_get (P := P) (bh := bh) (i := i) (by rw [← hnl]; exact hi)
    exact this
  have e2 : bin dIxA (eVar 4) (eCall fn__law_random (aCons (eVar 0) (aCons (un dLen (eVar 4)) aNil))) (T (some (.lst (eStr nl))) none none m1) = .ok (.str (P.nm bh r2)) (T (some (.lst (eStr nl))) none none m2) :=
    bin_ok (x := .lst (eStr nl)) (e1 := T (some (.lst (eStr nl))) none none m1) rfl a2 (ix_names (nmg r2 b2))
  have e3 : bin dIxA (eVar 4) (eCall fn__law_random (aCons (eVar 0) (aCons (un dLen (eVar 4)) aNil))) (T (some (.lst (eStr nl))) none none m2) = .ok (.str (P.nm bh r3)) (T (some (.lst (eStr nl))) none none m3) :=
    bin_ok (x := .lst (eStr nl)) (e1 := T (some (.lst (eStr nl))) none none m2) rfl a3 (ix_names (nmg r3 b3))
  refine wp_seq (wp_mix (ds := [.str (P.nm bh r2), .str (P.nm bh r3)]) (e1 := T (some (.lst (eStr nl))) none none m3) (e2 := T (some (.lst (eStr nl))) (some (.str (P.nm bh r2))) (some (.str (P.nm bh r3))) m3) ?_ (by simp! only []) (by simp! only [T]) ?_)
  · show mxEv _ (T (some (.lst (eStr nl))) none none m1) = _
    simp only [mxEv, e2, e3, Rs.bind]
  obtain ⟨r4, m4, a4, _, b4, c4, d4⟩ := rnd (sl := [some (.loc n), some (.lst (eStr H)), some (.lst (eStr S)), some (.lst (sn.map eO)), some (.lst (eStr nl)), some (.str (P.nm bh r2)), some (.str (P.nm bh r3))]) (mu := m3) (fk := un dLen (eVar 3)) (k := sn.length) rfl (un_ok (d := .lst (sn.map eO)) rfl (by simp [items?, dLen])) c3 hs hs8 (by omega)
  have hsn : sn[r4]? = some sn[r4] := List.getElem?_eq_getElem b4
  have e4 : bin dIxA (eVar 3) (eCall fn__law_random (aCons (eVar 0) (aCons (un dLen (eVar 3)) aNil))) (T (some (.lst (eStr nl))) (some (.str (P.nm bh r2))) (some (.str (P.nm bh r3))) m3) = .ok (eO sn[r4]) (T (some (.lst (eStr nl))) (some (.str (P.nm bh r2))) (some (.str (P.nm bh r3))) m4) :=
    bin_ok (x := .lst (sn.map eO)) (e1 := T (some (.lst (eStr nl))) (some (.str (P.nm bh r2))) (some (.str (P.nm bh r3))) m3) rfl a4 (dIxA_lst (by rw [List.getElem?_map, hsn]; rfl) (isF_eO _))
  refine wp_ret (d := eE P ⟨bh, r2, sn[r4], r3⟩) (e1 := T (some (.lst (eStr nl))) (some (.str (P.nm bh r2))) (some (.str (P.nm bh r3))) m4) ?_ ⟨⟨⟨bh, r2, sn[r4], r3⟩, rfl, ⟨by rw [← hnl]; exact b2, by rw [← hnl]; exact b3⟩, List.getElem_mem b4⟩, c4, by show m4.length = _; omega⟩
  have e5 : eVar 5 (T (some (.lst (eStr nl))) (some (.str (P.nm bh r2))) (some (.str (P.nm bh r3))) m3) = .ok (.str (P.nm bh r2)) (T (some (.lst (eStr nl))) (some (.str (P.nm bh r2))) (some (.str (P.nm bh r3))) m3) := rfl
  have e6 : eVar 6 (T (some (.lst (eStr nl))) (some (.str (P.nm bh r2))) (some (.str (P.nm bh r3))) m4) = .ok (.str (P.nm bh r3)) (T (some (.lst (eStr nl))) (some (.str (P.nm bh r2))) (some (.str (P.nm bh r3))) m4) := rfl
  show eTup _ (T (some (.lst (eStr nl))) (some (.str (P.nm bh r2))) (some (.str (P.nm bh r3))) m3) = _
  simp only [eTup, aCons, aNil, e5, e4, e6, Rs.bind, mkTup, List.length_cons, List.length_nil, Nat.zero_add, Nat.reduceAdd, lim3, if_true, lift]
  rfl
theorem wp_appM {i : Nat} {f : EM} {sl : List (Option D)} {mu mu' : Mu} {ds : List D} {d : D} {Q : En → Prop} {R : D → En → Prop} (h : sl[i]? = some (some (.olst ds))) (hf : f ⟨sl, mu⟩ = .ok d ⟨sl, mu'⟩) (hl : ds.length < LIM) (q : Q ⟨sl.set i (some (.olst (ds ++ [d]))), mu'⟩) : Wp (sApp i f) ⟨sl, mu⟩ Q R := by
  unfold Wp sApp
  simp only [hasL, hold?, h, hf, ofE, chg, Option.bind, kApp, hl, if_true, Option.map, En.put, nxO]
  exact q
def hs0 : List Str := ["idle", "mends", "done"]
def ss0 : List Str := ["lacks", "waits", "has", "off"]
def sn1 : List (Option Str) := [some "ask", some "mend", some "ask", none]
def sn2 : List (Option Str) := [some "mend", some "ask"]
def ll0 : List (List Str) := [[], ["mend"], ["ask"], ["mend", "ask"], ["none"]]
structure Drawn (wide high : Nat) (P : Pt) : Prop where
  h : ∃ i, 1 ≤ i ∧ i ≤ wide ∧ P.H = hs0.take i
  s : ∃ i, 1 ≤ i ∧ i ≤ high ∧ P.S = ss0.take i
  d1 : 1 ≤ P.ds.length
  d : P.ds.length ≤ 5
  e : P.es.length ≤ 7
  ds : ∀ e ∈ P.ds, e.Ok P ∧ e.sn ∈ sn1
  es : ∀ e ∈ P.es, e.Ok P ∧ e.sn ∈ sn2
  en : (P.es.map fun e => (e.bh, e.pl, e.sn)).Nodup
  l : P.ls ∈ ll0
theorem take_nd : ∀ i, i ≤ 3 → ∀ j, j ≤ 4 → (hs0.take i ++ ss0.take j).Nodup := by decide +kernel
theorem names_ok : ∀ x ∈ hs0 ++ ss0, okName x = true := by decide +kernel
theorem sn1_ok : ∀ o ∈ sn1, ∀ x, o = some x → okName x = true := by
  intro o ho x e
  subst e
  have : ∀ y ∈ (["ask", "mend"] : List Str), okName y = true := by decide +kernel
  refine this x ?_
  simp [sn1] at ho
  simp
  rcases ho with h | h | h <;> simp [h]
theorem sn2_ok : ∀ o ∈ sn2, ∃ x, o = some x ∧ okName x = true := by
  intro o ho
  have : ∀ y ∈ (["mend", "ask"] : List Str), okName y = true := by decide +kernel
  simp [sn2] at ho
  rcases ho with h | h
  · exact ⟨_, h, this _ (by simp)⟩
  · exact ⟨_, h, this _ (by simp)⟩
theorem ll0_ok : ∀ l ∈ ll0, l.Nodup ∧ l.length ≤ 4 ∧ ∀ x ∈ l, okName x = true := by decide +kernel
theorem Drawn.ok {wide high : Nat} {P : Pt} (d : Drawn wide high P) (hw : wide ≤ 3) (hh : high ≤ 4) : P.Ok := by
  obtain ⟨i, hi1, hi2, hi⟩ := d.h
  obtain ⟨j, hj1, hj2, hj⟩ := d.s
  have hl := ll0_ok P.ls d.l
  have hil : P.H.length = i := by rw [hi, List.length_take]; simp [hs0]; omega
  have hjl : P.S.length = j := by rw [hj, List.length_take]; simp [ss0]; omega
  refine ⟨?_, ?_, by omega, by omega, by omega, by omega, by have := d.d; omega, by have := d.e; omega, hl.2.1, hl.1, fun e he => ⟨(d.ds e he).1, sn1_ok _ (d.ds e he).2⟩, fun e he => ⟨(d.es e he).1, sn2_ok _ (d.es e he).2⟩, d.en⟩
  · rw [hi, hj]
    exact take_nd i (by omega) j (by omega)
  · intro x hx
    rcases List.mem_append.mp hx with hx | hx
    · refine names_ok x ?_
      rcases List.mem_append.mp hx with hx | hx
      · rw [hi] at hx; exact List.mem_append_left _ (List.mem_of_mem_take hx)
      · rw [hj] at hx; exact List.mem_append_right _ (List.mem_of_mem_take hx)
    · exact hl.2.2 x hx
theorem not_known {P : Pt} (nd : (P.H ++ P.S).Nodup) {e : Ent} (he : e.Ok P) {l : List Ent} (hl : ∀ f ∈ l, f.Ok P) : dNotInA (.tup [.str (P.nm e.bh e.pl), eO e.sn]) (.olst (l.map (ePr P))) = some (.bl (!decide ((e.bh, e.pl, e.sn) ∈ l.map fun e => (e.bh, e.pl, e.sn)))) := by
  have h1 : pln DEP (.tup [.str (P.nm e.bh e.pl), eO e.sn]) = true := pln_pr 11 e
  have h2 : pln DEP (.olst (l.map (ePr P))) = true := by
    have := pln_lst (n := 11) (xs := l.map (ePr P)) fun d h => by
      obtain ⟨e, _, rfl⟩ := List.mem_map.mp h
      exact pln_pr 10 e
    exact this
  have h3 : inD (.tup [.str (P.nm e.bh e.pl), eO e.sn]) (l.map (ePr P)) = decide ((e.bh, e.pl, e.sn) ∈ l.map fun e => (e.bh, e.pl, e.sn)) := by
    induction l with
    | nil => rfl
    | cons f l ih =>
      have ih' := ih (fun f hf => hl f (List.mem_cons_of_mem _ hf)) (by
        have := pln_lst (n := 11) (xs := l.map (ePr P)) fun d h => by
          obtain ⟨e, _, rfl⟩ := List.mem_map.mp h
          exact pln_pr 10 e
        exact this)
      unfold inD at ih' ⊢
      simp only [List.map_cons, List.any_cons, ih']
      have : deq (ePr P f) (.tup [.str (P.nm e.bh e.pl), eO e.sn]) = decide ((e.bh, e.pl, e.sn) = (f.bh, f.pl, f.sn)) := by
        unfold ePr
        rw [deq_pair, Bool.eq_iff_iff]
        simp only [Bool.and_eq_true, beq_iff_eq, decide_eq_true_eq, Prod.mk.injEq]
        constructor
        · rintro ⟨a1, a2⟩
          obtain ⟨a3, a4⟩ := nm_inj nd (hl f (List.mem_cons_self ..)).pl he.pl a1
          exact ⟨a3.symm, a4.symm, a2.symm⟩
        · rintro ⟨a1, a2, a3⟩
          exact ⟨by rw [a1, a2], a3.symm⟩
      rw [this, Bool.eq_iff_iff]
      simp
  have h5 : fitems? (.olst (l.map (ePr P))) = some (l.map (ePr P)) := by
    have : (l.map (ePr P)).all isF = true := by simp [ePr]
    simp only [fitems?, this, if_true]
  have h4 : flat (.tup [.str (P.nm e.bh e.pl), eO e.sn]) = false := rfl
  simp only [dNotInA, orD, dNotIn, dInF, h5, h4, dInL, h1, h2, and_self, if_true, h3]
  rfl
theorem take_names {l : List Str} {k : Nat} : dSlA (.lst (eStr l)) none (some (k : Int)) = some (.olst (eStr (l.take k))) := by
  simp only [dSlA, dSlT, dSlL, litems?, Option.map, cut_lo]
  simp [eStr, List.map_take]
theorem parts_eq {N n wide high : Nat} {mu : Mu} (hg : Gen N n mu) (hw1 : 1 ≤ wide) (hw : wide ≤ 3) (hh1 : 1 ≤ high) (hh : high ≤ 4) (hN : N + 100 < 1000000) :
    ∃ (d : D) (mu' : Mu), fn__law_parts mu [.loc n, eN wide, eN high] = .ok d mu' ∧ (∃ P : Pt, frzT d = some (eP P) ∧ Drawn wide high P) ∧ Gen (N + 60) n mu' ∧ mu'.length = mu.length := by
  refine run_f (P := fun d mu' => (∃ P : Pt, frzT d = some (eP P) ∧ Drawn wide high P) ∧ Gen (N + 60) n mu' ∧ mu'.length = mu.length) rfl ?_
  unfold bd__law_parts
  let Z : Mu → En := fun mu => ⟨[some (.loc n), some (eN wide), some (eN high), none, none, none, none, none, none, none, none, none, none], mu⟩
  obtain ⟨r1, m1, a1, _, b1, c1, d1⟩ := rnd (sl := [some (.loc n), some (eN wide), some (eN high), none, none, none, none, none, none, none, none, none, none]) (mu := mu) (fk := eVar 1) (k := wide) rfl rfl hg hw1 (by omega) (by omega)
  have addE : ∀ {f : EM} {e1 e2 : En} {r : Nat}, f e1 = .ok (eN r) e2 → frzE (bin dAddA (eC (.int 1)) f) e1 = .ok (eN (r + 1)) e2 := by
    intro f e1 e2 r h
    refine frzE_ok (d := eN (r + 1)) (bin_ok (x := .int 1) (e1 := e1) rfl h ?_) rfl
    rw [dAddA_int]
    congr 2
    omega
  have pSE : ∀ {f : EM} {e1 e2 : En} {r : Nat}, f e1 = .ok (eN r) e2 → pS f e1 = .ok (some (r : Int)) e2 := by
    intro f e1 e2 r h
    simp only [pS, h, Rs.bind]
  have hsl : ∀ {l : List Str} {fx : EM} {fh : OM} {e1 e2 : En} {r : Nat}, fx e1 = .ok (.lst (eStr l)) e1 → fh e1 = .ok (some (r : Int)) e2 → frzE (eSl dSlA fx pN fh) e1 = .ok (.lst (eStr (l.take r))) e2 := by
    intro l fx fh e1 e2 r h1 h2
    refine frzE_ok (d := .olst (eStr (l.take r))) ?_ (frzD_gen D.str (fun _ => rfl) _)
    simp only [eSl, h1, Rs.bind, pN, h2, take_names, lift]
  refine wp_seq (wp_set (d := .lst (eStr (hs0.take (r1 + 1)))) (e1 := Z m1) (hsl (l := hs0) (r := r1 + 1) (e1 := Z mu) (by simp! only [Z]; rfl) (pSE (addE a1))) ?_)
  obtain ⟨H, hH⟩ : ∃ H, H = hs0.take (r1 + 1) := ⟨_, rfl⟩
  rw [← hH]
  have hHl : H.length = r1 + 1 := by rw [hH, List.length_take]; simp [hs0]; omega
  obtain ⟨r2, m2, a2, _, b2, c2, d2⟩ := rnd (sl := [some (.loc n), some (eN wide), some (eN high), some (.lst (eStr H)), none, none, none, none, none, none, none, none, none]) (mu := m1) (fk := eVar 2) (k := high) rfl rfl c1 hh1 (by omega) (by omega)
  refine wp_seq (wp_set (d := .lst (eStr (ss0.take (r2 + 1)))) (e1 := ⟨[some (.loc n), some (eN wide), some (eN high), some (.lst (eStr H)), none, none, none, none, none, none, none, none, none], m2⟩) (hsl (l := ss0) (r := r2 + 1) (e1 := ⟨[some (.loc n), some (eN wide), some (eN high), some (.lst (eStr H)), none, none, none, none, none, none, none, none, none], m1⟩) (by simp! only []; rfl) (pSE (addE a2))) ?_)
  obtain ⟨Sn, hS⟩ : ∃ Sn, Sn = ss0.take (r2 + 1) := ⟨_, rfl⟩
  rw [← hS]
  have hSl : Sn.length = r2 + 1 := by rw [hS, List.length_take]; simp [ss0]; omega
  let P0 : Pt := ⟨H, Sn, [], [], []⟩
  have hnd : (P0.H ++ P0.S).Nodup := by
    show (H ++ Sn).Nodup
    rw [hH, hS]
    exact take_nd _ (by omega) _ (by omega)
  let T : Option D → Option D → List Ent → List Ent → Option D → Option D → Option D → Mu → En := fun x5 x6 ds es x10 x11 x12 mu => ⟨[some (.loc n), some (eN wide), some (eN high), some (.lst (eStr H)), some (.lst (eStr Sn)), x5, x6, some (.olst (ds.map (eE P0))), some (.olst (es.map (eE P0))), some (.olst (es.map (ePr P0))), x10, x11, x12], mu⟩
  refine wp_seq (wp_mix (ds := [.olst [], .olst [], .olst []]) (e1 := ⟨[some (.loc n), some (eN wide), some (eN high), some (.lst (eStr H)), some (.lst (eStr Sn)), none, none, none, none, none, none, none, none], m2⟩) (e2 := T none none [] [] none none none m2) (by simp! only []) (by simp! only []) (by simp! only [T]) ?_)
  obtain ⟨r3, m3, a3, _, b3, c3, d3⟩ := rnd (sl := [some (.loc n), some (eN wide), some (eN high), some (.lst (eStr H)), some (.lst (eStr Sn)), none, none, some (.olst []), some (.olst []), some (.olst []), none, none, none]) (mu := m2) (fk := eC (.int 5)) (k := 5) rfl rfl c2 (by omega) (by omega) (by omega)
  -- the deeds
  refine wp_seq (wp_for (enc := eN) (l := List.range (r3 + 1)) (e1 := T none none [] [] none none none m3)
    (fun p e => ∃ x5 ds mu', e = T x5 none ds [] none none none mu' ∧ ds.length = p.length ∧ (∀ f ∈ ds, f.Ok P0 ∧ f.sn ∈ sn1) ∧ Gen (N + 3 + 4 * p.length) n mu' ∧ mu'.length = mu.length) (itRange_ok (addE a3) (by unfold LIM; omega)) ⟨none, [], m3, rfl, rfl, (fun _ h => by cases h), c3.mono (by omega), by omega⟩ ?_ ?_)
  · rintro p i r e he ⟨x5, ds, mu', rfl, hl, hds, hgen, hml⟩
    have hpl : p.length < r3 + 1 := by
      have := congrArg List.length he
      simp at this; omega
    refine ⟨T (some (eN i)) none ds [] none none none mu', rfl, ?_⟩
    obtain ⟨d, m', f1, ⟨en, rfl, f2, f3⟩, f4, f5⟩ := entry_eq (sn := sn1) (H := H) (S := Sn) hgen (by omega) (by omega) (by omega) (by omega) (by simp [sn1]) (by simp [sn1]) (by omega)
    refine wp_appM (i := 7) (ds := ds.map (eE P0)) (d := eE P0 en) (mu' := m') rfl (frzA_ok (d := eE P0 en) (fvcall (ds := [.loc n, .lst (eStr H), .lst (eStr Sn), .lst (sn1.map eO)]) ?_ f1) rfl) (by rw [List.length_map]; unfold LIM; omega) ⟨some (eN i), ds ++ [en], m', ?_, by simp [hl], ?_, ?_, by omega⟩
    · have : frzE (eLst (aCons (eC (.str "ask")) (aCons (eC (.str "mend")) (aCons (eC (.str "ask")) (aCons (eC .non) aNil))))) (T (some (eN i)) none ds [] none none none mu') = .ok (.lst (sn1.map eO)) (T (some (eN i)) none ds [] none none none mu') := by simp! only []; rfl
      exact aCons_ok rfl (aCons_ok rfl (aCons_ok rfl (aCons_ok this rfl)))
    · simp only [T, List.set_cons_succ, List.set_cons_zero, List.map_append, List.map_cons, List.map_nil]
    · intro g hgm
      rcases List.mem_append.mp hgm with h | h
      · exact hds g h
      · simp at h; rw [h]; exact ⟨f2, f3⟩
    · refine f4.mono ?_
      simp; omega
  rintro e ⟨x5, ds, m4, rfl, hl, hds, hgen, hml⟩
  rw [List.length_range] at hl hgen
  obtain ⟨r5, m5, _, a5, b5, c5, d5⟩ := rnd (sl := [some (.loc n), some (eN wide), some (eN high), some (.lst (eStr H)), some (.lst (eStr Sn)), x5, none, some (.olst (ds.map (eE P0))), some (.olst []), some (.olst []), none, none, none]) (mu := m4) (fk := eC (.int 8)) (k := 8) rfl rfl hgen (by omega) (by omega) (by omega)
  -- the hearings
  refine wp_seq (wp_for (enc := eN) (l := List.range r5) (e1 := T x5 none ds [] none none none m5)
    (fun p e => ∃ x5 es x10 x11 x12 mu', e = T x5 none ds es x10 x11 x12 mu' ∧ es.length ≤ p.length ∧ (∀ f ∈ es, f.Ok P0 ∧ f.sn ∈ sn2) ∧ (es.map fun e : Ent => (e.bh, e.pl, e.sn)).Nodup ∧ Gen (N + 24 + 4 * p.length) n mu' ∧ mu'.length = mu.length) (itRange_ok a5 (by unfold LIM; omega)) ⟨x5, [], none, none, none, m5, rfl, by simp, (fun _ h => by cases h), List.nodup_nil, c5.mono (by simp; omega), by omega⟩ ?_ ?_)
  · rintro p i r e he ⟨x5, es, x10, x11, x12, mu', rfl, hl2, hes, hnod, hgen2, hml2⟩
    have hpl : p.length < r5 := by
      have := congrArg List.length he
      simp at this; omega
    refine ⟨T (some (eN i)) none ds es x10 x11 x12 mu', rfl, ?_⟩
    obtain ⟨d, m', f1, ⟨en, rfl, f2, f3⟩, f4, f5⟩ := entry_eq (sn := sn2) (H := H) (S := Sn) hgen2 (by omega) (by omega) (by omega) (by omega) (by simp [sn2]) (by simp [sn2]) (by omega)
    have hent : frzA (eCall fn__law_entry_drawn (aCons (eVar 0) (aCons (eVar 3) (aCons (eVar 4) (aCons (frzE (eLst (aCons (eC (.str "mend")) (aCons (eC (.str "ask")) aNil)))) aNil))))) (T (some (eN i)) none ds es x10 x11 x12 mu') = .ok (eE P0 en) (T (some (eN i)) none ds es x10 x11 x12 m') := by
      refine frzA_ok (d := eE P0 en) (fvcall (ds := [.loc n, .lst (eStr H), .lst (eStr Sn), .lst (sn2.map eO)]) ?_ f1) rfl
      have : frzE (eLst (aCons (eC (.str "mend")) (aCons (eC (.str "ask")) aNil))) (T (some (eN i)) none ds es x10 x11 x12 mu') = .ok (.lst (sn2.map eO)) (T (some (eN i)) none ds es x10 x11 x12 mu') := by simp! only []; rfl
      exact aCons_ok rfl (aCons_ok rfl (aCons_ok rfl (aCons_ok this rfl)))
    let y10 : Option D := some (.str (P0.nm en.bh en.pl))
    let y12 : Option D := some (.str (P0.nm en.bh en.ot))
    refine wp_seq (wp_asg (d := eE P0 en) (e1 := T (some (eN i)) none ds es x10 x11 x12 m') (e2 := T (some (eN i)) none ds es y10 (some (eO en.sn)) y12 m') hent (by simp! only [eE, T, y10, y12]) ?_)
    have hkey : ∀ es, eTup (aCons (eVar 10) (aCons (eVar 11) aNil)) (T (some (eN i)) none ds es y10 (some (eO en.sn)) y12 m') = .ok (ePr P0 en) (T (some (eN i)) none ds es y10 (some (eO en.sn)) y12 m') := fun es => mk_tup2 (by simp! only [T, y10]) (by simp! only [T, isF_eO])
    have hnk := not_known (P := P0) hnd f2 fun g hgm => (hes g hgm).1
    refine wp_if (k := !decide ((en.bh, en.pl, en.sn) ∈ es.map fun e : Ent => (e.bh, e.pl, e.sn))) (e1 := T (some (eN i)) none ds es y10 (some (eO en.sn)) y12 m') (eTest_ok (bin_s (y := .olst (es.map (ePr P0))) (hkey es) rfl hnk)) (fun hk => ?_) fun hk => wp_next ⟨some (eN i), es, y10, some (eO en.sn), y12, m', rfl, by simp; omega, hes, hnod, f4.mono (by simp; omega), by omega⟩
    have hk' : (en.bh, en.pl, en.sn) ∉ es.map fun e : Ent => (e.bh, e.pl, e.sn) := by simpa using hk
    refine wp_seq (wp_appM (i := 9) (ds := es.map (ePr P0)) (d := ePr P0 en) (mu' := m') rfl (hkey es) (by rw [List.length_map]; unfold LIM; omega) ?_)
    refine wp_appM (i := 8) (ds := es.map (eE P0)) (d := eE P0 en) (mu' := m') rfl ?_ (by rw [List.length_map]; unfold LIM; omega) ⟨some (eN i), es ++ [en], y10, some (eO en.sn), y12, m', ?_, by simp; omega, ?_, ?_, f4.mono (by simp; omega), by omega⟩
    · exact mk_tup3 rfl (by simp! only [T, isF_eO]) rfl
    · simp only [T, List.set_cons_succ, List.set_cons_zero, List.map_append, List.map_cons, List.map_nil]
    · intro g hgm
      rcases List.mem_append.mp hgm with h | h
      · exact hes g h
      · simp at h; rw [h]; exact ⟨f2, f3⟩
    · rw [List.map_append]
      refine List.nodup_append.mpr ⟨hnod, by simp, ?_⟩
      intro a ha b hb e
      simp at hb
      subst hb; subst e
      exact hk' ha
  rintro e ⟨x5', es, x10, x11, x12, m6, rfl, hl2, hes, hnod, hgen2, hml2⟩
  rw [List.length_range] at hl2 hgen2
  obtain ⟨r7, m7, a7, _, b7, c7, d7⟩ := rnd (sl := [some (.loc n), some (eN wide), some (eN high), some (.lst (eStr H)), some (.lst (eStr Sn)), x5', none, some (.olst (ds.map (eE P0))), some (.olst (es.map (eE P0))), some (.olst (es.map (ePr P0))), x10, x11, x12]) (mu := m6) (fk := eC (.int 5)) (k := 5) rfl rfl hgen2 (by omega) (by omega) (by omega)
  have hll : ll0[r7]? = some ll0[r7] := List.getElem?_eq_getElem (by simp [ll0]; omega)
  have hlst : frzE (eLst (aCons (frzE (eLst aNil)) (aCons (frzE (eLst (aCons (eC (.str "mend")) aNil))) (aCons (frzE (eLst (aCons (eC (.str "ask")) aNil))) (aCons (frzE (eLst (aCons (eC (.str "mend")) (aCons (eC (.str "ask")) aNil)))) (aCons (frzE (eLst (aCons (eC (.str "none")) aNil))) aNil)))))) (T x5' none ds es x10 x11 x12 m6) = .ok (.lst (ll0.map fun l => .lst (eStr l))) (T x5' none ds es x10 x11 x12 m6) := by
    simp! only []
    rfl
  refine wp_seq (wp_set (d := .lst (eStr ll0[r7])) (e1 := T x5' none ds es x10 x11 x12 m7) (bin_ok hlst a7 (dIxA_lst (by rw [List.getElem?_map, hll]; rfl) rfl)) ?_)
  obtain ⟨ls, hls⟩ : ∃ ls, ls = ll0[r7] := ⟨_, rfl⟩
  rw [← hls]
  let P : Pt := ⟨H, Sn, ds, es, ls⟩
  have hdr : Drawn wide high P := ⟨⟨r1 + 1, by omega, by omega, hH⟩, ⟨r2 + 1, by omega, by omega, hS⟩, by show 1 ≤ ds.length; omega, by show ds.length ≤ 5; omega, by show es.length ≤ 7; omega, fun e he => ⟨⟨(hds e he).1.pl, (hds e he).1.ot⟩, (hds e he).2⟩, fun e he => ⟨⟨(hes e he).1.pl, (hes e he).1.ot⟩, (hes e he).2⟩, hnod, by show ls ∈ ll0; rw [hls]; exact List.getElem_mem _⟩
  have hfd : ∀ l : List Ent, frzD (.olst (l.map (eE P0))) = some (.lst (l.map (eE P0))) := frzD_gen (eE P0) fun _ => rfl
  refine wp_ret (d := .olst [.lst (eStr H), .lst (eStr Sn), .lst (ds.map (eE P0)), .lst (es.map (eE P0)), .lst (eStr ls)]) (e1 := ⟨[some (.loc n), some (eN wide), some (eN high), some (.lst (eStr H)), some (.lst (eStr Sn)), x5', some (.lst (eStr ls)), some (.lst (ds.map (eE P0))), some (.lst (es.map (eE P0))), some (.olst (es.map (ePr P0))), x10, x11, x12], m7⟩) ?_ ⟨⟨P, rfl, hdr⟩, c7.mono (by omega), by show m7.length = _; omega⟩
  have g3 : eFrz 7 ⟨[some (.loc n), some (eN wide), some (eN high), some (.lst (eStr H)), some (.lst (eStr Sn)), x5', some (.lst (eStr ls)), some (.olst (ds.map (eE P0))), some (.olst (es.map (eE P0))), some (.olst (es.map (ePr P0))), x10, x11, x12], m7⟩ = .ok (.lst (ds.map (eE P0))) ⟨[some (.loc n), some (eN wide), some (eN high), some (.lst (eStr H)), some (.lst (eStr Sn)), x5', some (.lst (eStr ls)), some (.lst (ds.map (eE P0))), some (.olst (es.map (eE P0))), some (.olst (es.map (ePr P0))), x10, x11, x12], m7⟩ := by
    simp only [eFrz, List.getElem?_cons_succ, List.getElem?_cons_zero, hfd, List.set_cons_succ, List.set_cons_zero]
  have g4 : eFrz 8 ⟨[some (.loc n), some (eN wide), some (eN high), some (.lst (eStr H)), some (.lst (eStr Sn)), x5', some (.lst (eStr ls)), some (.lst (ds.map (eE P0))), some (.olst (es.map (eE P0))), some (.olst (es.map (ePr P0))), x10, x11, x12], m7⟩ = .ok (.lst (es.map (eE P0))) ⟨[some (.loc n), some (eN wide), some (eN high), some (.lst (eStr H)), some (.lst (eStr Sn)), x5', some (.lst (eStr ls)), some (.lst (ds.map (eE P0))), some (.lst (es.map (eE P0))), some (.olst (es.map (ePr P0))), x10, x11, x12], m7⟩ := by
    simp only [eFrz, List.getElem?_cons_succ, List.getElem?_cons_zero, hfd, List.set_cons_succ, List.set_cons_zero]
  have hal := aCons_ok (f := eVar 3) (d := .lst (eStr H)) (e := ⟨[some (.loc n), some (eN wide), some (eN high), some (.lst (eStr H)), some (.lst (eStr Sn)), x5', some (.lst (eStr ls)), some (.olst (ds.map (eE P0))), some (.olst (es.map (eE P0))), some (.olst (es.map (ePr P0))), x10, x11, x12], m7⟩) rfl (aCons_ok (f := eVar 4) (d := .lst (eStr Sn)) rfl (aCons_ok g3 (aCons_ok g4 (aCons_ok (f := eVar 6) (g := aNil) (d := .lst (eStr ls)) rfl rfl))))
  show eLst _ ⟨[some (.loc n), some (eN wide), some (eN high), some (.lst (eStr H)), some (.lst (eStr Sn)), x5', some (.lst (eStr ls)), some (.olst (ds.map (eE P0))), some (.olst (es.map (eE P0))), some (.olst (es.map (ePr P0))), x10, x11, x12], m7⟩ = _
  simp only [eLst, hal, Rs.bind, mkLst, List.length_cons, List.length_nil, Nat.zero_add, Nat.reduceAdd, lim5, if_true, lift]
theorem cell_eq (ns : List Int) (hn : ns.length ≤ 63) (i : Nat) : ∃ s : Int, fn__law_cell [.rol (ns.map .int), eN i] = .ok (.int s) := by
  have key : ∃ d, runP 2 0 bd__law_cell [.rol (ns.map .int), eN i] = .ok d ∧ ∃ s : Int, d = .int s := by
    refine run_ret rfl ?_
    unfold bd__law_cell
    let S : En := ⟨[some (.rol (ns.map .int)), some (eN i)], []⟩
    refine wp_seq (wp_if (k := decide (i < ns.length)) (e1 := S) ?_ (fun hk => ?_) fun hk => wp_next ?_)
    · refine eTest_ok (bin_s (x := eN i) (y := .int (ns.length : Int)) rfl (un_ok (d := .rol (ns.map .int)) rfl (by simp [items?, dLen])) ?_)
      rw [dLt_int]
      congr 2
      simp
    · have hi : i < ns.length := by simpa using hk
      refine wp_ret (d := .int ns[i]) (e1 := S) (bin_s (x := .rol (ns.map .int)) (y := eN i) rfl rfl ?_) ⟨rfl, _, rfl⟩
      have : atI (ns.map D.int) (i : Int) = some (.int ns[i]) := atI_nat (by simp [hi])
      simp [orD, dIxA, dIx, items?, this]
    · exact wp_ret (d := .int 0) (e1 := S) rfl ⟨rfl, _, rfl⟩
  obtain ⟨d, h1, s, rfl⟩ := key
  exact ⟨s, h1⟩
theorem gen_eq (ns : List Int) (hn : ns.length ≤ 63) {i : Nat} (hi : i ≤ 100) : ∃ a b : Int, fn__law_generator [.rol (ns.map .int), eN i] = .ok (.olst [.int a, .int b, .int (1000 * (i : Int))]) ∧ 0 ≤ a ∧ 0 ≤ b ∧ b < 2147483647 := by
  obtain ⟨s, hs⟩ := cell_eq ns hn i
  have p1 : dPow (.int 10) (.int 18) = some (.int (10 ^ 18)) := by
    have : (0 : Int) ≤ 18 ∧ (Builtin.Int.intBits 10 : Int) * 18 ≤ 2 ^ 27 := by decide +kernel
    simp only [dPow, dInt, gPow, this, and_self, if_true, Option.map]
    rfl
  have p2 : dPow (.int 10) (.int 60) = some (.int (10 ^ 60)) := by
    have : (0 : Int) ≤ 60 ∧ (Builtin.Int.intBits 10 : Int) * 60 ≤ 2 ^ 27 := by decide +kernel
    simp only [dPow, dInt, gPow, this, and_self, if_true, Option.map]
    rfl
  have p3 : dPow (.int (10 ^ 60)) (.int 10) = some (.int ((10 ^ 60) ^ 10)) := by
    have : (0 : Int) ≤ 10 ∧ (Builtin.Int.intBits (10 ^ 60) : Int) * 10 ≤ 2 ^ 27 := by decide +kernel
    simp only [dPow, dInt, gPow, this, and_self, if_true, Option.map]
    rfl
  have hpos : (0 : Int) < (10 ^ 60) ^ 10 := by decide +kernel
  have q0 : ∃ m : Int, dMax2 (.int (s - 10 ^ 18)) (.int 0) = some (.int m) := ⟨_, rfl⟩
  obtain ⟨m, hm⟩ := q0
  have f1 := mod_ok m hpos
  have f2 := mod_ok s (j := 2147483647) (by omega)
  have f3 := mul_ok (i := 1000) (j := (i : Int)) (by omega) (by omega) (by omega) (by omega)
  refine ⟨m % (10 ^ 60) ^ 10, s % 2147483647, ?_, Int.emod_nonneg _ (by omega), Int.emod_nonneg _ (by omega), Int.emod_lt_of_pos _ (by omega)⟩
  refine run_eq rfl ?_
  unfold bd__law_generator
  let S : Option D → En := fun x => ⟨[some (.rol (ns.map .int)), some (eN i), x], []⟩
  refine wp_seq (wp_set (d := .int s) (e1 := S none) (fcall (ds := [.rol (ns.map .int), eN i]) rfl rfl hs rfl) ?_)
  refine wp_ret (e1 := S (some (.int s))) ?_ ⟨rfl, rfl⟩
  simp! only [S, p1, p2, p3, hm, toI, f1, f2, f3]
theorem book_call {P : Pt} (ok : P.Ok) : fn__law_book [eP P] = .ok (eBk P) := by
  refine run_eq rfl ?_
  unfold bd__law_book
  let S : En := ⟨[some (eP P)], []⟩
  have hl : ∀ xs : List D, xs.all isF = true → ∀ {k : Int}, dIxA (eP P) (.int k) = some (.lst xs) → frzE (un dList (bin dIxA (eVar 0) (eC (.int k)))) S = .ok (.lst xs) S := by
    intro xs hx k hk
    refine frzE_ok (d := .olst xs) (un_ok (d := .lst xs) (bin_s (x := eP P) (y := .int k) rfl rfl hk) rfl) ?_
    simp only [frzD, isF_olst, hx, if_true]
    rfl
  have fi : ∀ {j : Nat} {d : D}, ([.lst (eStr P.H), .lst (eStr P.S), .lst (P.ds.map (eE P)), .lst (P.es.map (eE P)), .lst (eStr P.ls)] : List D)[j]? = some d → isF d = true → dIxA (eP P) (.int (j : Int)) = some d := fun h1 h2 => dIxA_lst h1 h2
  refine wp_ret (d := eBk P) (e1 := S) (ocall (ds := [.lst (eStr P.H), .lst (eStr P.S), .lst (P.ds.map (eE P)), .lst (P.es.map (eE P)), .lst (eStr P.ls)]) ?_ rfl (book_eq ok)) ⟨rfl, rfl⟩
  refine aCons_ok (hl _ (isF_eStr _) (fi (j := 0) rfl rfl)) (aCons_ok (hl _ (isF_eStr _) (fi (j := 1) rfl rfl)) (aCons_ok (hl _ (eE_all P P.ds) (fi (j := 2) rfl rfl)) (aCons_ok (hl _ (eE_all P P.es) (fi (j := 3) rfl rfl)) (aCons_ok (hl _ (isF_eStr _) (fi (j := 4) rfl rfl)) rfl))))
theorem nl_map {α : Type} (f : α → D) (h : ∀ a, noLoc (f a) = true) : ∀ l : List α, noLocL (l.map f) = true
  | [] => rfl
  | a :: l => by simp only [List.map_cons, noLocL, h, nl_map f h l, Bool.and_self]
theorem nl_str (l : List Str) : noLocL (eStr l) = true := nl_map D.str (fun _ => rfl) l
theorem nl_eO (o) : noLoc (eO o) = true := by cases o <;> rfl
theorem nl_eE (P e) : noLoc (eE P e) = true := by simp [eE, noLoc, noLocL, nl_eO]
theorem nl_eP (P : Pt) : noLoc (eP P) = true := by
  simp only [eP, noLoc, noLocL, nl_str, nl_map (eE P) (nl_eE P), Bool.and_self]
theorem nl_eKn (P : Pt) : ∀ l : List Ent, noLocK (eKn P l) = true
  | [] => rfl
  | e :: l => by
    have := nl_eKn P l
    simp only [eKn, List.map_cons, noLocK, noLoc, noLocL, nl_eO, Bool.and_self, Bool.true_and] at this ⊢
    exact this
theorem nl_eBk (P : Pt) : noLoc (eBk P) = true := by
  simp only [eBk, noLoc, noLocL, nl_str, nl_map (eE P) (nl_eE P), nl_eKn, Bool.and_self]
theorem pcall {p : PF} {ar : LM} {e : En} {ds : List D} {d : D} (h : ar e = .ok ds e) (hm : noLocL ds = true) (k : p ds = .ok d) : eCall (pureF p) ar e = .ok d e := call_ok (e1 := e) h (.inr hm) k
theorem pfcall {p : PF} {ar : LM} {e : En} {ds : List D} {r d : D} (h : ar e = .ok ds e) (hm : noLocL ds = true) (k : p ds = .ok r) (hr : frzT r = some d) : frzA (eCall (pureF p) ar) e = .ok d e := frzA_ok (pcall h hm k) hr
section
variable {e e1 : En} {c : Nat} {x : Option D}
theorem x_seq {f g : SM} (h : f e = .exc c x e1) : seqS f g e = .exc c x e1 := by simp only [seqS, h]
theorem wp_nx {s : SM} {Q : En → Prop} {R : D → En → Prop} (h : s e = .nx e1) (q : Q e1) : Wp s e Q R := by
  unfold Wp
  rw [h]
  exact q
theorem x_expr {f : EM} (h : f e = .exc c x e1) : sExpr f e = .exc c x e1 := by simp only [sExpr, h, ofE]
theorem s_if {t : TM} {a b : SM} {k : Bool} {r : So} (h : t e = .ok k e1) (ha : (if k = true then a e1 else b e1) = r) : sIf t a b e = r := by simp only [sIf, h, ofE, ha]
theorem x_raise {f : EM} {d : D} (h : f e = .ok d e1) : sRaise c f e = .exc c (some d) e1 := by simp only [sRaise, h, ofE]
theorem x_run {m n : Nat} {bd : SM} {ds : List D} {sl : List (Option D)} (hl : ds.length = m) (h : bd ⟨ds.map some ++ List.replicate n none, []⟩ = .exc c x ⟨sl, []⟩) : runP m n bd ds = .exc c x := by
  unfold runP
  rw [if_pos hl, h]
  rfl
theorem x_call {p : PF} {ar : LM} {ds : List D} (h1 : ar e = .ok ds e) (hm : e.mu = []) (k : p ds = .exc c x) : frzA (eCallX (pureF p) ar) e = .exc c x e := by
  obtain ⟨sl, mu⟩ := e
  cases hm
  simp only [frzA, eCallX, h1, Rs.bind, callX, pureF, k, toRo]
end
section
variable {P : Pt}
theorem bookX_bad {v : D} (hF : isF v = true) (h : dIsC 0 v = some (.bl false)) : fn_check_bookX [v] = .exc 3 (some v) := by
  refine x_run (sl := [some v]) rfl ?_
  unfold bd_check_bookX
  have g0 : eVar 0 ⟨[some v], []⟩ = .ok v ⟨[some v], []⟩ := by simp [eVar, hF]
  exact s_if (k := true) (tNot_ok (k := false) (eTest_ok (un_ok g0 h))) (x_raise g0)
end
open PySem L2 TL
def sp1 (s : Nat) (l : List Nat) : List (List Nat) := spl [s] 0 [] l
theorem pre1 (s c : Nat) (r : List Nat) : pre [s] (c :: r) = (c == s) := by
  show ((c :: r).take 1 == [s]) = _
  simp
theorem spl_app {s : Nat} : ∀ (A acc B : List Nat), spl [s] 0 acc (A ++ s :: B) = spl [s] 0 acc A ++ sp1 s B
  | [], acc, B => by
    rw [List.nil_append, spl_hit (by rw [pre1]; simp), spl_nil]
    rfl
  | c :: A, acc, B => by
    by_cases h : c = s
    · rw [List.cons_append, spl_hit (by rw [pre1]; simp [h]), spl_hit (by rw [pre1]; simp [h])]
      show acc :: spl [s] 0 [] (A ++ s :: B) = acc :: spl [s] 0 [] A ++ sp1 s B
      rw [spl_app A [] B]
      rfl
    · have hp : ∀ r, pre [s] (c :: r) = false := fun r => by rw [pre1]; simp [h]
      rw [List.cons_append, spl_miss (hp _), spl_miss (hp _), spl_app A _ B]
theorem sp1_app (s : Nat) (A B : List Nat) : sp1 s (A ++ s :: B) = sp1 s A ++ sp1 s B := spl_app A [] B
theorem sp1_nil (s : Nat) : sp1 s [] = [[]] := spl_nil _ _ _
theorem sp1_free {s : Nat} {p : List Nat} (h : s ∉ p) : sp1 s p = [p] := by
  have := spl_last1 (S := []) (acc := []) h
  simpa [sp1] using this
theorem spl_mem {s : Nat} : ∀ (l acc : List Nat) (p : List Nat), p ∈ spl [s] 0 acc l → ∀ c ∈ p, c ∈ acc ∨ c ∈ l
  | [], acc, p, h, c, hc => by
    rw [spl_nil, List.mem_singleton] at h
    subst h
    exact .inl hc
  | a :: l, acc, p, h, c, hc => by
    by_cases e : a = s
    · rw [spl_hit (by rw [pre1]; simp [e])] at h
      rcases List.mem_cons.mp h with rfl | h
      · exact .inl hc
      · rcases spl_mem l [] p h c hc with q | q
        · cases q
        · exact .inr (List.mem_cons_of_mem _ q)
    · rw [spl_miss (by rw [pre1]; simp [e])] at h
      rcases spl_mem l _ p h c hc with q | q
      · rcases List.mem_append.mp q with q | q
        · exact .inl q
        · rw [List.mem_singleton.mp q]; exact .inr (List.mem_cons_self ..)
      · exact .inr (List.mem_cons_of_mem _ q)
theorem spl_len {s : Nat} : ∀ (l acc : List Nat), (spl [s] 0 acc l).length ≤ l.length + 1
  | [], acc => by rw [spl_nil]; simp
  | a :: l, acc => by
    by_cases e : a = s
    · rw [spl_hit (by rw [pre1]; simp [e])]
      have := spl_len (s := s) l []
      simp only [List.length_cons]
      exact Nat.succ_le_succ this
    · rw [spl_miss (by rw [pre1]; simp [e])]
      have := spl_len (s := s) l (acc ++ [a])
      simp only [List.length_cons]
      omega
def tk (l : List Nat) : List (List Nat) := (sp1 32 l).filter fun p => !p.isEmpty
theorem tk_app (A B : List Nat) : tk (A ++ 32 :: B) = tk A ++ tk B := by
  unfold tk
  rw [sp1_app, List.filter_append]
theorem tk_nil : tk [] = [] := rfl
theorem tk_word {p : List Nat} (h : 32 ∉ p) (hn : p ≠ []) : tk p = [p] := by
  unfold tk
  rw [sp1_free h]
  cases p with
  | nil => exact absurd rfl hn
  | cons a r => rfl
theorem tk_sp (A : List Nat) : ∀ k : Nat, tk (A ++ List.replicate k 32) = tk A
  | 0 => by simp
  | k + 1 => by
    rw [List.replicate_succ, tk_app]
    have := tk_sp [] k
    rw [List.nil_append] at this
    rw [this, tk_nil, List.append_nil]
theorem sp_tk (k : Nat) (A : List Nat) : tk (List.replicate k 32 ++ A) = tk A := by
  induction k with
  | zero => simp
  | succ k ih =>
    have : List.replicate (k + 1) 32 ++ A = [] ++ 32 :: (List.replicate k 32 ++ A) := by rw [List.replicate_succ]; rfl
    rw [this, tk_app, tk_nil, List.nil_append, ih]
def Clr (l : List Nat) : Prop := l = [] ∨ ∃ A, l = A ++ [32]
theorem tk_put {l p : List Nat} (hl : Clr l) (h : 32 ∉ p) (hn : p ≠ []) (k : Nat) : tk (l ++ p ++ List.replicate k 32) = tk l ++ [p] := by
  rw [tk_sp]
  rcases hl with rfl | ⟨A, rfl⟩
  · rw [List.nil_append, tk_word h hn, tk_nil]; rfl
  · rw [show A ++ [32] ++ p = A ++ 32 :: p from by simp, tk_app, tk_word h hn]
    have := tk_sp A 1
    rw [show List.replicate 1 32 = [32] from rfl] at this
    rw [this]
theorem clr_put (l : List Nat) (k : Nat) (hk : 1 ≤ k) : Clr (l ++ List.replicate k 32) := by
  obtain ⟨j, rfl⟩ : ∃ j, k = j + 1 := ⟨k - 1, by omega⟩
  exact .inr ⟨l ++ List.replicate j 32, by rw [List.replicate_succ']; simp⟩
theorem clr_sp : ∀ k : Nat, Clr (List.replicate k 32)
  | 0 => .inl rfl
  | k + 1 => by have := clr_put [] (k + 1) (by omega); simpa using this
theorem tk_join : ∀ {ps : List (List Nat)}, (∀ p ∈ ps, 32 ∉ p ∧ p ≠ []) → tk (joinL [32] ps) = ps
  | [], _ => rfl
  | [p], h => tk_word (h p (List.mem_singleton.mpr rfl)).1 (h p (List.mem_singleton.mpr rfl)).2
  | p :: q :: r, h => by
    show tk (p ++ ([32] ++ joinL [32] (q :: r))) = _
    rw [show [32] ++ joinL [32] (q :: r) = 32 :: joinL [32] (q :: r) from rfl, tk_app, tk_join fun x hx => h x (List.mem_cons_of_mem _ hx), tk_word (h p (List.mem_cons_self ..)).1 (h p (List.mem_cons_self ..)).2]
    rfl
theorem tl_nil {x : Str} : tl x = [] ↔ x = ("" : Str) := ⟨fun h => ext_tl (h.trans rfl), fun h => by rw [h]; rfl⟩
theorem split_tl (x : Str) {y : Str} {s : Nat} (hy : tl y = [s]) (hk : y.cps.all (· < 256) = true) : (Txt.split x y).map tl = sp1 s (tl x) := by
  rw [split_spl x y (by rw [hy]; simp) (kind_ok hk), hy]
  rfl
theorem ok_tl (x : Str) : PyData.strOk x = true ↔ ∀ c ∈ tl x, c < 0x110000 := by
  unfold PyData.strOk tl
  rw [Array.all_eq_true']
  simp
theorem split_len (x : Str) {y : Str} {s : Nat} (hy : tl y = [s]) (hk : y.cps.all (· < 256) = true) : (Txt.split x y).length ≤ x.length + 1 := by
  have := congrArg List.length (split_tl x hy hk)
  rw [List.length_map] at this
  rw [this, len_tl]
  exact spl_len _ _
theorem split_ok {x : Str} {y : Str} {s : Nat} (hy : tl y = [s]) (hk : y.cps.all (· < 256) = true) (hx : PyData.strOk x = true) : (Txt.split x y).all PyData.strOk = true := by
  rw [List.all_eq_true]
  intro p hp
  rw [ok_tl] at hx ⊢
  intro c hc
  have h1 : tl p ∈ sp1 s (tl x) := by rw [← split_tl x hy hk]; exact List.mem_map.mpr ⟨p, hp, rfl⟩
  rcases spl_mem _ _ _ h1 c hc with h | h
  · cases h
  · exact hx c h
def wds (l : Str) : List Str := (Txt.split l " ").filter fun p => !(p == ("" : Str))
theorem isE_tl (p : Str) : (!(p == ("" : Str))) = !(tl p).isEmpty := by
  congr 1
  rw [Bool.eq_iff_iff, beq_iff_eq, List.isEmpty_iff, tl_nil]
theorem wds_tl (l : Str) : (wds l).map tl = tk (tl l) := by
  unfold wds tk
  rw [← split_tl l (y := " ") (s := 32) rfl (by decide +kernel), List.filter_map, show (fun p : Str => !(p == ("" : Str))) = (fun p : List Nat => !p.isEmpty) ∘ tl from funext isE_tl]
theorem wds_eq {l : Str} {ws : List Str} (h : tk (tl l) = ws.map tl) : wds l = ws := map_tl_inj ((wds_tl l).trans h)
theorem rev_all {l : List Nat} {s : Nat} (h : ∀ c ∈ l, c = s) : l = List.replicate l.length s := List.eq_replicate_iff.mpr ⟨rfl, h⟩
theorem rstrip_tl (x : Str) : ∃ k : Nat, tl x = tl (Txt.rstripChars x " ") ++ List.replicate k 32 := by
  unfold Txt.rstripChars
  rw [PyProof.Rows.stripBy_eq, tl_strSub]
  have e0 : stripLo (" " : Str).cps.contains false x = 0 := rfl
  rw [e0]
  have e1 : stripHi (" " : Str).cps.contains true x 0 = x.length - (((tl x).drop 0).reverse.takeWhile (" " : Str).cps.contains).length := rfl
  rw [e1, List.drop_zero, Nat.sub_zero]
  obtain ⟨r, hr⟩ : ∃ r, r = (tl x).reverse.takeWhile (" " : Str).cps.contains := ⟨_, rfl⟩
  rw [← hr]
  have hall : ∀ c ∈ r, c = 32 := fun c hc => by
    rw [hr] at hc
    have := List.all_eq_true.mp (List.all_takeWhile (l := (tl x).reverse) (p := (" " : Str).cps.contains)) c hc
    have e : (" " : Str).cps = #[32] := rfl
    rw [e] at this
    simpa using this
  have hd : (tl x).reverse = r ++ (tl x).reverse.dropWhile (" " : Str).cps.contains := by rw [hr, List.takeWhile_append_dropWhile]
  have hx : tl x = ((tl x).reverse.dropWhile (" " : Str).cps.contains).reverse ++ r.reverse := by
    have := congrArg List.reverse hd
    rw [List.reverse_reverse, List.reverse_append] at this
    exact this
  obtain ⟨d, hdd⟩ : ∃ d, d = ((tl x).reverse.dropWhile (" " : Str).cps.contains).reverse := ⟨_, rfl⟩
  rw [← hdd] at hx
  refine ⟨r.length, ?_⟩
  have hl : x.length = d.length + r.length := by rw [len_tl, hx]; simp
  rw [hl, hx]
  have hrr : r.reverse = List.replicate r.length 32 := by
    have := rev_all (l := r.reverse) (s := 32) fun c hc => hall c (List.mem_reverse.mp hc)
    rw [List.length_reverse] at this
    exact this
  rw [hrr]
  congr 1
  rw [Nat.add_sub_cancel, List.take_left]
theorem mul_sp (k : Nat) : tl (Txt.mul " " (k : Int)) = List.replicate k 32 := by
  unfold Txt.mul
  by_cases h1 : (k : Int) < 1
  · rw [if_pos h1]
    have : k = 0 := by omega
    subst this
    rfl
  · rw [if_neg h1]
    by_cases h2 : ((k : Int) == 1 || (" " : Str).length == 0) = true
    · rw [if_pos h2]
      have : k = 1 := by
        have h3 : (" " : Str).length = 1 := rfl
        rw [h3] at h2
        simp at h2
        omega
      subst this
      rfl
    · rw [if_neg h2]
      show ((List.replicate (k : Int).toNat (" " : Str).cps).foldl (· ++ ·) #[]).toList = _
      rw [Int.toNat_natCast]
      have : ∀ (n : Nat) (a : Array Nat), ((List.replicate n (" " : Str).cps).foldl (· ++ ·) a).toList = a.toList ++ List.replicate n 32 := by
        intro n
        induction n with
        | zero => intro a; simp
        | succ n ih =>
          intro a
          rw [List.replicate_succ, List.foldl_cons, ih, Array.toList_append, List.append_assoc, List.replicate_succ]
          rfl
      rw [this]
      rfl
open PySem L2 TL
structure Tok (x : Str) : Prop where
  n : tl x ≠ []
  b : 32 ∉ tl x
  l : 10 ∉ tl x
  o : PyData.strOk x = true
  s : x.length ≤ 8
def tokB (x : Str) : Bool := !(tl x).isEmpty && ((tl x).all (fun c => c != 32 && (c != 10 && decide (c < 0x110000))) && decide (x.length ≤ 8))
theorem tokB_ok {x : Str} (h : tokB x = true) : Tok x := by
  unfold tokB at h
  simp only [Bool.and_eq_true, Bool.not_eq_true', List.isEmpty_eq_false_iff, List.all_eq_true, bne_iff_ne, ne_eq, decide_eq_true_eq] at h
  obtain ⟨h1, h2, h3⟩ := h
  exact ⟨h1, fun z => (h2 _ z).1 rfl, fun z => (h2 _ z).2.1 rfl, (ok_tl x).mpr fun c hc => (h2 c hc).2.2, h3⟩
structure Lns (L : List (List Str)) : Prop where
  n : ∀ l ∈ L, l ≠ [] ∧ l.length ≤ 6
  t : ∀ l ∈ L, ∀ t ∈ l, Tok t
  s : L.length ≤ 30
def Sp (T : Str) (L : List (List Str)) : Prop := ((Txt.split T "\n").map wds).filter (fun l => !l.isEmpty) = L
theorem mem_joinL {S : List Nat} : ∀ {ps : List (List Nat)} {c : Nat}, c ∈ joinL S ps → c ∈ S ∨ ∃ p ∈ ps, c ∈ p
  | [p], c, h => .inr ⟨p, List.mem_singleton.mpr rfl, h⟩
  | p :: q :: r, c, h => by
    have h : c ∈ p ++ (S ++ joinL S (q :: r)) := h
    rcases List.mem_append.mp h with h | h
    · exact .inr ⟨p, List.mem_cons_self .., h⟩
    · rcases List.mem_append.mp h with h | h
      · exact .inl h
      · rcases mem_joinL h with h | ⟨x, hx, hc⟩
        · exact .inl h
        · exact .inr ⟨x, List.mem_cons_of_mem _ hx, hc⟩
theorem tlj (y : Str) (ps : List Str) : tl (Txt.join y ps) = joinL (tl y) (ps.map tl) := by rw [join_eq, tl_join]
theorem joinT_ok {y : Str} {ps : List Str} (hy : PyData.strOk y = true) (h : ∀ p ∈ ps, PyData.strOk p = true) : PyData.strOk (Txt.join y ps) = true := by
  rw [ok_tl, tlj]
  intro c hc
  rcases mem_joinL hc with z | ⟨p, hp, z⟩
  · exact (ok_tl y).mp hy c z
  · obtain ⟨q, hq, rfl⟩ := List.mem_map.mp hp
    exact (ok_tl q).mp (h q hq) c z
theorem join_len (y : Str) (ps : List Str) : (Txt.join y ps).length ≤ (ps.map Str.length).sum + ps.length * y.length := by
  rw [join_eq]
  exact StrLaws.join_length_le y ps
theorem sum_le {α : Type} (f : α → Nat) (k : Nat) : ∀ {l : List α}, (∀ a ∈ l, f a ≤ k) → (l.map f).sum ≤ l.length * k
  | [], _ => Nat.zero_le _
  | a :: l, h => by
    have h1 := h a (List.mem_cons_self ..)
    have h2 := sum_le f k fun b hb => h b (List.mem_cons_of_mem _ hb)
    simp only [List.map_cons, List.sum_cons, List.length_cons, Nat.succ_mul]
    omega
def lnT (l : List Str) : Str := Txt.join " " l
theorem ln_tl (l : List Str) : tl (lnT l) = joinL [32] (l.map tl) := tlj " " l
theorem ln_wds {l : List Str} (h : ∀ t ∈ l, Tok t) : wds (lnT l) = l := by
  refine wds_eq ?_
  rw [ln_tl]
  refine tk_join fun p hp => ?_
  obtain ⟨t, ht, rfl⟩ := List.mem_map.mp hp
  exact ⟨(h t ht).b, (h t ht).n⟩
theorem ln_free {l : List Str} (h : ∀ t ∈ l, Tok t) : 10 ∉ tl (lnT l) := by
  rw [ln_tl]
  intro hc
  rcases mem_joinL hc with z | ⟨p, hp, z⟩
  · simp at z
  · obtain ⟨t, ht, rfl⟩ := List.mem_map.mp hp
    exact (h t ht).l z
theorem ln_ok {l : List Str} (h : ∀ t ∈ l, Tok t) : PyData.strOk (lnT l) = true := joinT_ok (by decide +kernel) fun t ht => (h t ht).o
theorem ln_sum {l : List Str} (h : ∀ t ∈ l, Tok t) (hl : l.length ≤ 6) : (l.map Str.length).sum + l.length * (" " : Str).length ≤ 54 := by
  have := sum_le Str.length 8 fun t ht => (h t ht).s
  have e : (" " : Str).length = 1 := rfl
  rw [e, Nat.mul_one]
  omega
theorem ln_len {l : List Str} (h : ∀ t ∈ l, Tok t) (hl : l.length ≤ 6) : (lnT l).length ≤ 54 := Nat.le_trans (join_len _ _) (ln_sum h hl)
def dueT (L : List (List Str)) : Str := Txt.join "\n" (L.map lnT)
theorem filt_ne {L : List (List Str)} (h : ∀ l ∈ L, l ≠ []) : L.filter (fun l => !l.isEmpty) = L := List.filter_eq_self.mpr fun l hl => by
  have := h l hl
  cases l with
  | nil => exact absurd rfl this
  | cons _ _ => rfl
theorem map_ln {L : List (List Str)} (h : Lns L) : (L.map lnT).map wds = L := by
  rw [List.map_map]
  conv => rhs; rw [← List.map_id L]
  exact List.map_congr_left fun l hl => ln_wds (h.t l hl)
theorem split_due {L : List (List Str)} (h : Lns L) (hn : L ≠ []) : Txt.split (dueT L) "\n" = L.map lnT :=
  split_join (y := "\n") (s := 10) (S := []) rfl (by decide +kernel) (by simpa using hn) fun p hp => by
    obtain ⟨l, hl, rfl⟩ := List.mem_map.mp hp
    exact ln_free (h.t l hl)
theorem sp_due {L : List (List Str)} (h : Lns L) (hn : L ≠ []) : Sp (dueT L) L := by
  unfold Sp
  rw [split_due h hn, map_ln h, filt_ne fun l hl => (h.n l hl).1]
theorem sp_due2 {L : List (List Str)} (h : Lns L) (hn : L ≠ []) : Sp (dueT L ++ "\n") L := by
  have e1 : (Txt.split (dueT L ++ "\n") "\n").map tl = (L.map lnT ++ [("" : Str)]).map tl := by
    rw [split_tl _ (y := "\n") (s := 10) rfl (by decide +kernel), tl_append]
    have : tl (dueT L) ++ tl "\n" = tl (dueT L) ++ 10 :: [] := rfl
    rw [this, sp1_app, sp1_nil, ← split_tl _ (y := "\n") (s := 10) rfl (by decide +kernel), split_due h hn, List.map_append]
    rfl
  have e2 := map_tl_inj e1
  unfold Sp
  rw [e2, List.map_append, map_ln h, List.filter_append, filt_ne fun l hl => (h.n l hl).1]
  have : wds ("" : Str) = [] := wds_eq (by rw [show tl ("" : Str) = [] from rfl, tk_nil]; rfl)
  simp [this]
theorem due_sum {L : List (List Str)} (h : Lns L) : ((L.map lnT).map Str.length).sum + (L.map lnT).length * ("\n" : Str).length ≤ 1650 := by
  have := sum_le Str.length 54 (l := L.map lnT) fun t ht => by
    obtain ⟨l, hl, rfl⟩ := List.mem_map.mp ht
    exact ln_len (h.t l hl) (h.n l hl).2
  have e : ("\n" : Str).length = 1 := rfl
  have := h.s
  rw [e, Nat.mul_one]
  rw [List.length_map] at *
  omega
theorem due_len {L : List (List Str)} (h : Lns L) : (dueT L).length ≤ 1650 := Nat.le_trans (join_len _ _) (due_sum h)
theorem due_ok {L : List (List Str)} (h : Lns L) : PyData.strOk (dueT L) = true := joinT_ok (by decide +kernel) fun p hp => by
  obtain ⟨l, hl, rfl⟩ := List.mem_map.mp hp
  exact ln_ok (h.t l hl)
def rwE (h : Str) (P : Pt) (e : Ent) : List Str := [h, P.nm e.bh e.pl, (e.sn).getD "_", P.nm e.bh e.ot]
def lin (P : Pt) : List (List Str) := [("houses" : Str) :: P.H, ("stands" : Str) :: P.S] ++ (P.ds.map (rwE "deed" P) ++ (P.es.map (rwE "hear" P) ++ (if P.ls = [] then [] else [("lost" : Str) :: P.ls])))
structure Wd1 (P : Pt) : Prop where
  n : ∀ x ∈ P.H ++ P.S ++ P.ls, Tok x
  d : ∀ e ∈ P.ds, ∀ x, e.sn = some x → Tok x ∧ x ≠ "_"
  e : ∀ e ∈ P.es, ∃ x, e.sn = some x ∧ Tok x
theorem tok_nm {P : Pt} (w : Wd1 P) {b : Bool} {i : Nat} (h : i < P.n b) : Tok (P.nm b i) := by
  have := List.mem_of_getElem? (nm_get h)
  cases b
  · exact w.n _ (List.mem_append_left _ (List.mem_append_right _ this))
  · exact w.n _ (List.mem_append_left _ (List.mem_append_left _ this))
theorem tok_us : Tok "_" := tokB_ok (by decide +kernel)
theorem tok_hd : ∀ h ∈ [("houses" : Str), "stands", "deed", "hear", "lost"], Tok h := fun h hh => tokB_ok (by
  have : ∀ h ∈ [("houses" : Str), "stands", "deed", "hear", "lost"], tokB h = true := by decide +kernel
  exact this h hh)
theorem lin_ok {P : Pt} (ok : P.Ok) (w : Wd1 P) : Lns (lin P) := by
  have h3 := ok.h3; have s4 := ok.s4; have l4 := ok.l4; have d10 := ok.d10; have e12 := ok.e12
  have key : ∀ l ∈ lin P, (l ≠ [] ∧ l.length ≤ 6) ∧ ∀ t ∈ l, Tok t := by
    intro l hl
    unfold lin at hl
    simp only [List.mem_append, List.mem_cons, List.not_mem_nil, or_false, List.mem_map] at hl
    rcases hl with (rfl | rfl) | ⟨e, he, rfl⟩ | ⟨e, he, rfl⟩ | hl
    · refine ⟨⟨by simp, by simp; omega⟩, fun t ht => ?_⟩
      rcases List.mem_cons.mp ht with rfl | ht
      · exact tok_hd _ (by simp)
      · exact w.n t (List.mem_append_left _ (List.mem_append_left _ ht))
    · refine ⟨⟨by simp, by simp; omega⟩, fun t ht => ?_⟩
      rcases List.mem_cons.mp ht with rfl | ht
      · exact tok_hd _ (by simp)
      · exact w.n t (List.mem_append_left _ (List.mem_append_right _ ht))
    · refine ⟨⟨by simp [rwE], by simp [rwE]⟩, fun t ht => ?_⟩
      obtain ⟨o1, o2⟩ := (ok.ds e he).1
      simp only [rwE, List.mem_cons, List.not_mem_nil, or_false] at ht
      rcases ht with rfl | rfl | rfl | rfl
      · exact tok_hd _ (by simp)
      · exact tok_nm w o1
      · cases hs : e.sn with
        | none => exact tok_us
        | some x => exact (w.d e he x hs).1
      · exact tok_nm w o2
    · refine ⟨⟨by simp [rwE], by simp [rwE]⟩, fun t ht => ?_⟩
      obtain ⟨o1, o2⟩ := (ok.es e he).1
      obtain ⟨x, hx, tx⟩ := w.e e he
      simp only [rwE, List.mem_cons, List.not_mem_nil, or_false] at ht
      rcases ht with rfl | rfl | rfl | rfl
      · exact tok_hd _ (by simp)
      · exact tok_nm w o1
      · rw [hx]; exact tx
      · exact tok_nm w o2
    · split at hl
      · cases hl
      · rw [List.mem_singleton.mp hl]
        refine ⟨⟨by simp, by simp; omega⟩, fun t ht => ?_⟩
        rcases List.mem_cons.mp ht with rfl | ht
        · exact tok_hd _ (by simp)
        · exact w.n t (List.mem_append_right _ ht)
  refine ⟨fun l hl => (key l hl).1, fun l hl => (key l hl).2, ?_⟩
  unfold lin
  simp only [List.length_append, List.length_map, List.length_cons, List.length_nil]
  have : (if P.ls = [] then [] else [("lost" : Str) :: P.ls]).length ≤ 1 := by split <;> simp
  omega
theorem lin_ne (P : Pt) : lin P ≠ [] := by simp [lin]
open PySem L2 TL
theorem lst_ok {ar : LM} {e e1 : En} {ds : List D} (h : ar e = .ok ds e1) (hl : ds.length ≤ LIM) : eLst ar e = .ok (.olst ds) e1 := by
  simp only [eLst, h, Rs.bind, mkLst, hl, if_true, lift]
theorem sl_lst (xs : List D) (l h : Option Int) : dSlA (.lst xs) l h = some (.olst (cutD xs l h)) := rfl
def eLn (l : List Str) : D := .lst (eStr l)
theorem gT3 (i j k : Nat) (a b : Str) (o : Option Str) (e : En) : gT 3 (gsCons (gN i) (gsCons (gN j) (gsCons (gN k) gsNil))) (.tup [.str a, eO o, .str b]) e = some ⟨((e.sl.set i (some (.str a))).set j (some (eO o))).set k (some (.str b)), e.mu⟩ := by
  cases o <;> rfl
theorem var_eO {i : Nat} {sl : List (Option D)} {mu : Mu} {o : Option Str} (h : sl[i]? = some (some (eO o))) : eVar i ⟨sl, mu⟩ = .ok (eO o) ⟨sl, mu⟩ := by
  cases o <;> simp [eVar, h, eO, isF]
theorem if_us {i : Nat} {sl : List (Option D)} {mu : Mu} {o : Option Str} (h : sl[i]? = some (some (eO o))) : eIf (eTest (bin dIsN (eVar i) (eC .non))) (eC (.str "_")) (eVar i) ⟨sl, mu⟩ = .ok (.str (o.getD "_")) ⟨sl, mu⟩ := by
  have e3 := var_eO (mu := mu) h
  cases o with
  | none => exact eIf_t (eTest_ok (bin_s (x := .non) (y := .non) e3 rfl rfl)) rfl
  | some x => exact eIf_f (eTest_ok (bin_s (x := .str x) (y := .non) e3 rfl rfl)) e3
theorem dJoin_ok {y : Str} {ps : List Str} (h : (ps.map Str.length).sum + ps.length * y.length ≤ LIM) (ho : PyData.strOk (Txt.join y ps) = true) : dJoin (.str y) (.lst (eStr ps)) = some (.str (Txt.join y ps)) := by
  show (strL? (eStr ps)).bind _ = _
  rw [show strL? (eStr ps) = some ps from strL_map ps]
  simp only [Option.bind_some]
  rw [if_pos ⟨h, ho⟩]
theorem join_ln {l : List Str} (h : ∀ t ∈ l, Tok t) (hl : l.length ≤ 6) : dJoin (.str " ") (eLn l) = some (.str (lnT l)) :=
  dJoin_ok (Nat.le_trans (ln_sum h hl) (by unfold LIM; omega)) (ln_ok h)
theorem join_due {L : List (List Str)} (h : Lns L) : dJoin (.str "\n") (.lst (eStr (L.map lnT))) = some (.str (dueT L)) :=
  dJoin_ok (Nat.le_trans (due_sum h) (by unfold LIM; omega)) (due_ok h)
theorem lns_map (f : Ent → List Str) (l : List Ent) : (l.map f).map eLn = l.map fun e => eLn (f e) := by rw [List.map_map]; rfl
theorem catStr (x : Str) (l : List Str) (hl : l.length ≤ 100) : dAddA (.lst [.str x]) (.lst (eStr l)) = some (.olst (eStr (x :: l))) := by
  rw [dAddA_lst (by simp [eStr]; unfold LIM; omega)]
  rfl
theorem lnN {L : List (List Str)} {k : Nat} (h : L.length + k ≤ 100) : (L.map eLn).length + k ≤ LIM := by
  rw [List.length_map]; exact Nat.le_trans h (by unfold LIM; omega)
theorem lnL {L : List (List Str)} (h : L.length ≤ 99) : (L.map eLn).length < LIM := lnN (k := 1) (by omega)
theorem lnM {α : Type} (f : Ent → α) (l : List Ent) {L : List (List Str)} (h : L.length + l.length ≤ 100) : (L.map eLn).length + (l.map f).length ≤ LIM := by
  rw [List.length_map (as := l)]; exact lnN h
theorem len2 (a b : List Str) (f : Ent → List Str) (p : List Ent) : ([a, b] ++ p.map f).length = p.length + 2 := by simp
theorem len3 (a b : List Str) (f g : Ent → List Str) (p q : List Ent) : ([a, b] ++ p.map f ++ q.map g).length = p.length + q.length + 2 := by simp [Nat.add_comm, Nat.add_left_comm]
theorem lst4 (a b c d : Str) : (eStr [a, b, c, d]).length ≤ LIM := by
  show 4 ≤ 1000000
  omega
theorem lst2 (a b : D) : [a, b].length ≤ LIM := by
  show 2 ≤ 1000000
  omega
theorem isF_eLn (L : List (List Str)) : (L.map eLn).all isF = true := by
  rw [List.all_map, List.all_eq_true]
  exact fun _ _ => rfl
theorem addLn {A B : List (List Str)} (h : A.length + B.length ≤ 100) : dAddA (.olst (A.map eLn)) (.lst (B.map eLn)) = some (.olst ((A ++ B).map eLn)) := by
  have hc : (A.map eLn).length + (B.map eLn).length ≤ LIM := by rw [List.length_map (as := B)]; exact lnN h
  have h1 : litems? (.olst (A.map eLn)) = some (A.map eLn) := by
    show (if (A.map eLn).all isF then _ else _) = _
    rw [if_pos (isF_eLn _)]
  have h2 : litems? (.lst (B.map eLn)) = some (B.map eLn) := rfl
  have h3 : dCatL (.olst (A.map eLn)) (.lst (B.map eLn)) = some (.olst ((A ++ B).map eLn)) := by
    unfold dCatL
    rw [h1, h2, List.map_append]
    simp only [Option.bind_some, hc, if_true]
  simp only [dAddA, orD, h3]
  rfl
theorem lines_eq {P : Pt} (ok : P.Ok) : fn__law_lines [eP P] = .ok (.olst ((lin P).map eLn)) := by
  have h3 := ok.h3; have s4 := ok.s4; have l4 := ok.l4; have d10 := ok.d10; have e12 := ok.e12
  refine run_eq rfl ?_
  unfold bd__law_lines
  let S : List (List Str) → Option D → Option D → Option D → En := fun L x2 x3 x4 => ⟨[some (eP P), some (.olst (L.map eLn)), x2, x3, x4], []⟩
  let e0 : En := ⟨[some (eP P), none, none, none, none], []⟩
  have ix : ∀ {e : En} {k : Int} {d : D}, eVar 0 e = .ok (eP P) e → dIxA (eP P) (.int k) = some d → bin dIxA (eVar 0) (eC (.int k)) e = .ok d e := fun h1 h2 => bin_s h1 rfl h2
  have hh : ∀ (x : Str) (l : List Str) (k : Int), l.length ≤ 100 → dIxA (eP P) (.int k) = some (.lst (eStr l)) → frzE (bin dAddA (frzE (eLst (aCons (eC (.str x)) aNil))) (bin dIxA (eVar 0) (eC (.int k)))) e0 = .ok (eLn (x :: l)) e0 := fun x l k hl hk =>
    frzE_ok (d := .olst (eStr (x :: l))) (bin_s (x := .lst [.str x]) (y := .lst (eStr l)) rfl (ix rfl hk) (catStr x l hl)) (frzD_gen D.str (fun _ => rfl) _)
  refine wp_seq (wp_set (d := .olst ([("houses" : Str) :: P.H, ("stands" : Str) :: P.S].map eLn)) (e1 := e0) (lst_ok (aCons_ok (hh "houses" P.H 0 (by omega) rfl) (aCons_ok (hh "stands" P.S 1 (by omega) rfl) rfl)) (by unfold LIM; simp)) ?_)
  refine wp_seq (wp_for (enc := eE P) (l := P.ds) (e1 := S [("houses" : Str) :: P.H, ("stands" : Str) :: P.S] none none none) (fun p e => ∃ x2 x3 x4, e = S ([("houses" : Str) :: P.H, ("stands" : Str) :: P.S] ++ p.map (rwE "deed" P)) x2 x3 x4) (itSeq_ok (d := .lst (P.ds.map (eE P))) (ix rfl rfl) rfl) ⟨none, none, none, rfl⟩ ?_ ?_)
  · rintro p a r e' hp ⟨x2, x3, x4, rfl⟩
    let U : List (List Str) → En := fun L => S L (some (.str (P.nm a.bh a.pl))) (some (eO a.sn)) (some (.str (P.nm a.bh a.ot)))
    refine ⟨U ([("houses" : Str) :: P.H, ("stands" : Str) :: P.S] ++ p.map (rwE "deed" P)), gT3 2 3 4 _ _ _ _, ?_⟩
    have hpl : p.length ≤ 10 := by
      have := congrArg List.length hp
      simp at this; omega
    have f3 : eIf (eTest (bin dIsN (eVar 3) (eC .non))) (eC (.str "_")) (eVar 3) (U ([("houses" : Str) :: P.H, ("stands" : Str) :: P.S] ++ p.map (rwE "deed" P))) = .ok (.str (a.sn.getD "_")) (U ([("houses" : Str) :: P.H, ("stands" : Str) :: P.S] ++ p.map (rwE "deed" P))) := by
      exact if_us (o := a.sn) rfl
    refine wp_app (ds := ([("houses" : Str) :: P.H, ("stands" : Str) :: P.S] ++ p.map (rwE "deed" P)).map eLn) (d := eLn (rwE "deed" P a)) rfl rfl (frzE_ok (d := .olst (eStr (rwE "deed" P a))) (lst_ok (aCons_ok rfl (aCons_ok rfl (aCons_ok f3 (aCons_ok rfl rfl)))) (lst4 _ _ _ _)) (frzD_gen D.str (fun _ => rfl) _)) (lnL (by rw [len2]; omega)) ⟨some (.str (P.nm a.bh a.pl)), some (eO a.sn), some (.str (P.nm a.bh a.ot)), ?_⟩
    simp only [S, U, List.set_cons_succ, List.set_cons_zero, List.map_append, List.map_cons, List.map_nil, List.append_assoc]
  · rintro e' ⟨x2, x3, x4, rfl⟩
    let L0 : List (List Str) := [("houses" : Str) :: P.H, ("stands" : Str) :: P.S] ++ P.ds.map (rwE "deed" P)
    refine wp_seq (wp_for (enc := eE P) (l := P.es) (e1 := S L0 x2 x3 x4) (fun p e => ∃ x2 x3 x4, e = S (L0 ++ p.map (rwE "hear" P)) x2 x3 x4) (itSeq_ok (d := .lst (P.es.map (eE P))) (ix rfl rfl) rfl) ⟨x2, x3, x4, by simp⟩ ?_ ?_)
    · rintro p a r e' hp ⟨x2, x3, x4, rfl⟩
      obtain ⟨x, hx, _⟩ := (ok.es a (by rw [hp]; simp)).2
      let U : List (List Str) → En := fun L => S L (some (.str (P.nm a.bh a.pl))) (some (.str x)) (some (.str (P.nm a.bh a.ot)))
      refine ⟨U (L0 ++ p.map (rwE "hear" P)), by unfold eE; rw [hx]; rfl, ?_⟩
      have hpl : p.length ≤ 12 := by
        have := congrArg List.length hp
        simp at this; omega
      have er : rwE "hear" P a = [("hear" : Str), P.nm a.bh a.pl, x, P.nm a.bh a.ot] := by unfold rwE; rw [hx]; rfl
      refine wp_app (ds := (L0 ++ p.map (rwE "hear" P)).map eLn) (d := eLn (rwE "hear" P a)) rfl rfl (frzE_ok (d := .olst (eStr (rwE "hear" P a))) (by rw [er]; exact lst_ok (aCons_ok rfl (aCons_ok rfl (aCons_ok rfl (aCons_ok rfl rfl)))) (lst4 _ _ _ _)) (frzD_gen D.str (fun _ => rfl) _)) (lnL (by show ([_, _] ++ List.map _ P.ds ++ p.map (rwE "hear" P)).length ≤ 99; rw [len3]; omega)) ⟨some (.str (P.nm a.bh a.pl)), some (.str x), some (.str (P.nm a.bh a.ot)), ?_⟩
      simp only [S, U, List.set_cons_succ, List.set_cons_zero, List.map_append, List.map_cons, List.map_nil, List.append_assoc]
    · rintro e' ⟨x2, x3, x4, rfl⟩
      let L1 := L0 ++ P.es.map (rwE "hear" P)
      let Z : En := S L1 x2 x3 x4
      have hls : bin dIxA (eVar 0) (eC (.int 4)) Z = .ok (.lst (eStr P.ls)) Z := ix rfl rfl
      have hL1 : L1.length ≤ 30 := by simp [L1, L0]; omega
      let tail : List (List Str) := if P.ls = [] then [] else [("lost" : Str) :: P.ls]
      have hne : bin dNeA (bin dIxA (eVar 0) (eC (.int 4))) (eLst aNil) Z = .ok (.bl (!(eStr P.ls).isEmpty)) Z := bin_s (x := .lst (eStr P.ls)) (y := .olst []) hls rfl (dNeA_nil (pln_lst (n := 11) fun d hd => by
        obtain ⟨_, _, rfl⟩ := List.mem_map.mp hd
        simp))
      have hif : eIf (eTest (bin dNeA (bin dIxA (eVar 0) (eC (.int 4))) (eLst aNil))) (frzE (eLst (aCons (frzE (bin dAddA (frzE (eLst (aCons (eC (.str "lost")) aNil))) (bin dIxA (eVar 0) (eC (.int 4))))) aNil))) (frzE (eLst aNil)) Z = .ok (.lst (tail.map eLn)) Z := by
        by_cases c : P.ls = []
        · have : (eStr P.ls).isEmpty = true := by rw [c]; rfl
          rw [this] at hne
          refine eIf_f (eTest_ok hne) ?_
          simp only [tail, c, if_true]
          rfl
        · have : (eStr P.ls).isEmpty = false := by
            cases q : P.ls with
            | nil => exact absurd q c
            | cons _ _ => rfl
          rw [this] at hne
          refine eIf_t (eTest_ok hne) ?_
          simp only [tail, c, if_false]
          exact frzE_ok (d := .olst [eLn ("lost" :: P.ls)]) (lst_ok (aCons_ok (frzE_ok (d := .olst (eStr ("lost" :: P.ls))) (bin_s (x := .lst [.str "lost"]) (y := .lst (eStr P.ls)) rfl hls (catStr "lost" P.ls (by omega))) (frzD_gen D.str (fun _ => rfl) _)) rfl) (by unfold LIM; simp)) rfl
      have hadd : dAddA (.olst (L1.map eLn)) (.lst (tail.map eLn)) = some (.olst ((lin P).map eLn)) := by
        have htl : tail.length ≤ 1 := by simp only [tail]; split <;> simp
        have e1 : lin P = L1 ++ tail := by simp [lin, L1, L0, tail]
        rw [e1]
        exact addLn (by omega)
      exact wp_ret (d := .olst ((lin P).map eLn)) (e1 := Z) (bin_s (x := .olst (L1.map eLn)) (y := .lst (tail.map eLn)) rfl hif hadd) ⟨rfl, rfl⟩
theorem starL_ok {f g : EM} {e : En} {x : Str} {l : List Str} {d : D} (hf : f e = .ok (.str x) e) (hg : g e = .ok d e) (hd : fitems? d = some (eStr l)) (hl : l.length ≤ 100) : frzE (eStarL f g) e = .ok (eLn (x :: l)) e := by
  refine frzE_ok (d := .olst (eStr (x :: l))) ?_ (frzD_gen D.str (fun _ => rfl) _)
  simp only [eStarL, hf, hg, Rs.bind, hd]
  have : (D.str x :: eStr l).length ≤ LIM := by simp [eStr]; unfold LIM; omega
  simp only [mkLst, this, if_true, lift]
  rfl
theorem text_eq {P : Pt} (ok : P.Ok) (w : Wd1 P) : fn_text_of [eBk P] = .ok (.str (dueT (lin P))) := by
  have h3 := ok.h3; have s4 := ok.s4; have l4 := ok.l4; have d10 := ok.d10; have e12 := ok.e12
  have hL := lin_ok ok w
  refine run_eq rfl ?_
  unfold bd_text_of
  let e0 : En := ⟨[some (eBk P), none, none, none, none, none, none], []⟩
  let S : List (List Str) → En := fun L => ⟨[some (eBk P), some (.olst (L.map eLn)), none, none, none, none, none], []⟩
  refine wp_seq (wp_expr (e1 := e0) (fcall (ds := [eBk P]) rfl rfl (check_book_eq P) rfl) ?_)
  let A0 : List (List Str) := [("houses" : Str) :: P.H, ("stands" : Str) :: P.S]
  refine wp_seq (wp_set (d := .olst (A0.map eLn)) (e1 := e0) (lst_ok (aCons_ok (starL_ok (l := P.H) (d := .tux (eStr P.H)) rfl rfl rfl (by omega)) (aCons_ok (starL_ok (l := P.S) (d := .tux (eStr P.S)) rfl rfl rfl (by omega)) rfl)) (lst2 _ _)) ?_)
  have c1 : eLc (itSeq (eFld 0 2 (eVar 0))) (gT 3 (gsCons (gN 4) (gsCons (gN 5) (gsCons (gN 6) gsNil)))) tYesD (frzE (eLst (aCons (eC (.str "deed")) (aCons (eVar 4) (aCons (eIf (eTest (bin dIsN (eVar 5) (eC .non))) (eC (.str "_")) (eVar 5)) (aCons (eVar 6) aNil)))))) [4, 5, 6] (S A0) = .ok (.olst (P.ds.map fun e => eLn (rwE "deed" P e))) (S A0) := by
    refine eLc_map (enc := eE P) (l := P.ds) (itSeq_ok (d := .tux (P.ds.map (eE P))) rfl rfl) (by unfold LIM; omega) rfl rfl fun a ha => ?_
    let U : En := ⟨[some (eBk P), some (.olst (A0.map eLn)), none, none, some (.str (P.nm a.bh a.pl)), some (eO a.sn), some (.str (P.nm a.bh a.ot))], []⟩
    refine ⟨U, gT3 4 5 6 _ _ _ _, ?_, rfl⟩
    have f3 : eIf (eTest (bin dIsN (eVar 5) (eC .non))) (eC (.str "_")) (eVar 5) U = .ok (.str (a.sn.getD "_")) U := if_us (o := a.sn) rfl
    exact frzE_ok (d := .olst (eStr (rwE "deed" P a))) (lst_ok (aCons_ok rfl (aCons_ok rfl (aCons_ok f3 (aCons_ok rfl rfl)))) (lst4 _ _ _ _)) (frzD_gen D.str (fun _ => rfl) _)
  let A1 : List (List Str) := A0 ++ P.ds.map (rwE "deed" P)
  refine wp_seq (wp_ext (e := S A0) (sl := (S A0).sl) (ds := A0.map eLn) (d := P.ds.map fun e => eLn (rwE "deed" P e)) rfl rfl c1 (li_gen (fun e => eLn (rwE "deed" P e)) (fun _ => rfl) _) (lnM _ _ (by show [_, _].length + _ ≤ 100; simp only [List.length_cons, List.length_nil]; omega)) ?_)
  have eA1 : (⟨(S A0).sl.set 1 (some (.olst (A0.map eLn ++ P.ds.map fun e => eLn (rwE "deed" P e)))), []⟩ : En) = S A1 := by
    simp only [S, A1, List.set_cons_succ, List.set_cons_zero, List.map_append, lns_map]
  rw [eA1]
  have c2 : eLc (itSeq (eFld 0 3 (eVar 0))) (gN 2) tYesD (frzE (eStarL (eC (.str "hear")) (eVar 2))) [2] (S A1) = .ok (.olst (P.es.map fun e => eLn (rwE "hear" P e))) (S A1) := by
    refine eLc_map (enc := eE P) (l := P.es) (itSeq_ok (d := .tux (P.es.map (eE P))) rfl rfl) (by unfold LIM; omega) rfl rfl fun a ha => ?_
    obtain ⟨x, hx, _⟩ := (ok.es a ha).2
    refine ⟨_, rfl, starL_ok (l := [P.nm a.bh a.pl, (a.sn).getD "_", P.nm a.bh a.ot]) (d := eE P a) rfl rfl ?_ (by simp), rfl⟩
    unfold eE
    rw [hx]
    rfl
  let A2 : List (List Str) := A1 ++ P.es.map (rwE "hear" P)
  refine wp_seq (wp_ext (e := S A1) (sl := (S A1).sl) (ds := A1.map eLn) (d := P.es.map fun e => eLn (rwE "hear" P e)) rfl rfl c2 (li_gen (fun e => eLn (rwE "hear" P e)) (fun _ => rfl) _) (lnM _ _ (by show ([_, _] ++ List.map _ P.ds).length + _ ≤ 100; rw [len2]; omega)) ?_)
  have eA2 : (⟨(S A1).sl.set 1 (some (.olst (A1.map eLn ++ P.es.map fun e => eLn (rwE "hear" P e)))), []⟩ : En) = S A2 := by
    simp only [S, A2, List.set_cons_succ, List.set_cons_zero, List.map_append, lns_map]
  rw [eA2]
  have hfl : eFld 0 4 (eVar 0) (S A2) = .ok (.tux (eStr P.ls)) (S A2) := rfl
  have hne : bin dNeA (eFld 0 4 (eVar 0)) (eTup aNil) (S A2) = .ok (.bl (!P.ls.isEmpty)) (S A2) := by
    refine bin_s (x := .tux (eStr P.ls)) (y := .tup []) hfl rfl ?_
    have p1 : pln DEP (.tux (eStr P.ls)) = true := pln_tux (n := 11) fun d hd => by
      obtain ⟨_, _, rfl⟩ := List.mem_map.mp hd
      simp
    have p2 : pln DEP (.tup []) = true := by decide
    have p3 : deq (.tux (eStr P.ls)) (.tup []) = P.ls.isEmpty := by
      cases P.ls <;> simp [deq, pd, pdL, eStr, PyData.eqv, PyData.eqvAll]
    simp [orD, dNeA, dNe, p1, p2, p3]
  have fin : ∀ L, L = lin P → Wp (sRet (binG isStr dJoin (eC (.str "\n")) (frzE (eLc (itOwn 1) (gN 3) tYesD (binG isStr dJoin (eC (.str " ")) (eVar 3)) [3])))) (S L) (fun _ => False) fun d e => e.mu = [] ∧ d = .str (dueT (lin P)) := by
    rintro L rfl
    have h1 : itOwn 1 (S (lin P)) = .ok ((lin P).map eLn) (S (lin P)) := by
      show (if ((lin P).map eLn).all isF then Rs.ok ((lin P).map eLn) (S (lin P)) else .stuck) = _
      rw [if_pos (isF_eLn _)]
    have h2 : frzE (eLc (itOwn 1) (gN 3) tYesD (binG isStr dJoin (eC (.str " ")) (eVar 3)) [3]) (S (lin P)) = .ok (.lst (eStr ((lin P).map lnT))) (S (lin P)) := by
      refine frzE_ok (d := .olst (eStr ((lin P).map lnT))) ?_ (frzD_gen D.str (fun _ => rfl) _)
      have := eLc_map (e := S (lin P)) (e1 := S (lin P)) (enc := eLn) (l := lin P) (r := fun l => .str (lnT l)) (it := itOwn 1) (g := gN 3) (te := binG isStr dJoin (eC (.str " ")) (eVar 3)) (vs := [3]) h1 (by have := hL.s; unfold LIM; omega) rfl rfl fun l hl => ⟨_, rfl, binG_ok (x := .str " ") (y := eLn l) rfl rfl rfl (join_ln (hL.t l hl) (hL.n l hl).2), rfl⟩
      rw [this]
      simp only [eStr, List.map_map]
      rfl
    exact wp_ret (d := .str (dueT (lin P))) (e1 := S (lin P)) (binG_ok (x := .str "\n") (y := .lst (eStr ((lin P).map lnT))) rfl rfl h2 (join_due hL)) ⟨rfl, rfl⟩
  by_cases c : P.ls = []
  · have : P.ls.isEmpty = true := by rw [c]; rfl
    rw [this] at hne
    refine wp_seq (wp_if (k := false) (e1 := S A2) (eTest_ok hne) (fun h => by cases h) fun _ => wp_next (fin A2 ?_))
    simp [lin, A2, A1, A0, c]
  · have : P.ls.isEmpty = false := by
      cases q : P.ls with
      | nil => exact absurd q c
      | cons _ _ => rfl
    rw [this] at hne
    refine wp_seq (wp_if (k := true) (e1 := S A2) (eTest_ok hne) (fun _ => ?_) fun h => by cases h)
    refine wp_app (e := S A2) (sl := (S A2).sl) (ds := A2.map eLn) (d := eLn ("lost" :: P.ls)) rfl rfl (starL_ok (l := P.ls) (d := .tux (eStr P.ls)) rfl rfl rfl (by omega)) (lnL (by show ([_, _] ++ List.map _ P.ds ++ List.map _ P.es).length ≤ 99; rw [len3]; omega)) ?_
    have eA3 : (⟨(S A2).sl.set 1 (some (.olst (A2.map eLn ++ [eLn ("lost" :: P.ls)]))), []⟩ : En) = S (A2 ++ [("lost" : Str) :: P.ls]) := by
      simp only [S, List.set_cons_succ, List.set_cons_zero, List.map_append, List.map_cons, List.map_nil]
    rw [eA3]
    exact fin _ (by simp [lin, A2, A1, A0, c])
open PySem L2 TL
abbrev HDS : List Str := [("houses" : Str), ("stands" : Str), ("deed" : Str), ("hear" : Str), ("lost" : Str)]
def hdN : Nat → Str
  | 0 => "houses"
  | 1 => "stands"
  | 2 => "deed"
  | 3 => "hear"
  | _ => "lost"
def row (p : Nat × List Str) : List Str := hdN p.1 :: p.2
def sel (i : Nat) (M : List (Nat × List Str)) : List (List Str) := (M.filter fun p => p.1 == i).map (·.2)
def kvM (M : List (Nat × List Str)) : List (D × D) := [(.str "houses", .olst ((sel 0 M).map eLn)), (.str "stands", .olst ((sel 1 M).map eLn)), (.str "deed", .olst ((sel 2 M).map eLn)), (.str "hear", .olst ((sel 3 M).map eLn)), (.str "lost", .olst ((sel 4 M).map eLn))]
def lastM (M : List (Nat × List Str)) : Nat := (M.getLast?.map (·.1)).getD 0
theorem kq_str (a b : Str) : kq (.str a) (.str b) = (a == b) := by
  simp [kq, dnest, NestedKey.beq]
  rfl
theorem sel_same (i : Nat) (M : List (Nat × List Str)) (t : List Str) : sel i (M ++ [(i, t)]) = sel i M ++ [t] := by simp [sel]
theorem sel_other {i j : Nat} (h : ¬ j = i) (M : List (Nat × List Str)) (t : List Str) : sel i (M ++ [(j, t)]) = sel i M := by simp [sel, h]
theorem sel_len (i : Nat) (M : List (Nat × List Str)) : (sel i M).length ≤ M.length := by
  unfold sel
  rw [List.length_map]
  exact List.length_filter_le _ _
theorem five {i : Nat} (h : i ≤ 4) : i = 0 ∨ i = 1 ∨ i = 2 ∨ i = 3 ∨ i = 4 := by omega
theorem notin_hd {i : Nat} (h : i ≤ 4) : dNotInA (.str (hdN i)) (.rol (HDS.map .str)) = some (.bl false) := by
  rcases five h with rfl | rfl | rfl | rfl | rfl <;> rfl
theorem index_hd {i : Nat} (h : i ≤ 4) : dIndexR (.rol (HDS.map .str)) (.str (hdN i)) = some (.int i) := by
  rcases five h with rfl | rfl | rfl | rfl | rfl <;> rfl
theorem ok_hd {i : Nat} (h : i ≤ 4) : PyData.strOk (hdN i) = true := by
  rcases five h with rfl | rfl | rfl | rfl | rfl <;> decide +kernel
theorem key_hd {i : Nat} (h : i ≤ 4) : dkey (.str (hdN i)) = some (.inr (hdN i)) := by
  show (if _ then _ else _) = _
  rw [if_pos (ok_hd h)]
theorem ix0 (a : Str) (t : List Str) : dIxA (.lst (eStr (a :: t))) (.int 0) = some (.str a) := by
  show dIxA (.lst (.str a :: eStr t)) (.int 0) = _
  rw [dIxA_l0]
  rfl
theorem lk_hd {i : Nat} (h : i ≤ 4) (M : List (Nat × List Str)) : lkD (kvM M) (.str (hdN i)) = some (.olst ((sel i M).map eLn)) := by
  rcases five h with rfl | rfl | rfl | rfl | rfl <;> simp only [kvM, lkD, kq_str, hdN] <;> rfl
theorem app_hd {i : Nat} (h : i ≤ 4) (M : List (Nat × List Str)) (hM : M.length ≤ 1000) (t : List Str) : app1 (kvM M) (.str (hdN i)) (eLn t) = some (kvM (M ++ [(i, t)])) := by
  have hl : ((sel i M).map eLn).length < LIM := by
    rw [List.length_map]
    exact Nat.lt_of_le_of_lt (Nat.le_trans (sel_len i M) hM) (by unfold LIM; omega)
  have c01 : (("houses" : Str) == "stands") = false := by decide +kernel
  have c02 : (("houses" : Str) == "deed") = false := by decide +kernel
  have c03 : (("houses" : Str) == "hear") = false := by decide +kernel
  have c04 : (("houses" : Str) == "lost") = false := by decide +kernel
  have c12 : (("stands" : Str) == "deed") = false := by decide +kernel
  have c13 : (("stands" : Str) == "hear") = false := by decide +kernel
  have c14 : (("stands" : Str) == "lost") = false := by decide +kernel
  have c23 : (("deed" : Str) == "hear") = false := by decide +kernel
  have c24 : (("deed" : Str) == "lost") = false := by decide +kernel
  have c34 : (("hear" : Str) == "lost") = false := by decide +kernel
  rcases five h with rfl | rfl | rfl | rfl | rfl
  · simp only [kvM, app1, kq_str, hdN, beq_self_eq_true, if_true, hl, sel_same, sel_other (i := 1) (j := 0) (by omega), sel_other (i := 2) (j := 0) (by omega), sel_other (i := 3) (j := 0) (by omega), sel_other (i := 4) (j := 0) (by omega), List.map_append, List.map_cons, List.map_nil]
  · simp only [kvM, app1, kq_str, hdN, beq_self_eq_true, if_true, hl, c01, Option.map_some, if_false, Bool.false_eq_true, sel_same, sel_other (i := 0) (j := 1) (by omega), sel_other (i := 2) (j := 1) (by omega), sel_other (i := 3) (j := 1) (by omega), sel_other (i := 4) (j := 1) (by omega), List.map_append, List.map_cons, List.map_nil]
  · simp only [kvM, app1, kq_str, hdN, beq_self_eq_true, if_true, hl, c02, c12, Option.map_some, if_false, Bool.false_eq_true, sel_same, sel_other (i := 0) (j := 2) (by omega), sel_other (i := 1) (j := 2) (by omega), sel_other (i := 3) (j := 2) (by omega), sel_other (i := 4) (j := 2) (by omega), List.map_append, List.map_cons, List.map_nil]
  · simp only [kvM, app1, kq_str, hdN, beq_self_eq_true, if_true, hl, c03, c13, c23, Option.map_some, if_false, Bool.false_eq_true, sel_same, sel_other (i := 0) (j := 3) (by omega), sel_other (i := 1) (j := 3) (by omega), sel_other (i := 2) (j := 3) (by omega), sel_other (i := 4) (j := 3) (by omega), List.map_append, List.map_cons, List.map_nil]
  · simp only [kvM, app1, kq_str, hdN, beq_self_eq_true, if_true, hl, c04, c14, c24, c34, Option.map_some, if_false, Bool.false_eq_true, sel_same, sel_other (i := 0) (j := 4) (by omega), sel_other (i := 1) (j := 4) (by omega), sel_other (i := 2) (j := 4) (by omega), sel_other (i := 3) (j := 4) (by omega), List.map_append, List.map_cons, List.map_nil]
theorem wp_appK {i : Nat} {fk fx : EM} {e : En} {sl : List (Option D)} {kvs kvs3 : List (D × D)} {y x : D} {ky : Key} {ds : List D} {Q : En → Prop} {R : D → En → Prop} (he : e = ⟨sl, []⟩) (h : sl[i]? = some (some (.odic kvs))) (hk : fk e = .ok y e) (hy : dkey y = some ky) (hd : lkD kvs y = some (.olst ds)) (hx : fx e = .ok x e) (ha : app1 kvs y x = some kvs3) (q : Q ⟨sl.set i (some (.odic kvs3)), []⟩) : Wp (sAppK i fk fx) e Q R := by
  subst he
  unfold Wp sAppK
  simp only [h, hk, ofE, hy, hd, sdTail, hx, ha, En.put]
  exact q
theorem dNeA_str (a b : Str) : dNeA (.str a) (.str b) = some (.bl (!(a == b))) := by simp [orD, dNeA, dNe, pln, deq_str']
theorem eSl_ok {f : EM} {fl fh : OM} {e : En} {xs : List D} {l h : Option Int} (hf : f e = .ok (.lst xs) e) (hl : fl e = .ok l e) (hh : fh e = .ok h e) : eSl dSlA f fl fh e = .ok (.olst (cutD xs l h)) e := by
  simp only [eSl, hf, hl, hh, Rs.bind, sl_lst, lift]
theorem spl_plen {s : Nat} : ∀ (l acc : List Nat) (p : List Nat), p ∈ spl [s] 0 acc l → p.length ≤ acc.length + l.length
  | [], acc, p, h => by
    rw [spl_nil, List.mem_singleton] at h
    subst h; simp
  | a :: l, acc, p, h => by
    by_cases e : a = s
    · rw [spl_hit (by rw [pre1]; simp [e])] at h
      rcases List.mem_cons.mp h with rfl | h
      · omega
      · have := spl_plen l [] p h
        simp only [List.length_nil, List.length_cons] at *
        omega
    · rw [spl_miss (by rw [pre1]; simp [e])] at h
      have := spl_plen l _ p h
      simp only [List.length_append, List.length_cons, List.length_nil] at *
      omega
theorem split_plen {x y : Str} {s : Nat} (hy : tl y = [s]) (hk : y.cps.all (· < 256) = true) {p : Str} (h : p ∈ Txt.split x y) : p.length ≤ x.length := by
  have h1 : tl p ∈ sp1 s (tl x) := by rw [← split_tl x hy hk]; exact List.mem_map.mpr ⟨p, h, rfl⟩
  have := spl_plen _ _ _ h1
  rw [len_tl, len_tl]
  simpa using this
theorem dSplit_ok {x y : Str} {s : Nat} (hy : tl y = [s]) (hk : y.cps.all (· < 256) = true) (hx : PyData.strOk x = true) (hl : x.length ≤ 900000) : dSplit (.str x) (.str y) = some (.olst (eStr (Txt.split x y))) := by
  have h1 : (y.length == 0) = false := by rw [len_tl, hy]; rfl
  have h2 := split_len x hy hk
  show (if _ then _ else _) = _
  rw [if_pos ⟨h1, by unfold LIM; omega, by unfold LIM; omega, split_ok hy hk hx⟩]
  rfl
theorem frz_str (l : List Str) : frzD (.olst (eStr l)) = some (.lst (eStr l)) := frzD_gen D.str (fun _ => rfl) l
structure RowsOf (T : Str) (M : List (Nat × List Str)) : Prop where
  s : Sp T (M.map row)
  o : PyData.strOk T = true
  l : T.length ≤ 900000
  h : ∀ p ∈ M, p.1 ≤ 4
  m : M.Pairwise fun p q => p.1 ≤ q.1
  n : M.length ≤ 1000
theorem last_le {M1 M2 : List (Nat × List Str)} {p : Nat × List Str} (h : (M1 ++ p :: M2).Pairwise fun p q => p.1 ≤ q.1) : lastM M1 ≤ p.1 := by
  unfold lastM
  cases e : M1.getLast? with
  | none => exact Nat.zero_le _
  | some q =>
    have hq : q ∈ M1 := List.mem_of_getLast? e
    exact (List.pairwise_append.mp h).2.2 q hq p (List.mem_cons_self ..)
theorem last_snoc (M : List (Nat × List Str)) (p : Nat × List Str) : lastM (M ++ [p]) = p.1 := by simp [lastM]
theorem wds_len {a : Str} (ha : a.length ≤ 900000) : (Txt.split a " ").length ≤ LIM := by
  have := split_len a (y := " ") (s := 32) rfl (by decide +kernel)
  unfold LIM
  omega
theorem rows_eq {T : Str} {M : List (Nat × List Str)} (r : RowsOf T M) : fn_rows_in [.str T] = .ok (.odic (kvM M)) := by
  refine run_eq rfl ?_
  unfold bd_rows_in
  let S : List (Nat × List Str) → Option D → Option D → En := fun M1 x1 x4 => ⟨[some (.str T), x1, some (.odic (kvM M1)), some (.int (lastM M1)), x4, none, none], []⟩
  refine wp_seq (wp_mix (ds := [.odic (kvM []), .int 0]) (e1 := ⟨[some (.str T), none, none, none, none, none, none], []⟩) rfl (lst2 _ _) rfl (?_ : Wp _ (S [] none none) _ _))
  refine wp_seq (wp_for (enc := D.str) (l := Txt.split T "\n") (e1 := S [] none none) (fun p e => ∃ M1 M2 x1 x4, M = M1 ++ M2 ∧ e = S M1 x1 x4 ∧ ∀ q, Txt.split T "\n" = p ++ q → (q.map wds).filter (fun l => !l.isEmpty) = M2.map row) (itSeq_ok (frzE_ok (binG_ok (x := .str T) (y := .str "\n") rfl rfl rfl (dSplit_ok (s := 10) rfl (by decide +kernel) r.o r.l)) (frz_str _)) rfl) ⟨[], M, none, none, rfl, rfl, fun q h => by rw [List.nil_append] at h; rw [← h]; exact r.s⟩ ?_ ?_)
  · rintro p a q e' hp ⟨M1, M2, x1, x4, hM, rfl, hq⟩
    have ha : a ∈ Txt.split T "\n" := by rw [hp]; simp
    have al : a.length ≤ 900000 := Nat.le_trans (split_plen (s := 10) rfl (by decide +kernel) ha) r.l
    have ao : PyData.strOk a = true := List.all_eq_true.mp (split_ok (s := 10) rfl (by decide +kernel) r.o) a ha
    refine ⟨S M1 (some (.str a)) x4, rfl, ?_⟩
    have c1 : frzE (eLc (itSeq (frzE (binG isStr dSplit (eVar 1) (eC (.str " "))))) (gN 6) (eTest (bin dNeA (eVar 6) (eC (.str "")))) (eVar 6) [6]) (S M1 (some (.str a)) x4) = .ok (.lst (eStr (wds a))) (S M1 (some (.str a)) x4) := by
      refine frzE_ok (d := .olst (eStr (wds a))) ?_ (frz_str _)
      exact eLc_ok (enc := D.str) (l := Txt.split a " ") (p := fun p => !(p == ("" : Str))) (r := D.str) (itSeq_ok (frzE_ok (binG_ok (x := .str a) (y := .str " ") rfl rfl rfl (dSplit_ok (s := 32) rfl (by decide +kernel) ao al)) (frz_str _)) rfl) (wds_len al) rfl rfl fun b hb => ⟨_, rfl, eTest_ok (bin_s (x := .str b) (y := .str "") rfl rfl (dNeA_str b "")), fun _ => rfl, rfl⟩
    refine wp_seq (wp_set (d := .lst (eStr (wds a))) c1 (?_ : Wp _ (S M1 (some (.str a)) (some (.lst (eStr (wds a))))) _ _))
    obtain ⟨ws, hws⟩ : ∃ ws, ws = wds a := ⟨_, rfl⟩
    rw [← hws]
    have hpl : pln DEP (.lst (eStr ws)) = true := pln_lst (n := 11) fun d hd => by
      obtain ⟨_, _, rfl⟩ := List.mem_map.mp hd
      simp
    have hne : bin dNeA (eVar 4) (eLst aNil) (S M1 (some (.str a)) (some (.lst (eStr ws)))) = .ok (.bl (!(eStr ws).isEmpty)) (S M1 (some (.str a)) (some (.lst (eStr ws)))) := bin_s (x := .lst (eStr ws)) (y := .olst []) rfl rfl (dNeA_nil hpl)
    have hq1 := hq (a :: q) hp
    rw [List.map_cons, ← hws] at hq1
    cases ws with
    | nil =>
      refine wp_seq (wp_if (k := false) (e1 := S M1 (some (.str a)) (some (.lst (eStr [])))) (tAnd_f (eTest_ok hne)) (fun h => by cases h) fun _ => wp_next ?_)
      refine wp_if (k := false) (e1 := S M1 (some (.str a)) (some (.lst (eStr [])))) (eTest_ok hne) (fun h => by cases h) fun _ => wp_next ?_
      exact ⟨M1, M2, _, _, hM, rfl, fun q' hq' => by
        have : q' = q := by
          rw [hp, List.append_assoc] at hq'
          have := List.append_cancel_left hq'
          simpa using this.symm
        rw [this]
        exact hq1⟩
    | cons w0 wt =>
      have hq2 : (w0 :: wt) :: (q.map wds).filter (fun l => !l.isEmpty) = M2.map row := hq1
      cases M2 with
      | nil => cases hq2
      | cons m M2 =>
        rw [List.map_cons] at hq2
        obtain ⟨k1, k2⟩ := List.cons.inj hq2
        obtain ⟨i, t⟩ := m
        obtain ⟨k3, k4⟩ := List.cons.inj (show w0 :: wt = hdN i :: t from k1)
        subst k3; subst k4
        have hi : i ≤ 4 := r.h (i, wt) (by rw [hM]; simp)
        have hlast : lastM M1 ≤ i := last_le (p := (i, wt)) (by rw [← hM]; exact r.m)
        let E : En := S M1 (some (.str a)) (some (.lst (eStr (hdN i :: wt))))
        have g0 : bin dIxA (eVar 4) (eC (.int 0)) E = .ok (.str (hdN i)) E := bin_s (x := .lst (eStr (hdN i :: wt))) (y := .int 0) rfl rfl (ix0 _ _)
        have gx : binG isRol dIndexR (eC (.rol (HDS.map .str))) (bin dIxA (eVar 4) (eC (.int 0))) E = .ok (.int i) E := binG_ok (x := .rol (HDS.map .str)) (y := .str (hdN i)) rfl rfl g0 (index_hd hi)
        refine wp_seq (wp_if (k := false) (e1 := E) (tAnd_t (eTest_ok hne) (tOr_f (eTest_ok (bin_s (x := .str (hdN i)) (y := .rol (HDS.map .str)) g0 rfl (notin_hd hi))) (eTest_ok (bin_s (x := .int i) (y := .int (lastM M1)) gx rfl (by rw [dLt_int]; congr 2; simp; omega))))) (fun h => by cases h) fun _ => wp_next ?_)
        refine wp_if (k := true) (e1 := E) (eTest_ok hne) (fun _ => ?_) fun h => by cases h
        refine wp_seq (wp_set (d := .int i) gx ?_)
        have hM1 : M1.length ≤ 1000 := by
          have := congrArg List.length hM
          have := r.n
          simp at *; omega
        have hcut : cutD (D.str (hdN i) :: eStr wt) (some 1) none = eStr wt := by
          have := cut_hi (D.str (hdN i) :: eStr wt) 1
          exact this
        refine wp_appK (kvs := kvM M1) (kvs3 := kvM (M1 ++ [(i, wt)])) (y := .str (hdN i)) (x := eLn wt) rfl rfl (bin_s (x := .lst (eStr (hdN i :: wt))) (y := .int 0) rfl rfl (ix0 _ _)) (key_hd hi) (lk_hd hi M1) (frzE_ok (d := .olst (eStr wt)) ((eSl_ok (f := eVar 4) (fl := pS (eC (.int 1))) (fh := pN) (xs := D.str (hdN i) :: eStr wt) (l := some 1) (h := none) rfl rfl rfl).trans (by rw [hcut])) (frz_str _)) (app_hd hi M1 hM1 wt) ⟨M1 ++ [(i, wt)], M2, some (.str a), some (.lst (eStr (hdN i :: wt))), by rw [hM]; simp, ?_, fun q' hq' => ?_⟩
        · simp only [S, last_snoc]
          rfl
        · have : q' = q := by
            rw [hp, List.append_assoc] at hq'
            have := List.append_cancel_left hq'
            simpa using this.symm
          rw [this]
          exact k2
  · rintro e' ⟨M1, M2, x1, x4, hM, rfl, hq⟩
    have := hq [] (by simp)
    have hM2 : M2 = [] := by
      cases M2 with
      | nil => rfl
      | cons _ _ => cases this
    rw [hM2, List.append_nil] at hM
    subst hM
    exact wp_ret (d := .odic (kvM M)) rfl ⟨rfl, rfl⟩
open PySem L2 TL
def wdE (P : Pt) (e : Ent) : List Str := [P.nm e.bh e.pl, (e.sn).getD "_", P.nm e.bh e.ot]
def mP (P : Pt) : List (Nat × List Str) := [(0, P.H), (1, P.S)] ++ (P.ds.map (fun e => (2, wdE P e)) ++ (P.es.map (fun e => (3, wdE P e)) ++ (if P.ls = [] then [] else [(4, P.ls)])))
theorem lin_row (P : Pt) : (mP P).map row = lin P := by
  unfold mP lin
  simp only [List.map_append, List.map_cons, List.map_nil, List.map_map]
  congr 1
  congr 1
  congr 1
  split <;> rfl
theorem sel_app (i : Nat) (A B : List (Nat × List Str)) : sel i (A ++ B) = sel i A ++ sel i B := by simp [sel]
theorem sel_all (i : Nat) (f : Ent → List Str) (l : List Ent) : sel i (l.map fun e => (i, f e)) = l.map f := by
  unfold sel
  rw [List.filter_eq_self.mpr, List.map_map]
  · rfl
  · intro p hp
    obtain ⟨e, _, rfl⟩ := List.mem_map.mp hp
    simp
theorem sel_none {i j : Nat} (h : j ≠ i) (f : Ent → List Str) (l : List Ent) : sel i (l.map fun e => (j, f e)) = [] := by
  unfold sel
  rw [List.filter_eq_nil_iff.mpr]
  · rfl
  · intro p hp
    obtain ⟨e, _, rfl⟩ := List.mem_map.mp hp
    simpa using h
theorem sel_lost {i : Nat} (P : Pt) : sel i (if P.ls = [] then [] else [(4, P.ls)]) = if i = 4 then (if P.ls = [] then [] else [P.ls]) else [] := by
  by_cases c : P.ls = []
  · simp [c, sel]
  · by_cases h : i = 4
    · simp [c, h, sel]
    · have : ¬ 4 = i := fun q => h q.symm
      simp [c, h, sel, this]
theorem s0 (P : Pt) : sel 0 (mP P) = [P.H] := by
  rw [mP, sel_app, sel_app, sel_app, sel_none (by omega), sel_none (by omega), sel_lost]; rfl
theorem s1 (P : Pt) : sel 1 (mP P) = [P.S] := by
  rw [mP, sel_app, sel_app, sel_app, sel_none (by omega), sel_none (by omega), sel_lost]; rfl
theorem s2 (P : Pt) : sel 2 (mP P) = P.ds.map (wdE P) := by
  rw [mP, sel_app, sel_app, sel_app, sel_all, sel_none (by omega), sel_lost]; simp [sel]
theorem s3 (P : Pt) : sel 3 (mP P) = P.es.map (wdE P) := by
  rw [mP, sel_app, sel_app, sel_app, sel_none (by omega), sel_all, sel_lost]; simp [sel]
theorem s4 (P : Pt) : sel 4 (mP P) = if P.ls = [] then [] else [P.ls] := by
  rw [mP, sel_app, sel_app, sel_app, sel_none (by omega), sel_none (by omega), sel_lost]; simp [sel]
theorem rows_of {P : Pt} (ok : P.Ok) {T : Str} (h : Sp T (lin P)) (o : PyData.strOk T = true) (l : T.length ≤ 900000) : RowsOf T (mP P) := by
  have d10 := ok.d10; have e12 := ok.e12
  refine ⟨by rw [lin_row]; exact h, o, l, ?_, ?_, ?_⟩
  · intro p hp
    unfold mP at hp
    simp only [List.mem_append, List.mem_cons, List.not_mem_nil, or_false, List.mem_map] at hp
    rcases hp with (rfl | rfl) | ⟨e, he, rfl⟩ | ⟨e, he, rfl⟩ | hp
    · simp
    · simp
    · simp
    · simp
    · split at hp
      · cases hp
      · rw [List.mem_singleton.mp hp]; simp
  · have hmap : ∀ (j : Nat) (l : List Ent), (l.map fun e => (j, wdE P e)).Pairwise fun p q => p.1 ≤ q.1 := fun j l => by
      rw [List.pairwise_map]
      exact List.pairwise_iff_forall_sublist.mpr fun _ => Nat.le_refl _
    have hl : ∀ q ∈ (if P.ls = [] then [] else [(4, P.ls)]), q.1 = 4 := fun q hq => by
      split at hq
      · cases hq
      · rw [List.mem_singleton.mp hq]
    refine List.pairwise_append.mpr ⟨by simp, List.pairwise_append.mpr ⟨hmap _ _, List.pairwise_append.mpr ⟨hmap _ _, by split <;> simp, ?_⟩, ?_⟩, ?_⟩
    · intro p hp q hq
      obtain ⟨e, _, rfl⟩ := List.mem_map.mp hp
      rw [hl q hq]; simp
    · intro p hp q hq
      obtain ⟨e, _, rfl⟩ := List.mem_map.mp hp
      rcases List.mem_append.mp hq with hq | hq
      · obtain ⟨e, _, rfl⟩ := List.mem_map.mp hq
        simp
      · rw [hl q hq]; simp
    · intro p hp q hq
      have h1 : p.1 ≤ 1 := by
        simp only [List.mem_cons, List.not_mem_nil, or_false] at hp
        rcases hp with rfl | rfl <;> simp
      rcases List.mem_append.mp hq with hq | hq
      · obtain ⟨e, _, rfl⟩ := List.mem_map.mp hq
        show p.1 ≤ 2
        omega
      · rcases List.mem_append.mp hq with hq | hq
        · obtain ⟨e, _, rfl⟩ := List.mem_map.mp hq
          show p.1 ≤ 3
          omega
        · rw [hl q hq]; omega
  · unfold mP
    simp only [List.length_append, List.length_map, List.length_cons, List.length_nil]
    have : (if P.ls = [] then [] else [(4, P.ls)]).length ≤ 1 := by split <;> simp
    omega
def kvF (M : List (Nat × List Str)) : List (D × D) := [(.str "houses", .lst ((sel 0 M).map eLn)), (.str "stands", .lst ((sel 1 M).map eLn)), (.str "deed", .lst ((sel 2 M).map eLn)), (.str "hear", .lst ((sel 3 M).map eLn)), (.str "lost", .lst ((sel 4 M).map eLn))]
theorem frzTL_ln : ∀ l : List (List Str), frzTL (l.map eLn) = some (l.map eLn)
  | [] => rfl
  | a :: l => by simp [frzTL, frzT, eLn, frzTL_ln l]
theorem frzT_kv (M : List (Nat × List Str)) : frzT (.odic (kvM M)) = some (.dic (kvF M)) := by
  simp only [frzT, kvM, frzTK, frzTL_ln, Option.map_some, Option.bind_some]
  rfl
theorem ix_hd {i : Nat} (h : i ≤ 4) (M : List (Nat × List Str)) : dIxA (.dic (kvF M)) (.str (hdN i)) = some (.lst ((sel i M).map eLn)) := by
  have h1 : lkD (kvF M) (.str (hdN i)) = some (.lst ((sel i M).map eLn)) := by
    rcases five h with rfl | rfl | rfl | rfl | rfl <;> simp only [kvF, lkD, kq_str, hdN] <;> rfl
  have h2 : dIxK (.dic (kvF M)) (.str (hdN i)) = some (.lst ((sel i M).map eLn)) := by
    unfold dIxK
    rw [show dkvs? (.dic (kvF M)) = some (kvF M) from rfl, key_hd h]
    simp only [h1, Option.bind_some, isF_lst, if_true]
  have h3 : dIx (.dic (kvF M)) (.str (hdN i)) = none := rfl
  simp only [dIxA, orD, h3, h2]
theorem dLen_lst (xs : List D) : dLen (.lst xs) = some (.int xs.length) := rfl
theorem pln_ln (n : Nat) (l : List Str) : pln (n + 1) (eLn l) = true := pln_lst fun d hd => by
  obtain ⟨_, _, rfl⟩ := List.mem_map.mp hd
  simp
theorem pln_lns (n : Nat) (l : List (List Str)) : pln (n + 2) (.lst (l.map eLn)) = true := pln_lst fun d hd => by
  obtain ⟨_, _, rfl⟩ := List.mem_map.mp hd
  exact pln_ln n _
theorem ix1 (a b : Str) (t : List Str) : dIxA (.lst (eStr (a :: b :: t))) (.int 1) = some (.str b) := by
  show dIxA (.lst (.str a :: .str b :: eStr t)) (.int 1) = _
  rw [dIxA_l1]
  rfl
theorem ix2 (a b c : Str) (t : List Str) : dIxA (.lst (eStr (a :: b :: c :: t))) (.int 2) = some (.str c) := dIxA_lst (i := 2) rfl rfl
theorem eq_ln_nil (l : List Str) : deq (eLn l) (.lst []) = l.isEmpty := by
  cases l <;> simp [eLn, deq, pd, pdL, eStr, PyData.eqv, PyData.eqvAll]
theorem in_nil {L : List (List Str)} (h : ∀ l ∈ L, l ≠ []) : dInA (.lst []) (.lst (L.map eLn)) = some (.bl false) := by
  have h1 : pln DEP (.lst []) = true := by decide
  have h2 : pln DEP (.lst (L.map eLn)) = true := pln_lns 10 L
  have h3 : inD (.lst []) (L.map eLn) = false := by
    unfold inD
    rw [List.any_eq_false]
    intro z hz
    obtain ⟨l, hl, rfl⟩ := List.mem_map.mp hz
    rw [eq_ln_nil]
    have := h l hl
    cases l <;> simp_all
  cases L with
  | nil => rfl
  | cons a L =>
    have h4 : dInF false (.lst []) (.lst ((a :: L).map eLn)) = none := by
      unfold dInF
      simp only [fitems?]
      rw [if_neg]
      rintro ⟨q, _⟩
      cases q
    have h5 : dInL false (.lst []) (.lst ((a :: L).map eLn)) = some (.bl false) := by
      unfold dInL
      simp only [h1, h2, h3, and_self, if_true, Bool.false_eq_true, if_false]
    simp only [dInA, orD, dIn, h4, h5]
theorem addL {A B : List (List Str)} (h : A.length + B.length ≤ 100) : dAddA (.lst (A.map eLn)) (.lst (B.map eLn)) = some (.olst ((A ++ B).map eLn)) := by
  have hc : (A.map eLn).length + (B.map eLn).length ≤ LIM := by rw [List.length_map (as := B)]; exact lnN h
  rw [dAddA_lst hc, List.map_append]
theorem eTup_ok3 {f g h : EM} {e : En} {a b c : D} (hf : f e = .ok a e) (hg : g e = .ok b e) (hh : h e = .ok c e) : eTup (aCons f (aCons g (aCons h aNil))) e = .ok (.tup [a, b, c]) e := by
  have : aCons f (aCons g (aCons h aNil)) e = .ok [a, b, c] e := aCons_ok hf (aCons_ok hg (aCons_ok hh rfl))
  simp only [eTup, this, Rs.bind]
  rfl
theorem read_in {P : Pt} (ok : P.Ok) (w : Wd1 P) {T : Str} (r : RowsOf T (mP P)) : fn_book_in [.str T] = .ok (eBk P) := by
  have d10 := ok.d10; have e12 := ok.e12
  refine run_eq rfl ?_
  unfold bd_book_in
  let F : D := .dic (kvF (mP P))
  let S : Option D → Option D → En := fun x2 x3 => ⟨[some (.str T), some F, x2, x3, none], []⟩
  refine wp_seq (wp_set (d := F) (e1 := ⟨[some (.str T), none, none, none, none], []⟩) (fcall (ds := [.str T]) rfl rfl (rows_eq r) (frzT_kv _)) (?_ : Wp _ (S none none) _ _))
  have gx : ∀ {x2 x3 : Option D} {i : Nat}, i ≤ 4 → bin dIxA (eVar 1) (eC (.str (hdN i))) (S x2 x3) = .ok (.lst ((sel i (mP P)).map eLn)) (S x2 x3) := fun h => bin_s (x := F) (y := .str (hdN _)) rfl rfl (ix_hd h _)
  have gl : ∀ {x2 x3 : Option D} {i : Nat}, i ≤ 4 → un dLen (bin dIxA (eVar 1) (eC (.str (hdN i)))) (S x2 x3) = .ok (.int (sel i (mP P)).length) (S x2 x3) := fun h => un_ok (gx h) (by rw [dLen_lst, List.length_map])
  have l0 : (sel 0 (mP P)).length = 1 := by rw [s0]; rfl
  have l1 : (sel 1 (mP P)).length = 1 := by rw [s1]; rfl
  have l4 : (sel 4 (mP P)).length ≤ 1 := by rw [s4]; split <;> simp
  have n1 : ∀ {i : Nat}, i ≤ 4 → (sel i (mP P)).length = 1 → eTest (bin dNeA (un dLen (bin dIxA (eVar 1) (eC (.str (hdN i))))) (eC (.int 1))) (S none none) = .ok false (S none none) := fun h h1 => eTest_ok (bin_s (x := .int _) (y := .int 1) (gl h) rfl (by rw [h1]; rfl))
  have n4 : eTest (bin dGt (un dLen (bin dIxA (eVar 1) (eC (.str (hdN 4))))) (eC (.int 1))) (S none none) = .ok false (S none none) := eTest_ok (bin_s (x := .int _) (y := .int 1) (gl (by omega)) rfl (by rw [dGt_int]; congr 2; simp; omega))
  refine wp_seq (wp_if (k := false) (e1 := S none none) (tOr_f (e1 := S none none) rfl (tOr_f (n1 (i := 0) (by omega) l0) (tOr_f (n1 (i := 1) (by omega) l1) n4))) (fun h => by cases h) fun _ => wp_next ?_)
  have hne3 : frzE (eLc (itSeq (frzE (bin dAddA (bin dIxA (eVar 1) (eC (.str "deed"))) (bin dIxA (eVar 1) (eC (.str "hear")))))) (gN 4) (eTest (bin dNeA (un dLen (eVar 4)) (eC (.int 3)))) (eVar 4) [4]) (S none none) = .ok (.lst []) (S none none) := by
    refine frzE_ok (d := .olst []) ?_ rfl
    have hit : itSeq (frzE (bin dAddA (bin dIxA (eVar 1) (eC (.str "deed"))) (bin dIxA (eVar 1) (eC (.str "hear"))))) (S none none) = .ok ((P.ds ++ P.es).map fun e => eLn (wdE P e)) (S none none) := by
      refine itSeq_ok (d := .lst ((P.ds ++ P.es).map fun e => eLn (wdE P e))) (frzE_ok (d := .olst ((P.ds ++ P.es).map fun e => eLn (wdE P e))) (bin_s (gx (i := 2) (by omega)) (gx (i := 3) (by omega)) ?_) (frzD_gen (fun e => eLn (wdE P e)) (fun _ => rfl) _)) rfl
      rw [s2, s3, addL (by simp; omega), ← List.map_append, List.map_map]
      rfl
    have := eLc_ok (e := S none none) (e1 := S none none) (enc := fun e => eLn (wdE P e)) (l := P.ds ++ P.es) (p := fun _ => false) (r := fun e => eLn (wdE P e)) (g := gN 4) (tt := eTest (bin dNeA (un dLen (eVar 4)) (eC (.int 3)))) (te := eVar 4) (vs := [4]) hit (by simp; unfold LIM; omega) rfl rfl fun a ha => ⟨_, rfl, rfl, (fun h => by cases h), rfl⟩
    rw [this]
    simp
  have hin : eTest (bin dInA (frzE (eLst aNil)) (bin dIxA (eVar 1) (eC (.str "lost")))) (S none none) = .ok false (S none none) := eTest_ok (bin_s (x := .lst []) (y := .lst ((sel 4 (mP P)).map eLn)) rfl (gx (i := 4) (by omega)) (in_nil fun l hl => by
    rw [s4] at hl
    split at hl
    · cases hl
    · rename_i c
      rw [List.mem_singleton.mp hl]
      exact c))
  refine wp_seq (wp_if (k := false) (e1 := S none none) (tOr_f (eTest_ok (bin_s (x := .lst []) (y := .olst []) hne3 rfl rfl)) hin) (fun h => by cases h) fun _ => wp_next ?_)
  have hds : frzE (eLc (itSeq (bin dIxA (eVar 1) (eC (.str "deed")))) (gN 4) tYesD (eTup (aCons (bin dIxA (eVar 4) (eC (.int 0))) (aCons (eIf (eTest (bin dEqA (bin dIxA (eVar 4) (eC (.int 1))) (eC (.str "_")))) (eC .non) (bin dIxA (eVar 4) (eC (.int 1)))) (aCons (bin dIxA (eVar 4) (eC (.int 2))) aNil)))) [4]) (S none none) = .ok (.lst (P.ds.map (eE P))) (S none none) := by
    refine frzE_ok (d := .olst (P.ds.map (eE P))) ?_ (frzD_gen (eE P) (fun _ => rfl) _)
    refine eLc_map (enc := fun e => eLn (wdE P e)) (l := P.ds) (itSeq_ok (d := .lst (P.ds.map fun e => eLn (wdE P e))) ((gx (i := 2) (by omega)).trans (by rw [s2, List.map_map]; rfl)) rfl) (by unfold LIM; omega) rfl rfl fun a ha => ?_
    let U : En := ⟨[some (.str T), some F, none, none, some (eLn (wdE P a))], []⟩
    refine ⟨U, rfl, ?_, rfl⟩
    have k0 : bin dIxA (eVar 4) (eC (.int 0)) U = .ok (.str (P.nm a.bh a.pl)) U := bin_s (x := eLn (wdE P a)) (y := .int 0) rfl rfl (ix0 _ _)
    have k1 : bin dIxA (eVar 4) (eC (.int 1)) U = .ok (.str (a.sn.getD "_")) U := bin_s (x := eLn (wdE P a)) (y := .int 1) rfl rfl (ix1 _ _ _)
    have k2 : bin dIxA (eVar 4) (eC (.int 2)) U = .ok (.str (P.nm a.bh a.ot)) U := bin_s (x := eLn (wdE P a)) (y := .int 2) rfl rfl (ix2 _ _ _ _)
    have kt : eIf (eTest (bin dEqA (bin dIxA (eVar 4) (eC (.int 1))) (eC (.str "_")))) (eC .non) (bin dIxA (eVar 4) (eC (.int 1))) U = .ok (eO a.sn) U := by
      cases hs : a.sn with
      | none =>
        rw [hs] at k1
        exact eIf_t (eTest_ok (bin_s (x := .str "_") (y := .str "_") k1 rfl (by rw [dEqA_str]; rfl))) rfl
      | some x =>
        rw [hs] at k1
        have hx := (w.d a ha x hs).2
        exact eIf_f (eTest_ok (bin_s (x := .str x) (y := .str "_") k1 rfl (by rw [dEqA_str]; congr 2; simpa using hx))) k1
    exact eTup_ok3 k0 kt k2
  refine wp_seq (wp_set (d := .lst (P.ds.map (eE P))) hds (?_ : Wp _ (S (some (.lst (P.ds.map (eE P)))) none) _ _))
  have hls : eIf (eTest (bin dNeA (bin dIxA (eVar 1) (eC (.str "lost"))) (eLst aNil))) (bin dIxA (bin dIxA (eVar 1) (eC (.str "lost"))) (eC (.int 0))) (frzE (eLst aNil)) (S (some (.lst (P.ds.map (eE P)))) none) = .ok (.lst (eStr P.ls)) (S (some (.lst (P.ds.map (eE P)))) none) := by
    have q := gx (x2 := some (.lst (P.ds.map (eE P)))) (x3 := none) (i := 4) (by omega)
    have hn := bin_s (g := dNeA) (f2 := eLst aNil) (y := .olst []) q rfl (dNeA_nil (pln_lns 10 _))
    by_cases c : P.ls = []
    · rw [s4, if_pos c] at hn
      rw [c]
      exact eIf_f (eTest_ok hn) rfl
    · rw [s4, if_neg c] at hn q
      exact eIf_t (eTest_ok hn) (bin_s (x := .lst [eLn P.ls]) (y := .int 0) q rfl rfl)
  refine wp_seq (wp_set (d := .lst (eStr P.ls)) hls (?_ : Wp _ (S (some (.lst (P.ds.map (eE P)))) (some (.lst (eStr P.ls)))) _ _))
  let Z : En := S (some (.lst (P.ds.map (eE P)))) (some (.lst (eStr P.ls)))
  have hes : frzE (eLc (itSeq (bin dIxA (eVar 1) (eC (.str "hear")))) (gN 4) tYesD (un dTuple (eVar 4)) [4]) Z = .ok (.lst (P.es.map (eE P))) Z := by
    refine frzE_ok (d := .olst (P.es.map (eE P))) ?_ (frzD_gen (eE P) (fun _ => rfl) _)
    refine eLc_map (enc := fun e => eLn (wdE P e)) (l := P.es) (itSeq_ok (d := .lst (P.es.map fun e => eLn (wdE P e))) ((gx (i := 3) (by omega)).trans (by rw [s3, List.map_map]; rfl)) rfl) (by unfold LIM; omega) rfl rfl fun a ha => ?_
    obtain ⟨x, hx, _⟩ := (ok.es a ha).2
    refine ⟨_, rfl, ?_, rfl⟩
    refine un_ok (d := eLn (wdE P a)) rfl ?_
    unfold eE wdE
    rw [hx]
    rfl
  have q0 : bin dIxA (bin dIxA (eVar 1) (eC (.str "houses"))) (eC (.int 0)) Z = .ok (.lst (eStr P.H)) Z := bin_s (x := .lst [eLn P.H]) (y := .int 0) ((gx (i := 0) (by omega)).trans (by rw [s0]; rfl)) rfl rfl
  have q1 : bin dIxA (bin dIxA (eVar 1) (eC (.str "stands"))) (eC (.int 0)) Z = .ok (.lst (eStr P.S)) Z := bin_s (x := .lst [eLn P.S]) (y := .int 0) ((gx (i := 1) (by omega)).trans (by rw [s1]; rfl)) rfl rfl
  exact wp_ret (d := eBk P) (e1 := Z) (call_ok (aCons_ok q0 (aCons_ok q1 (aCons_ok rfl (aCons_ok hes (aCons_ok rfl rfl))))) (.inl rfl) (book_eq ok)) ⟨rfl, rfl⟩
theorem read_eq {P : Pt} (ok : P.Ok) (w : Wd1 P) {T : Str} (r : RowsOf T (mP P)) : fn_read_book [.str T] = .ok (eBk P) := by
  refine run_eq rfl ?_
  unfold bd_read_book
  let S : Option D → En := fun x => ⟨[some (.str T), x], []⟩
  refine wp_seq (wp_set (d := eBk P) (e1 := S none) (eIf_t (eTest_ok (k := true) (un_ok (d := .str T) rfl (isi_str T))) (fcall (ds := [.str T]) rfl rfl (read_in ok w r) rfl)) (?_ : Wp _ (S (some (eBk P))) _ _))
  refine wp_seq (wp_if (k := false) (e1 := S (some (eBk P))) rfl (fun h => by cases h) fun _ => wp_next ?_)
  exact wp_ret (d := eBk P) (e1 := S (some (eBk P))) rfl ⟨rfl, rfl⟩
open PySem L2 TL
def Chr (x : Str) : Prop := ∀ c ∈ tl x, c ≠ 10 ∧ c < 0x110000
theorem Chr.ok {x : Str} (h : Chr x) : PyData.strOk x = true := (ok_tl x).mpr fun c hc => (h c hc).2
theorem Chr.free {x : Str} (h : Chr x) : 10 ∉ tl x := fun hc => (h _ hc).1 rfl
theorem Chr.app {x y : Str} (h : Chr x) (k : Chr y) : Chr (x ++ y) := fun c hc => by
  rw [tl_append] at hc
  rcases List.mem_append.mp hc with hc | hc
  · exact h c hc
  · exact k c hc
theorem chr_sp {x : Str} {k : Nat} (h : tl x = List.replicate k 32) : Chr x := fun c hc => by
  rw [h] at hc
  rw [List.eq_of_mem_replicate hc]
  exact ⟨by omega, by omega⟩
theorem Tok.chr {x : Str} (h : Tok x) : Chr x := fun c hc => ⟨fun e => h.l (e ▸ hc), (ok_tl x).mp h.o c hc⟩
theorem len_app (x y : Str) : (x ++ y).length = x.length + y.length := by rw [len_tl, tl_append, List.length_append, len_tl, len_tl]
def bl : Nat → Str
  | 0 => ""
  | 1 => " "
  | _ => "   "
def bk : Nat → Nat
  | 0 => 0
  | 1 => 1
  | _ => 3
theorem bl_tl {r : Nat} (h : r < 3) : tl (bl r) = List.replicate (bk r) 32 := by
  have : r = 0 ∨ r = 1 ∨ r = 2 := by omega
  rcases this with rfl | rfl | rfl <;> rfl
theorem bl_len {r : Nat} (h : r < 3) : (bl r).length ≤ 3 := by
  have : r = 0 ∨ r = 1 ∨ r = 2 := by omega
  rcases this with rfl | rfl | rfl <;> decide
abbrev BL : List Str := ["", " ", "   "]
theorem ix_bl {r : Nat} (h : r < 3) : dIxA (.lst (eStr BL)) (eN r) = some (.str (bl r)) := by
  have : r = 0 ∨ r = 1 ∨ r = 2 := by omega
  rcases this with rfl | rfl | rfl
  · exact dIxA_lst (i := 0) rfl rfl
  · exact dIxA_lst (i := 1) rfl rfl
  · exact dIxA_lst (i := 2) rfl rfl
theorem cat_ok {x y : Str} (hx : Chr x) (hy : Chr y) (h : x.length + y.length ≤ 1000) : dAddA (.str x) (.str y) = some (.str (x ++ y)) := by
  have h1 : dCatS (.str x) (.str y) = some (.str (x ++ y)) := if_pos ⟨by unfold LIM; omega, (hx.app hy).ok⟩
  have h2 : dAddI (.str x) (.str y) = none := rfl
  have h3 : dCatT (.str x) (.str y) = none := rfl
  simp only [dAddA, orD, h1, h2, h3]
def spn (k : Nat) : Str := Txt.mul " " (k : Int)
theorem chr_spn (k : Nat) : Chr (spn k) := chr_sp (mul_sp k)
theorem len_spn (k : Nat) : (spn k).length = k := by rw [len_tl, show tl (spn k) = _ from mul_sp k, List.length_replicate]
theorem mulS_ok {k : Nat} (h : k ≤ 10000) : dMulAS (.str " ") (.int (k : Int)) = some (.str (spn k)) := by
  have h1 : dMulS (.str " ") (.int (k : Int)) = some (.str (spn k)) := if_pos ⟨by omega, by omega, by decide, (chr_spn k).ok⟩
  have h2 : dMulA (.str " ") (.int (k : Int)) = none := rfl
  simp only [dMulAS, orD, h1, h2]
theorem mulL_ok (x : Str) {k : Nat} (h : k < 2) : dMulAS (.lst [.str x]) (.int (k : Int)) = some (.olst (eStr (List.replicate k x))) := by
  have : k = 0 ∨ k = 1 := by omega
  rcases this with rfl | rfl <;> rfl
theorem rstrip_ok {x : Str} (hx : Chr x) (h : x.length ≤ 1000) : dRstrip (.str x) (.str " ") = some (.str (Txt.rstripChars x " ")) ∧ Chr (Txt.rstripChars x " ") ∧ (Txt.rstripChars x " ").length ≤ x.length ∧ tk (tl (Txt.rstripChars x " ")) = tk (tl x) := by
  obtain ⟨k, hk⟩ := rstrip_tl x
  have hc : Chr (Txt.rstripChars x " ") := fun c hc => hx c (by rw [hk]; exact List.mem_append_left _ hc)
  refine ⟨if_pos ⟨by unfold LIM; omega, hc.ok⟩, hc, ?_, ?_⟩
  · have := congrArg List.length hk
    rw [List.length_append] at this
    rw [len_tl, len_tl]
    omega
  · rw [hk, tk_sp]
theorem add1 {f : EM} {e1 e2 : En} {r : Nat} (h : f e1 = .ok (eN r) e2) : bin dAddA (eC (.int 1)) f e1 = .ok (eN (r + 1)) e2 := by
  refine bin_ok (x := .int 1) (e1 := e1) rfl h ?_
  rw [dAddA_int]
  congr 2
  omega
theorem catLl_ok {A B : List Str} (h : A.length + B.length ≤ 1000) : dAddA (.lst (eStr A)) (.olst (eStr B)) = some (.olst (eStr (A ++ B))) := by
  have fA : litems? (.olst (eStr B)) = some (eStr B) := by
    show (if (eStr B).all isF then _ else _) = _
    rw [if_pos]
    simp [eStr, List.all_map, Function.comp_def]
  have hc : (eStr A).length + (eStr B).length ≤ LIM := by simp [eStr]; unfold LIM; omega
  have h3 : dCatL (.lst (eStr A)) (.olst (eStr B)) = some (.olst (eStr (A ++ B))) := by
    unfold dCatL
    rw [fA, show litems? (.lst (eStr A)) = some (eStr A) from rfl]
    simp only [Option.bind_some]
    rw [if_pos hc]
    simp only [eStr, List.map_append]
  have h1 : dAddI (.lst (eStr A)) (.olst (eStr B)) = none := rfl
  have h2 : dCatT (.lst (eStr A)) (.olst (eStr B)) = none := rfl
  have h4 : dCatS (.lst (eStr A)) (.olst (eStr B)) = none := rfl
  simp only [dAddA, orD, h1, h2, h3, h4]
theorem wds_sp {x : Str} {k : Nat} (h : tl x = List.replicate k 32) : wds x = [] := wds_eq (by
  rw [h]
  have := tk_sp [] k
  rw [List.nil_append] at this
  rw [this]
  rfl)
structure Way (p : List Str) (x : Str) : Prop where
  c : Clr (tl x)
  t : tk (tl x) = p.map tl
  k : Chr x
  l : x.length ≤ 3 + 11 * p.length
theorem Way.put {p : List Str} {x t : Str} {r : Nat} (w : Way p x) (ht : Tok t) (hr : r < 3) : Way (p ++ [t]) (x ++ t ++ spn (r + 1)) := by
  have e : tl (x ++ t ++ spn (r + 1)) = tl x ++ tl t ++ List.replicate (r + 1) 32 := by rw [tl_append, tl_append, show tl (spn (r + 1)) = _ from mul_sp _]
  refine ⟨?_, ?_, (w.k.app ht.chr).app (chr_spn _), ?_⟩
  · rw [e]; exact clr_put _ _ (by omega)
  · rw [e, tk_put w.c ht.b ht.n, w.t, List.map_append]; rfl
  · have := w.l
    have := ht.s
    rw [len_app, len_app, len_spn, List.length_append]
    simp only [List.length_cons, List.length_nil]
    omega
structure Rws (p : List (List Str)) (R : List Str) : Prop where
  w : (R.map wds).filter (fun l => !l.isEmpty) = p
  k : ∀ y ∈ R, Chr y ∧ y.length ≤ 100
  l : R.length ≤ 2 * p.length
theorem Rws.put {p : List (List Str)} {R : List Str} {l : List Str} {y : Str} (r : Rws p R) (hn : l ≠ []) (hy : wds y = l) (hc : Chr y) (hl : y.length ≤ 100) : Rws (p ++ [l]) (R ++ [y]) ∧ ∀ {z : Str} {k : Nat}, tl z = List.replicate k 32 → k ≤ 100 → Rws (p ++ [l]) (R ++ [y] ++ [z]) := by
  have h1 : Rws (p ++ [l]) (R ++ [y]) := by
    refine ⟨?_, fun q hq => ?_, ?_⟩
    · rw [List.map_append, List.filter_append, r.w]
      congr 1
      simp only [List.map_cons, List.map_nil, hy]
      cases l with
      | nil => exact absurd rfl hn
      | cons _ _ => rfl
    · rcases List.mem_append.mp hq with hq | hq
      · exact r.k q hq
      · rw [List.mem_singleton.mp hq]; exact ⟨hc, hl⟩
    · have := r.l
      simp only [List.length_append, List.length_cons, List.length_nil]
      omega
  refine ⟨h1, fun {z k} hz hk => ⟨?_, fun q hq => ?_, ?_⟩⟩
  · rw [List.map_append, List.filter_append, h1.w]
    simp [wds_sp hz]
  · rcases List.mem_append.mp hq with hq | hq
    · exact h1.k q hq
    · rw [List.mem_singleton.mp hq]
      refine ⟨chr_sp hz, ?_⟩
      rw [len_tl, hz, List.length_replicate]
      exact hk
  · have := r.l
    simp only [List.length_append, List.length_cons, List.length_nil]
    omega
theorem split_joinC {R : List Str} (hn : R ≠ []) (h : ∀ y ∈ R, Chr y) : Txt.split (Txt.join "\n" R) "\n" = R :=
  split_join (y := "\n") (s := 10) (S := []) rfl (by decide +kernel) hn fun p hp => (h p hp).free
theorem spaced_eq {N n : Nat} {mu : Mu} {L : List (List Str)} (hL : Lns L) (hne : L ≠ []) (hg : Gen N n mu) (hN : N + 1000 < 1000000) :
    ∃ (d : D) (mu' : Mu), fn__law_spaced mu [.loc n, .lst (L.map eLn)] = .ok d mu' ∧ (∃ T, d = .str T ∧ Sp T L ∧ PyData.strOk T = true ∧ T.length ≤ 900000) ∧ Gen (N + 700) n mu' ∧ mu'.length = mu.length := by
  refine run_f (P := fun d mu' => (∃ T, d = .str T ∧ Sp T L ∧ PyData.strOk T = true ∧ T.length ≤ 900000) ∧ Gen (N + 700) n mu' ∧ mu'.length = mu.length) rfl ?_
  unfold bd__law_spaced
  let S : Option D → List Str → Option D → Option D → Mu → En := fun x2 R x5 x6 mu => ⟨[some (.loc n), some (.lst (L.map eLn)), x2, some (.lst (eStr BL)), some (.olst (eStr R)), x5, x6], mu⟩
  have hs := hL.s
  refine wp_seq (wp_mix (ds := [.lst (eStr BL), .olst []]) (e1 := ⟨[some (.loc n), some (.lst (L.map eLn)), none, none, none, none, none], mu⟩) (e2 := S none [] none none mu) rfl (lst2 _ _) rfl ?_)
  refine wp_seq (wp_for (enc := eLn) (l := L) (e1 := S none [] none none mu) (fun p e => ∃ x2 R x5 x6 mu', e = S x2 R x5 x6 mu' ∧ Rws p R ∧ Gen (N + 20 * p.length) n mu' ∧ mu'.length = mu.length) (itSeq_ok (d := .lst (L.map eLn)) rfl rfl) ⟨none, [], none, none, mu, rfl, ⟨rfl, (fun _ h => by cases h), Nat.zero_le _⟩, hg.mono (by simp), rfl⟩ ?_ ?_)
  · rintro p l q e' hp ⟨x2, R, x5, x6, mu1, rfl, hR, hg1, hm1⟩
    have hlm : l ∈ L := by rw [hp]; simp
    have hpl : p.length < 30 := by
      have := congrArg List.length hp
      simp at this; omega
    have hl6 := (hL.n l hlm).2
    refine ⟨S (some (eLn l)) R x5 x6 mu1, rfl, ?_⟩
    obtain ⟨r1, m1, a1, _, b1, c1, d1⟩ := rnd (sl := [some (.loc n), some (.lst (L.map eLn)), some (eLn l), some (.lst (eStr BL)), some (.olst (eStr R)), x5, x6]) (mu := mu1) (fk := eC (.int 3)) (k := 3) rfl rfl hg1 (by omega) (by omega) (by omega)
    refine wp_seq (wp_set (d := .str (bl r1)) (e1 := S (some (eLn l)) R x5 x6 m1) (bin_ok (x := .lst (eStr BL)) (e1 := S (some (eLn l)) R x5 x6 mu1) rfl a1 (ix_bl b1)) ?_)
    refine wp_seq (wp_for (enc := D.str) (l := l) (e1 := S (some (eLn l)) R (some (.str (bl r1))) x6 m1) (fun p2 e => ∃ x x6 mu', e = S (some (eLn l)) R (some (.str x)) x6 mu' ∧ Way p2 x ∧ Gen (N + 20 * p.length + 1 + p2.length) n mu' ∧ mu'.length = mu.length) (itSeq_ok (d := eLn l) rfl rfl) ⟨bl r1, x6, m1, rfl, ⟨by rw [bl_tl b1]; exact clr_sp _, ?_, chr_sp (bl_tl b1), bl_len b1⟩, c1.mono (by simp), by omega⟩ ?_ ?_)
    · rw [bl_tl b1]
      have := tk_sp [] (bk r1)
      rw [List.nil_append] at this
      rw [this]; rfl
    · rintro p2 t q2 e2 hp2 ⟨x, x6', mu2, rfl, hw, hg2, hm2⟩
      have ht : Tok t := hL.t l hlm t (by rw [hp2]; simp)
      have hp2l : p2.length < 6 := by
        have := congrArg List.length hp2
        simp at this; omega
      have hxl := hw.l
      have htl := ht.s
      refine ⟨S (some (eLn l)) R (some (.str x)) (some (.str t)) mu2, rfl, ?_⟩
      obtain ⟨r2, m2, a2, _, b2, c2, d2⟩ := rnd (sl := [some (.loc n), some (.lst (L.map eLn)), some (eLn l), some (.lst (eStr BL)), some (.olst (eStr R)), some (.str x), some (.str t)]) (mu := mu2) (fk := eC (.int 3)) (k := 3) rfl rfl hg2 (by omega) (by omega) (by omega)
      have hlx : (x ++ t).length ≤ 100 := by rw [len_app]; omega
      have f1 : frzE (bin dAddA (eVar 5) (eVar 6)) (S (some (eLn l)) R (some (.str x)) (some (.str t)) mu2) = .ok (.str (x ++ t)) (S (some (eLn l)) R (some (.str x)) (some (.str t)) mu2) := frzE_ok (bin_s (x := .str x) (y := .str t) rfl rfl (cat_ok hw.k ht.chr (by omega))) rfl
      have f2 : bin dMulAS (eC (.str " ")) (bin dAddA (eC (.int 1)) (eCall fn__law_random (aCons (eVar 0) (aCons (eC (.int 3)) aNil)))) (S (some (eLn l)) R (some (.str x)) (some (.str t)) mu2) = .ok (.str (spn (r2 + 1))) (S (some (eLn l)) R (some (.str x)) (some (.str t)) m2) := bin_ok (x := .str " ") rfl (add1 a2) (mulS_ok (by omega))
      refine wp_set (d := .str (x ++ t ++ spn (r2 + 1))) (e1 := S (some (eLn l)) R (some (.str x)) (some (.str t)) m2) (frzE_ok (bin_ok f1 f2 (cat_ok (hw.k.app ht.chr) (chr_spn _) (by rw [len_spn]; omega))) rfl) ⟨x ++ t ++ spn (r2 + 1), some (.str t), m2, rfl, hw.put ht b2, c2.mono ?_, by omega⟩
      simp; omega
    · rintro e2 ⟨x, x6', mu2, rfl, hw, hg2, hm2⟩
      have hxl := hw.l
      obtain ⟨s1, s2, s3, s4⟩ := rstrip_ok hw.k (by omega)
      obtain ⟨z, hz⟩ : ∃ z, z = Txt.rstripChars x " " := ⟨_, rfl⟩
      rw [← hz] at s1 s2 s3 s4
      obtain ⟨r3, m3, a3, _, b3, c3, d3⟩ := rnd (sl := [some (.loc n), some (.lst (L.map eLn)), some (eLn l), some (.lst (eStr BL)), some (.olst (eStr R)), some (.str x), x6']) (mu := mu2) (fk := eC (.int 3)) (k := 3) rfl rfl hg2 (by omega) (by omega) (by omega)
      have hbl := bl_len b3
      have hy : wds (z ++ bl r3) = l := wds_eq (by rw [tl_append, bl_tl b3, tk_sp, s4, hw.t])
      have hyc : Chr (z ++ bl r3) := s2.app (chr_sp (bl_tl b3))
      have hyl : (z ++ bl r3).length ≤ 100 := by rw [len_app]; omega
      have f1 : binG isStr dRstrip (eVar 5) (eC (.str " ")) (S (some (eLn l)) R (some (.str x)) x6' mu2) = .ok (.str z) (S (some (eLn l)) R (some (.str x)) x6' mu2) := binG_ok (x := .str x) (y := .str " ") rfl rfl rfl s1
      have f2 : bin dIxA (eVar 3) (eCall fn__law_random (aCons (eVar 0) (aCons (eC (.int 3)) aNil))) (S (some (eLn l)) R (some (.str x)) x6' mu2) = .ok (.str (bl r3)) (S (some (eLn l)) R (some (.str x)) x6' m3) := bin_ok (x := .lst (eStr BL)) (e1 := S (some (eLn l)) R (some (.str x)) x6' mu2) rfl a3 (ix_bl b3)
      have hRl := hR.l
      refine wp_seq (wp_appM (ds := eStr R) (d := .str (z ++ bl r3)) (mu' := m3) rfl (frzE_ok (bin_ok f1 f2 (cat_ok s2 (chr_sp (bl_tl b3)) (by omega))) rfl) (by simp [eStr]; unfold LIM; omega) ?_)
      have eR : (eStr R ++ [D.str (z ++ bl r3)]) = eStr (R ++ [z ++ bl r3]) := by simp only [eStr, List.map_append, List.map_cons, List.map_nil]
      simp only [List.set_cons_succ, List.set_cons_zero]
      rw [eR]
      obtain ⟨r4, m4, _, a4, b4, c4, d4⟩ := rnd (sl := [some (.loc n), some (.lst (L.map eLn)), some (eLn l), some (.lst (eStr BL)), some (.olst (eStr (R ++ [z ++ bl r3]))), some (.str x), x6']) (mu := m3) (fk := eC (.int 3)) (k := 3) rfl rfl c3 (by omega) (by omega) (by omega)
      obtain ⟨p1, p2'⟩ := hR.put (hL.n l hlm).1 hy hyc hyl
      refine wp_if (k := (r4 : Int) == 0) (e1 := S (some (eLn l)) (R ++ [z ++ bl r3]) (some (.str x)) x6' m4) (eTest_ok (bin_ok (x := eN r4) (y := .int 0) a4 rfl (by rw [dEqA_int]))) (fun _ => ?_) fun _ => wp_next ⟨_, R ++ [z ++ bl r3], _, _, m4, rfl, p1, c4.mono (by simp; omega), by omega⟩
      obtain ⟨r5, m5, a5, _, b5, c5, d5⟩ := rnd (sl := [some (.loc n), some (.lst (L.map eLn)), some (eLn l), some (.lst (eStr BL)), some (.olst (eStr (R ++ [z ++ bl r3]))), some (.str x), x6']) (mu := m4) (fk := eC (.int 3)) (k := 3) rfl rfl c4 (by omega) (by omega) (by omega)
      have hb5 := bl_len b5
      rw [len_tl, bl_tl b5, List.length_replicate] at hb5
      refine wp_appM (ds := eStr (R ++ [z ++ bl r3])) (d := .str (bl r5)) (mu' := m5) rfl (bin_ok (x := .lst (eStr BL)) (e1 := S (some (eLn l)) (R ++ [z ++ bl r3]) (some (.str x)) x6' m4) rfl a5 (ix_bl b5)) (by simp [eStr]; unfold LIM; omega) ⟨some (eLn l), R ++ [z ++ bl r3] ++ [bl r5], some (.str x), x6', m5, ?_, p2' (bl_tl b5) (by omega), c5.mono (by simp; omega), by omega⟩
      simp only [S, List.set_cons_succ, List.set_cons_zero, eStr, List.map_append, List.map_cons, List.map_nil]
  · rintro e' ⟨x2, R, x5, x6, mu1, rfl, hR, hg1, hm1⟩
    have hRl := hR.l
    obtain ⟨r1, m1, a1, _, b1, c1, d1⟩ := rnd (sl := [some (.loc n), some (.lst (L.map eLn)), x2, some (.lst (eStr BL)), some (.olst (eStr R)), x5, x6]) (mu := mu1) (fk := eC (.int 2)) (k := 2) rfl rfl hg1 (by omega) (by omega) (by omega)
    obtain ⟨r2, m2, a2, _, b2, c2, d2⟩ := rnd (sl := [some (.loc n), some (.lst (L.map eLn)), x2, some (.lst (eStr BL)), some (.olst (eStr R)), x5, x6]) (mu := m1) (fk := eC (.int 2)) (k := 2) rfl rfl c1 (by omega) (by omega) (by omega)
    let E : Mu → En := fun mu => S x2 R x5 x6 mu
    have f1 : frzE (bin dMulAS (frzE (eLst (aCons (eC (.str "")) aNil))) (eCall fn__law_random (aCons (eVar 0) (aCons (eC (.int 2)) aNil)))) (E mu1) = .ok (.lst (eStr (List.replicate r1 ("" : Str)))) (E m1) := frzE_ok (d := .olst (eStr (List.replicate r1 ("" : Str)))) (bin_ok (x := .lst [.str ""]) (e1 := E mu1) rfl a1 (mulL_ok "" b1)) (frz_str _)
    have f2 : bin dMulAS (frzE (eLst (aCons (eC (.str " ")) aNil))) (eCall fn__law_random (aCons (eVar 0) (aCons (eC (.int 2)) aNil))) (E m1) = .ok (.olst (eStr (List.replicate r2 (" " : Str)))) (E m2) := bin_ok (x := .lst [.str " "]) (e1 := E m1) rfl a2 (mulL_ok " " b2)
    have f3 : frzE (bin dAddA (frzE (bin dMulAS (frzE (eLst (aCons (eC (.str "")) aNil))) (eCall fn__law_random (aCons (eVar 0) (aCons (eC (.int 2)) aNil))))) (eBor 4)) (E mu1) = .ok (.lst (eStr (List.replicate r1 ("" : Str) ++ R))) (E m1) := frzE_ok (d := .olst (eStr (List.replicate r1 ("" : Str) ++ R))) (bin_ok f1 (y := .olst (eStr R)) rfl (catLl_ok (by simp; omega))) (frz_str _)
    let Z : List Str := List.replicate r1 ("" : Str) ++ R ++ List.replicate r2 (" " : Str)
    have f4 : frzE (bin dAddA (frzE (bin dAddA (frzE (bin dMulAS (frzE (eLst (aCons (eC (.str "")) aNil))) (eCall fn__law_random (aCons (eVar 0) (aCons (eC (.int 2)) aNil))))) (eBor 4))) (bin dMulAS (frzE (eLst (aCons (eC (.str " ")) aNil))) (eCall fn__law_random (aCons (eVar 0) (aCons (eC (.int 2)) aNil))))) (E mu1) = .ok (.lst (eStr Z)) (E m2) := frzE_ok (d := .olst (eStr Z)) (bin_ok f3 f2 (catLl_ok (by simp; omega))) (frz_str _)
    have hZ : ∀ y ∈ Z, Chr y ∧ y.length ≤ 100 := fun y hy => by
      rcases List.mem_append.mp hy with hy | hy
      · rcases List.mem_append.mp hy with hy | hy
        · rw [List.eq_of_mem_replicate hy]
          exact ⟨chr_sp (k := 0) rfl, by decide⟩
        · exact hR.k y hy
      · rw [List.eq_of_mem_replicate hy]
        exact ⟨chr_sp (k := 1) rfl, by decide⟩
    have hZl : Z.length ≤ 64 := by simp [Z]; omega
    have hZw : (Z.map wds).filter (fun l => !l.isEmpty) = L := by
      have n1 : ∀ (k : Nat) (y : Str), wds y = [] → ((List.replicate k y).map wds).filter (fun l => !l.isEmpty) = [] := fun k y hy => by
        rw [List.map_replicate, hy, List.filter_eq_nil_iff]
        intro a ha
        rw [List.eq_of_mem_replicate ha]
        simp
      simp only [Z, List.map_append, List.filter_append, hR.w]
      rw [n1 _ _ (wds_sp (k := 0) rfl), n1 _ _ (wds_sp (k := 1) rfl)]
      simp
    have hZn : Z ≠ [] := fun h => by
      rw [h] at hZw
      exact hne hZw.symm
    have hsum : (Z.map Str.length).sum + Z.length * ("\n" : Str).length ≤ 900000 := by
      have := sum_le Str.length 100 fun y hy => (hZ y hy).2
      have e : ("\n" : Str).length = 1 := rfl
      rw [e]
      omega
    have hok : PyData.strOk (Txt.join "\n" Z) = true := joinT_ok (by decide +kernel) fun y hy => (hZ y hy).1.ok
    refine wp_ret (d := .str (Txt.join "\n" Z)) (e1 := E m2) (binG_ok (x := .str "\n") (y := .lst (eStr Z)) rfl rfl f4 (dJoin_ok (by unfold LIM; omega) hok)) ⟨⟨_, rfl, ?_, hok, Nat.le_trans (join_len _ _) hsum⟩, c2.mono (by omega), by show m2.length = _; omega⟩
    unfold Sp
    rw [split_joinC hZn fun y hy => (hZ y hy).1, hZw]
open PySem L2 TL
structure ShD (d : D) (w : Nat) : Prop where
  i : (pd d).intsShort 13 = true
  s : (pd d).showable = true
  w : (pd d).weight ≤ w
theorem sh_int {i : Int} (h : i.natAbs ≤ 100) : ShD (.int i) 7 := by
  refine ⟨?_, ?_, ?_⟩
  · simp only [pd, PyData.intsShort, decide_eq_true_eq]
    exact PyData.shown_int_le (by omega)
  · simp only [pd, PyData.showable, decide_eq_true_eq]
    exact Nat.lt_of_le_of_lt (Nat.log2_le_self _) (by omega)
  · simp only [pd, PyData.weight]
    split
    · omega
    · rename_i hz
      have hz : ¬ i = 0 := by simpa using hz
      have : i.natAbs.log2 < 7 := (Nat.log2_lt (by omega)).mpr (by omega)
      omega
theorem sh_str {s : Str} (h : s.cps.size ≤ 8) : ShD (.str s) 8 := ⟨rfl, rfl, by simpa only [pd, PyData.weight] using h⟩
theorem sh_non : ShD .non 0 := ⟨rfl, rfl, Nat.le_refl 0⟩
theorem sh_all {w : Nat} : ∀ {ds : List D}, (∀ d ∈ ds, ShD d w) → PyData.intsShortAll 13 (pdL ds) = true ∧ PyData.showableAll (pdL ds) = true ∧ PyData.weightAll (pdL ds) ≤ ds.length * (w + 1)
  | [], _ => ⟨rfl, rfl, Nat.zero_le _⟩
  | d :: ds, h => by
    obtain ⟨h1, h2, h3⟩ := h d (by simp)
    obtain ⟨k1, k2, k3⟩ := sh_all fun x hx => h x (List.mem_cons_of_mem _ hx)
    simp only [pdL, PyData.intsShortAll, PyData.showableAll, PyData.weightAll, h1, h2, k1, k2, Bool.and_self, List.length_cons, Nat.succ_mul, true_and]
    omega
theorem sh_lst {w n : Nat} {ds : List D} (h : ∀ d ∈ ds, ShD d w) (hl : ds.length ≤ n) : ShD (.lst ds) (n * (w + 1)) := by
  obtain ⟨h1, h2, h3⟩ := sh_all h
  refine ⟨by simpa only [pd, PyData.intsShort] using h1, by simpa only [pd, PyData.showable] using h2, ?_⟩
  simp only [pd, PyData.weight]
  exact Nat.le_trans h3 (Nat.mul_le_mul_right _ hl)
theorem sh_tup {w n : Nat} {ds : List D} (h : ∀ d ∈ ds, ShD d w) (hl : ds.length ≤ n) : ShD (.tup ds) (n * (w + 1)) := by
  obtain ⟨h1, h2, h3⟩ := sh_all h
  refine ⟨by simpa only [pd, PyData.intsShort] using h1, by simpa only [pd, PyData.showable] using h2, ?_⟩
  simp only [pd, PyData.weight]
  exact Nat.le_trans h3 (Nat.mul_le_mul_right _ hl)
theorem ShD.mono {d : D} {v w : Nat} (h : ShD d v) (k : v ≤ w) : ShD d w := ⟨h.i, h.s, Nat.le_trans h.w k⟩

theorem ok_size {x : Str} (h : okName x = true) : x.cps.size ≤ 8 := by
  unfold okName at h
  simp only [Bool.and_eq_true, decide_eq_true_eq] at h
  exact h.2.1
theorem rep_o {l : List D} (hp : pln DEP (.olst l) = true) {w : Nat} (s : ShD (.olst l) w) (hw : w ≤ 1000000) : dRepr (.olst l) = some (.str (pd (.olst l)).shown) := by
  have hk : shOk (pd (.olst l)) = true := by
    unfold shOk
    simp only [s.i, s.s, Bool.true_and, decide_eq_true_eq]
    exact Nat.le_trans s.w (by omega)
  have : dRepr (.olst l) = if pln DEP (.olst l) = true ∧ shOk (pd (.olst l)) = true then some (.str (pd (.olst l)).shown) else none := rfl
  rw [this, if_pos ⟨hp, hk⟩]
theorem pln_olst {n : Nat} {xs : List D} (h : ∀ d ∈ xs, pln n d = true) : pln (n + 1) (.olst xs) = true := by
  have := pln_lst h
  simpa only [pln] using this
theorem sh_olst {w n : Nat} {ds : List D} (h : ∀ d ∈ ds, ShD d w) (hl : ds.length ≤ n) : ShD (.olst ds) (n * (w + 1)) := by
  have := sh_lst h hl
  exact ⟨by simpa only [pd] using this.i, by simpa only [pd] using this.s, by simpa only [pd] using this.w⟩
theorem sh_eO {o : Option Str} (h : ∀ x, o = some x → okName x = true) : ShD (eO o) 8 := by
  cases o with
  | none => exact sh_non.mono (by omega)
  | some x => exact sh_str (ok_size (h x rfl))
theorem pln_eO' (n : Nat) (o : Option Str) : pln n (eO o) = true := by
  cases o with
  | none => cases n <;> rfl
  | some x => cases n <;> rfl
theorem pln_eE' (P : Pt) (n : Nat) (e : Ent) : pln (n + 1) (eE P e) = true := by
  refine pln_tup fun d hd => ?_
  simp only [List.mem_cons, List.not_mem_nil, or_false] at hd
  rcases hd with rfl | rfl | rfl
  · cases n <;> rfl
  · exact pln_eO' n _
  · cases n <;> rfl
theorem nm_ok {P : Pt} (hn : ∀ x ∈ P.H ++ P.S, okName x = true) {bh : Bool} {i : Nat} (h : i < P.n bh) : okName (P.nm bh i) = true := by
  unfold Pt.nm Pt.n at *
  cases bh
  · simp at h ⊢
    rw [List.getElem?_eq_getElem h]
    exact hn _ (List.mem_append_right _ (List.getElem_mem h))
  · simp at h ⊢
    rw [List.getElem?_eq_getElem h]
    exact hn _ (List.mem_append_left _ (List.getElem_mem h))
theorem sh_eE {P : Pt} (hn : ∀ x ∈ P.H ++ P.S, okName x = true) {e : Ent} (he : e.Ok P) (hs : ∀ x, e.sn = some x → okName x = true) : ShD (eE P e) 27 := by
  refine sh_tup (w := 8) (n := 3) (fun d hd => ?_) (by simp)
  simp only [List.mem_cons, List.not_mem_nil, or_false] at hd
  rcases hd with rfl | rfl | rfl
  · exact sh_str (ok_size (nm_ok hn he.pl))
  · exact sh_eO hs
  · exact sh_str (ok_size (nm_ok hn he.ot))
def Rep (d : D) : Prop := ∃ t, dRepr d = some (.str t)
theorem rep_pln {d : D} {w : Nat} (h : pln DEP d = true) (s : ShD d w) (hw : w ≤ 1000000) : Rep d := by
  have hs : shOk (pd d) = true := by
    unfold shOk
    simp only [s.i, s.s, Bool.true_and, decide_eq_true_eq]
    exact Nat.le_trans s.w (by omega)
  cases d <;> first
    | (unfold Rep dRepr; simp only [h, hs, and_self, if_true]; exact ⟨_, rfl⟩)
    | (rename_i i; unfold Rep dRepr; have := s.s; simp only [pd, PyData.showable, decide_eq_true_eq] at this; simp only [this, if_true]; exact ⟨_, rfl⟩)
    | (exfalso; cases h)
theorem rep_dic : Rep (.dic []) := ⟨_, rfl⟩
theorem rep_bl (b : Bool) : Rep (.bl b) := rep_pln (w := 0) (by simp) ⟨rfl, rfl, Nat.le_refl 0⟩ (by omega)
mutual
theorem eqv_self : ∀ (n : Nat) (d : D), pln n d = true → PyData.eqv (pd d) (pd d) = true
  | _, .non, _ => by simp [pd, PyData.eqv]
  | _, .bl b, _ => by simp [pd, PyData.eqv]
  | _, .int i, _ => by simp [pd]
  | _, .str x, _ => by simp [pd]
  | n + 1, .tup xs, h => by simp only [pd, PyData.eqv]; exact eqvAll_self n xs (by simpa [pln] using h)
  | n + 1, .tux xs, h => by simp only [pd, PyData.eqv]; exact eqvAll_self n xs (by simpa [pln] using h)
  | n + 1, .lst xs, h => by simp only [pd, PyData.eqv]; exact eqvAll_self n xs (by simpa [pln] using h)
  | n + 1, .rol xs, h => by simp only [pd, PyData.eqv]; exact eqvAll_self n xs (by simpa [pln] using h)
  | n + 1, .olst xs, h => by simp only [pd, PyData.eqv]; exact eqvAll_self n xs (by simpa [pln] using h)
  | n + 1, .otup xs, h => by simp only [pd, PyData.eqv]; exact eqvAll_self n xs (by simpa [pln] using h)
  | 0, .otup xs, h => by simp [pln] at h
  | 0, .tup xs, h => by simp [pln] at h
  | 0, .tux xs, h => by simp [pln] at h
  | 0, .lst xs, h => by simp [pln] at h
  | 0, .rol xs, h => by simp [pln] at h
  | 0, .olst xs, h => by simp [pln] at h
  | n, .dic _, h => by cases n <;> simp [pln] at h
  | n, .dix _, h => by cases n <;> simp [pln] at h
  | n, .ins _ _, h => by cases n <;> simp [pln] at h
  | n, .odic _, h => by cases n <;> simp [pln] at h
  | n, .odix _, h => by cases n <;> simp [pln] at h
  | n, .oins _ _ _, h => by cases n <;> simp [pln] at h
  | n, .loc _, h => by cases n <;> simp [pln] at h
theorem eqvAll_self : ∀ (n : Nat) (ds : List D), plnL n ds = true → PyData.eqvAll (pdL ds) (pdL ds) = true
  | _, [], _ => by simp [pdL, PyData.eqvAll]
  | n, d :: ds, h => by
    have h' : pln n d = true ∧ plnL n ds = true := by simpa [plnL] using h
    simp only [pdL, PyData.eqvAll, eqv_self n d h'.1, eqvAll_self n ds h'.2, Bool.and_self]
end
theorem ne_self {d d' : D} (h : pd d = pd d') (h1 : pln DEP d = true) (h2 : pln DEP d' = true) : dNeA d d' = some (.bl false) := by
  have : deq d d' = true := by
    unfold deq
    rw [← h]
    exact eqv_self DEP d h1
  simp only [dNeA, orD, dNe, h1, h2, and_self, if_true, this]
  rfl
theorem tup_ok {ar : LM} {e e1 : En} {ds : List D} (h : ar e = .ok ds e1) (hl : ds.length ≤ LIM) : eTup ar e = .ok (.tup ds) e1 := by
  simp only [eTup, h, Rs.bind, mkTup, hl, if_true, lift]
section
variable {P : Pt}
theorem eq_self {d : D} (h1 : pln DEP d = true) : dEqA d d = some (.bl true) := by
  have : deq d d = true := eqv_self DEP d h1
  simp only [dEqA, orD, dEq, h1, and_self, if_true, this]
def aLists (P : Pt) : D := .tup [.tux (eStr P.H), .tux (eStr P.S), .tux (P.ds.map (eE P)), .tux (P.es.map (eE P)), .tux (eStr P.ls)]
theorem all_lists_eq : fn_Book_all_lists [eBk P] = .ok (aLists P) := by
  refine run_eq rfl ?_
  unfold bd_Book_all_lists
  refine wp_ret (d := aLists P) (e1 := ⟨[some (eBk P)], []⟩) ?_ ⟨rfl, rfl⟩
  exact tup_ok (aCons_ok rfl (aCons_ok rfl (aCons_ok rfl (aCons_ok rfl (aCons_ok rfl rfl))))) (by unfold LIM; simp)
theorem pln_strs (n : Nat) (l : List Str) : pln (n + 1) (.tux (eStr l)) = true := pln_tux fun d hd => by
  obtain ⟨_, _, rfl⟩ := List.mem_map.mp hd
  simp
theorem pln_eE (n : Nat) (e : Ent) : pln (n + 1) (eE P e) = true := by
  unfold eE
  refine pln_tup fun d hd => ?_
  simp at hd
  rcases hd with rfl | rfl | rfl
  · simp
  · exact pln_eO _ _
  · simp
theorem pln_eEs (n : Nat) (l : List Ent) : pln (n + 2) (.tux (l.map (eE P))) = true := pln_tux fun d hd => by
  obtain ⟨e, _, rfl⟩ := List.mem_map.mp hd
  exact pln_eE n e
theorem pln_all : pln DEP (aLists P) = true := by
  refine pln_tup (n := 11) fun d hd => ?_
  simp at hd
  rcases hd with rfl | rfl | rfl | rfl | rfl
  · exact pln_strs 10 _
  · exact pln_strs 10 _
  · exact pln_eEs 9 _
  · exact pln_eEs 9 _
  · exact pln_strs 10 _
theorem book_eq_self : fn_Book___eq__ [eBk P, eBk P] = .ok (.bl true) := by
  refine run_eq rfl ?_
  unfold bd_Book___eq__
  let S : En := ⟨[some (eBk P), some (eBk P)], []⟩
  refine wp_ret (d := .bl true) (e1 := S) ?_ ⟨rfl, rfl⟩
  have m : ∀ i, eVar i S = .ok (eBk P) S → eMeth 0 (pureF fn_Book_all_lists) (eVar i) aNil S = .ok (aLists P) S := fun i h => meth_ok (e1 := S) h rfl rfl all_lists_eq
  have h1 : un (dIsC 0) (eVar 1) S = .ok (.bl true) S := un_ok (d := eBk P) rfl rfl
  have h2 : bin dEqA (frzA (eMeth 0 (pureF fn_Book_all_lists) (eVar 0) aNil)) (eMeth 0 (pureF fn_Book_all_lists) (eVar 1) aNil) S = .ok (.bl true) S := bin_s (frzA_ok (m 0 rfl) (frzT_F rfl)) (m 1 rfl) (eq_self pln_all)
  show (eAnd _ _) S = _
  unfold eAnd
  rw [h1]
  simp only [Rs.bind, if_true]
  exact h2
end
theorem pcallF {p : PF} {ds : List D} {d : D} {e : En} (hm : noLocL ds = true) (k : p ds = .ok d) : callF (pureF p) ds e = .ok d e := by
  have := pcall (p := p) (ar := fun e => .ok ds e) (e := e) (ds := ds) rfl hm k
  exact this
theorem pmeth {c : Nat} {p : PF} {fo : EM} {ar : LM} {fs ds : List D} {d : D} {e : En} (h : fo e = .ok (.ins c fs) e) (h2 : ar e = .ok ds e) (hm : noLocL (.ins c fs :: ds) = true) (k : p (.ins c fs :: ds) = .ok d) : eMeth c (pureF p) fo ar e = .ok d e := by
  simp only [eMeth, h, h2, Rs.bind, if_true]
  exact pcallF hm k

theorem neo_ok {P : Pt} {f1 f2 : EM} {e : En} (h1 : f1 e = .ok (eBk P) e) (h2 : f2 e = .ok (eBk P) e) : eNeO 0 (pureF fn_Book___eq__) f1 f2 e = .ok (.bl false) e := by
  have e7 : callF (pureF fn_Book___eq__) [eBk P, eBk P] e = .ok (.bl true) e := pcallF (by simp only [noLocL, nl_eBk, Bool.and_self]) book_eq_self
  unfold eNeO
  rw [h1]
  simp only [Rs.bind]
  rw [h2]
  simp only [eBk, and_self, if_true]
  show (callF (pureF fn_Book___eq__) [eBk P, eBk P] e).bind _ = _
  rw [e7]
  rfl
theorem strs_F {l : List Str} (h : ∀ x ∈ l, okName x = true) : ∀ d ∈ eStr l, ShD d 27 ∧ pln 10 d = true := fun d hd => by
  obtain ⟨x, hx, rfl⟩ := List.mem_map.mp hd
  exact ⟨(sh_str (ok_size (h x hx))).mono (by omega), rfl⟩
def prt (P : Pt) : List (List D) := [eStr P.H, eStr P.S, P.ds.map (eE P), P.es.map (eE P), eStr P.ls]
theorem prt_parts {P : Pt} (ok : P.Ok) : ∀ l ∈ prt P, l.length ≤ 12 ∧ ∀ d ∈ l, ShD d 27 ∧ pln 10 d = true := by
  have hn : ∀ x ∈ P.H ++ P.S, okName x = true := fun x hx => ok.nm x (List.mem_append_left _ hx)
  have ls : ∀ l : List Str, (eStr l).length = l.length := fun l => by simp [eStr]
  intro l hl
  simp only [prt, List.mem_cons, List.not_mem_nil, or_false] at hl
  rcases hl with rfl | rfl | rfl | rfl | rfl
  · have := ok.h3
    exact ⟨by rw [ls]; omega, strs_F fun x hx => ok.nm x (by simp [hx])⟩
  · have := ok.s4
    exact ⟨by rw [ls]; omega, strs_F fun x hx => ok.nm x (by simp [hx])⟩
  · have := ok.d10
    refine ⟨by rw [List.length_map]; omega, fun d hd => ?_⟩
    obtain ⟨e, he, rfl⟩ := List.mem_map.mp hd
    exact ⟨sh_eE hn (ok.ds e he).1 (ok.ds e he).2, pln_eE' P 9 e⟩
  · have := ok.e12
    refine ⟨by rw [List.length_map]; omega, fun d hd => ?_⟩
    obtain ⟨e, he, rfl⟩ := List.mem_map.mp hd
    obtain ⟨h1, x, hx, h2⟩ := ok.es e he
    exact ⟨sh_eE hn h1 fun y hy => by rw [hx] at hy; cases hy; exact h2, pln_eE' P 9 e⟩
  · have := ok.l4
    exact ⟨by rw [ls]; omega, strs_F fun x hx => ok.nm x (by simp [hx])⟩
theorem prt_F {P : Pt} : ∀ l ∈ prt P, l.all isF = true := by
  intro l hl
  simp only [prt, List.mem_cons, List.not_mem_nil, or_false] at hl
  rcases hl with rfl | rfl | rfl | rfl | rfl
  · exact isF_eStr _
  · exact isF_eStr _
  · exact eE_all _ _
  · exact eE_all _ _
  · exact isF_eStr _
theorem prt_rep {P : Pt} (ok : P.Ok) : ∃ t, dRepr (.lst ((prt P).map .lst)) = some (.str t) ∧ dRepr (.olst ((prt P).map .lst)) = some (.str t) := by
  have tp := prt_parts ok
  have a1 : ∀ d ∈ (prt P).map D.lst, ShD d 336 ∧ pln 11 d = true := fun d hd => by
    obtain ⟨l, hl, rfl⟩ := List.mem_map.mp hd
    obtain ⟨h1, h2⟩ := tp l hl
    exact ⟨sh_lst (w := 27) (n := 12) (fun d hd => (h2 d hd).1) h1, pln_lst fun d hd => (h2 d hd).2⟩
  have p1 : pln DEP (.lst ((prt P).map .lst)) = true := pln_lst (n := 11) fun d hd => (a1 d hd).2
  have p2 : pln DEP (.olst ((prt P).map .lst)) = true := pln_olst (n := 11) fun d hd => (a1 d hd).2
  have s1 : ShD (.lst ((prt P).map .lst)) (5 * 337) := sh_lst (w := 336) (n := 5) (fun d hd => (a1 d hd).1) (by simp [prt])
  have s2 : ShD (.olst ((prt P).map .lst)) (5 * 337) := sh_olst (w := 336) (n := 5) (fun d hd => (a1 d hd).1) (by simp [prt])
  have e : pd (.lst ((prt P).map .lst)) = pd (.olst ((prt P).map .lst)) := by simp only [pd]
  refine ⟨(pd (.lst ((prt P).map .lst))).shown, ?_, ?_⟩
  · have hk : shOk (pd (.lst ((prt P).map .lst))) = true := by
      unfold shOk
      simp only [s1.i, s1.s, Bool.true_and, decide_eq_true_eq]
      exact Nat.le_trans s1.w (by omega)
    have : dRepr (.lst ((prt P).map .lst)) = if pln DEP (.lst ((prt P).map .lst)) = true ∧ shOk (pd (.lst ((prt P).map .lst))) = true then some (.str (pd (.lst ((prt P).map .lst))).shown) else none := rfl
    rw [this, if_pos ⟨p1, hk⟩]
  · rw [e]
    exact rep_o p2 s2 (by omega)
def odds : List D := [.non, .int 3, .lst [], .tup [], .dic [], .str "houses a", .bl true]
theorem rep_odd : ∀ v ∈ odds, Rep v := by
  intro v hv
  simp only [odds, List.mem_cons, List.not_mem_nil, or_false] at hv
  rcases hv with rfl | rfl | rfl | rfl | rfl | rfl | rfl
  · exact rep_pln (w := 0) rfl sh_non (by omega)
  · exact rep_pln (w := 7) rfl (sh_int (by decide)) (by omega)
  · exact rep_pln (w := 1000) rfl (sh_lst (w := 0) (n := 1000) (fun d hd => by cases hd) (by simp)) (by omega)
  · exact rep_pln (w := 1000) rfl (sh_tup (w := 0) (n := 1000) (fun d hd => by cases hd) (by simp)) (by omega)
  · exact rep_dic
  · exact rep_pln (w := 8) rfl (sh_str (by decide)) (by omega)
  · exact rep_bl true
theorem odd_F : ∀ v ∈ odds, isF v = true ∧ noLoc v = true ∧ dIsC 0 v = some (.bl false) := by
  intro v hv
  simp only [odds, List.mem_cons, List.not_mem_nil, or_false] at hv
  rcases hv with rfl | rfl | rfl | rfl | rfl | rfl | rfl <;> exact ⟨rfl, rfl, rfl⟩
theorem textX_bad {v : D} (hF : isF v = true) (h : dIsC 0 v = some (.bl false)) : fn_text_ofX [v] = .exc 3 (some v) := by
  refine x_run (sl := [some v, none, none, none, none, none, none]) rfl ?_
  unfold bd_text_ofX
  have g0 : eVar 0 ⟨[some v, none, none, none, none, none, none], []⟩ = .ok v ⟨[some v, none, none, none, none, none, none], []⟩ := by simp [eVar, hF]
  exact x_seq (x_expr (x_call (ds := [v]) (aCons_ok g0 rfl) rfl (bookX_bad hF h)))
theorem px_call {p : PF} {ar : LM} {e : En} {ds : List D} {c : Nat} {x : Option D} (h1 : ar e = .ok ds e) (hm : noLocL ds = true) (k : p ds = .exc c x) : frzA (eCallX (pureF p) ar) e = .exc c x e := by
  obtain ⟨sl, mu⟩ := e
  cases mu with
  | nil => simp only [frzA, eCallX, h1, Rs.bind, callX, pureF, k, toRo]
  | cons a mu => simp only [frzA, eCallX, h1, Rs.bind, callX, pureF, hm, if_true, k, toRo]
theorem frzTL_F : ∀ {l : List D}, l.all isF = true → frzTL l = some l
  | [], _ => rfl
  | d :: l, h => by
    simp only [List.all_cons, Bool.and_eq_true] at h
    simp only [frzTL, frzT_F h.1, frzTL_F h.2, Option.bind_some, Option.map_some]
theorem meth_lst {p : PF} {fo : EM} {e : En} {P : Pt} {l : List D} (h : fo e = .ok (eBk P) e) (k : p [eBk P] = .ok (.olst l)) (hl : l.all isF = true) : frzA (eMeth 0 (pureF p) fo aNil) e = .ok (.lst l) e :=
  frzA_ok (pmeth (ds := []) h rfl (by have := nl_eBk P; simp only [noLocL, Bool.and_true]; exact this) k) (by simp only [frzT, frzTL_F hl, Option.map_some])
theorem houses_eq (P : Pt) : fn_Book_houses [eBk P] = .ok (.olst (eStr P.H)) := by
  refine run_eq rfl ?_
  unfold bd_Book_houses
  exact wp_ret (d := .olst (eStr P.H)) (e1 := ⟨[some (eBk P)], []⟩) (un_ok (d := .tux (eStr P.H)) rfl rfl) ⟨rfl, rfl⟩
theorem stands_eq (P : Pt) : fn_Book_stands [eBk P] = .ok (.olst (eStr P.S)) := by
  refine run_eq rfl ?_
  unfold bd_Book_stands
  exact wp_ret (d := .olst (eStr P.S)) (e1 := ⟨[some (eBk P)], []⟩) (un_ok (d := .tux (eStr P.S)) rfl rfl) ⟨rfl, rfl⟩
theorem deeds_eq (P : Pt) : fn_Book_deeds [eBk P] = .ok (.olst (P.ds.map (eE P))) := by
  refine run_eq rfl ?_
  unfold bd_Book_deeds
  exact wp_ret (d := .olst (P.ds.map (eE P))) (e1 := ⟨[some (eBk P)], []⟩) (un_ok (d := .tux (P.ds.map (eE P))) rfl rfl) ⟨rfl, rfl⟩
theorem hears_eq (P : Pt) : fn_Book_hearings [eBk P] = .ok (.olst (P.es.map (eE P))) := by
  refine run_eq rfl ?_
  unfold bd_Book_hearings
  exact wp_ret (d := .olst (P.es.map (eE P))) (e1 := ⟨[some (eBk P)], []⟩) (un_ok (d := .tux (P.es.map (eE P))) rfl rfl) ⟨rfl, rfl⟩
theorem lost_eq (P : Pt) : fn_Book_lost [eBk P] = .ok (.olst (eStr P.ls)) := by
  refine run_eq rfl ?_
  unfold bd_Book_lost
  exact wp_ret (d := .olst (eStr P.ls)) (e1 := ⟨[some (eBk P)], []⟩) (un_ok (d := .tux (eStr P.ls)) rfl rfl) ⟨rfl, rfl⟩
theorem Drawn.wd {P : Pt} {wide high : Nat} (h : Drawn wide high P) : Wd1 P := by
  have t1 : ∀ x ∈ hs0 ++ ss0 ++ (["ask", "mend", "none"] : List Str), tokB x = true := by decide +kernel
  have t2 : ∀ x ∈ (["ask", "mend"] : List Str), (x == ("_" : Str)) = false := by decide +kernel
  have l1 : ∀ l ∈ ll0, ∀ x ∈ l, x ∈ (["ask", "mend", "none"] : List Str) := by
    intro l hl x hx
    simp only [ll0, List.mem_cons, List.not_mem_nil, or_false] at hl
    rcases hl with rfl | rfl | rfl | rfl | rfl <;> simp at hx <;> simp [hx]
    rcases hx with rfl | rfl <;> simp
  refine ⟨fun x hx => tokB_ok (t1 x ?_), fun e he x hs => ?_, fun e he => ?_⟩
  · obtain ⟨i, _, _, hH⟩ := h.h
    obtain ⟨j, _, _, hS⟩ := h.s
    rcases List.mem_append.mp hx with hx | hx
    · rcases List.mem_append.mp hx with hx | hx
      · rw [hH] at hx
        exact List.mem_append_left _ (List.mem_append_left _ (List.mem_of_mem_take hx))
      · rw [hS] at hx
        exact List.mem_append_left _ (List.mem_append_right _ (List.mem_of_mem_take hx))
    · exact List.mem_append_right _ (l1 _ h.l x hx)
  · have := (h.ds e he).2
    rw [hs] at this
    have hx : x ∈ (["ask", "mend"] : List Str) := by
      simp [sn1] at this
      rcases this with h | h | h <;> simp [h]
    refine ⟨tokB_ok (t1 x (List.mem_append_right _ ?_)), fun e => ?_⟩
    · simp at hx
      rcases hx with h | h <;> simp [h]
    · have := t2 x hx
      rw [e] at this
      simp at this
  · have := (h.es e he).2
    simp [sn2] at this
    rcases this with h | h
    · exact ⟨_, h, tokB_ok (t1 _ (by simp))⟩
    · exact ⟨_, h, tokB_ok (t1 _ (by simp))⟩
open PySem L2 TL
def K0 : Pt := ⟨["houses", "deed"], ["stands", "hear", "lost"], [⟨false, 1, some "lost", 0⟩, ⟨true, 1, none, 0⟩], [⟨false, 2, some "deed", 1⟩, ⟨true, 0, some "lost", 1⟩], ["lost", "houses"]⟩
def K1 : Pt := { K0 with es := [] }
theorem k0_ok : K0.Ok := by
  have nm : ∀ x ∈ (["houses", "deed", "stands", "hear", "lost", "lost", "houses"] : List Str), okName x = true := by decide +kernel
  refine ⟨by decide +kernel, fun x hx => nm x hx, by decide, by decide, by decide, by decide, by decide, by decide, by decide, by decide +kernel, ?_, ?_, by decide +kernel⟩
  · intro e he
    simp only [K0, List.mem_cons, List.not_mem_nil, or_false] at he
    rcases he with rfl | rfl
    · exact ⟨⟨by decide, by decide⟩, fun x hx => by cases hx; exact nm _ (by simp)⟩
    · exact ⟨⟨by decide, by decide⟩, fun x hx => by cases hx⟩
  · intro e he
    simp only [K0, List.mem_cons, List.not_mem_nil, or_false] at he
    rcases he with rfl | rfl
    · exact ⟨⟨by decide, by decide⟩, _, rfl, nm _ (by simp)⟩
    · exact ⟨⟨by decide, by decide⟩, _, rfl, nm _ (by simp)⟩
theorem k1_ok : K1.Ok := by
  have h := k0_ok
  exact ⟨h.nd, h.nm, h.h1, h.h3, h.s1, h.s4, h.d10, by decide, h.l4, h.ln, (fun e he => ⟨⟨(h.ds e he).1.pl, (h.ds e he).1.ot⟩, (h.ds e he).2⟩), (fun e he => by cases he), List.nodup_nil⟩
theorem k0_wd : Wd1 K0 := by
  have nm : ∀ x ∈ (["houses", "deed", "stands", "hear", "lost", "lost", "houses"] : List Str), tokB x = true := by decide +kernel
  refine ⟨fun x hx => tokB_ok (nm x hx), fun e he x hs => ?_, fun e he => ?_⟩
  · simp only [K0, List.mem_cons, List.not_mem_nil, or_false] at he
    rcases he with rfl | rfl
    · cases hs
      exact ⟨tokB_ok (nm _ (by simp)), by decide +kernel⟩
    · cases hs
  · simp only [K0, List.mem_cons, List.not_mem_nil, or_false] at he
    rcases he with rfl | rfl
    · exact ⟨_, rfl, tokB_ok (nm _ (by simp))⟩
    · exact ⟨_, rfl, tokB_ok (nm _ (by simp))⟩
abbrev kr : List Str := ["houses houses deed", "stands stands hear lost", "deed hear lost stands", "deed deed _ houses", "hear lost deed hear", "hear houses lost deed", "lost lost houses"]
def kT : Str := spn 2000 ++ Txt.join "\n\n" kr
def kZ : List Str := [spn 2000 ++ "houses houses deed", "", "stands stands hear lost", "", "deed hear lost stands", "", "deed deed _ houses", "", "hear lost deed hear", "", "hear houses lost deed", "", "lost lost houses"]
theorem kT_eq : kT = Txt.join "\n" kZ := by
  refine ext_tl ?_
  unfold kT
  rw [tl_append, tlj, tlj]
  simp only [kZ, List.map_cons, List.map_nil, joinL, tl_append]
  have e1 : tl ("\n\n" : Str) = [10, 10] := rfl
  have e2 : tl ("\n" : Str) = [10] := rfl
  have e3 : tl ("" : Str) = [] := rfl
  simp only [e1, e2, e3, List.append_assoc, List.nil_append, List.cons_append]
theorem kr_chr : ∀ x ∈ kr, Chr x := by
  have h : ∀ x ∈ kr, ∀ c ∈ tl x, c ≠ 10 ∧ c < 0x110000 := by decide +kernel
  exact h
theorem kZ_chr : ∀ y ∈ kZ, Chr y := by
  intro y hy
  simp only [kZ, List.mem_cons, List.not_mem_nil, or_false] at hy
  have n : Chr ("" : Str) := chr_sp (k := 0) rfl
  rcases hy with rfl | rfl | rfl | rfl | rfl | rfl | rfl | rfl | rfl | rfl | rfl | rfl | rfl
  · exact (chr_spn _).app (kr_chr _ (by simp))
  · exact n
  · exact kr_chr _ (by simp)
  · exact n
  · exact kr_chr _ (by simp)
  · exact n
  · exact kr_chr _ (by simp)
  · exact n
  · exact kr_chr _ (by simp)
  · exact n
  · exact kr_chr _ (by simp)
  · exact n
  · exact kr_chr _ (by simp)
theorem kr_wds : kr.map (fun x => tk (tl x)) = (lin K0).map fun l => l.map tl := by decide +kernel
theorem kT_sp : Sp kT (lin K0) := by
  unfold Sp
  rw [kT_eq, split_joinC (by simp [kZ]) kZ_chr]
  have hk := kr_wds
  obtain ⟨a1, a2, a3, a4, a5, a6, a7, hL⟩ : ∃ a1 a2 a3 a4 a5 a6 a7, lin K0 = [a1, a2, a3, a4, a5, a6, a7] := ⟨_, _, _, _, _, _, _, rfl⟩
  have hn : ∀ l ∈ lin K0, l ≠ [] := fun l hl => ((lin_ok k0_ok k0_wd).n l hl).1
  rw [hL] at hk hn ⊢
  simp only [List.map_cons, List.map_nil, List.cons.injEq, and_true] at hk
  obtain ⟨h1, h2, h3, h4, h5, h6, h7⟩ := hk
  have w1 : wds (spn 2000 ++ "houses houses deed") = a1 := wds_eq (by rw [tl_append, show tl (spn 2000) = _ from mul_sp 2000, sp_tk, h1])
  have w0 : wds ("" : Str) = [] := wds_sp (k := 0) rfl
  simp only [kZ, List.map_cons, List.map_nil, w1, w0, wds_eq h2, wds_eq h3, wds_eq h4, wds_eq h5, wds_eq h6, wds_eq h7]
  have f : ∀ {l : List Str}, l ≠ [] → (!l.isEmpty) = true := fun h => by
    cases ‹List Str› with
    | nil => exact absurd rfl h
    | cons _ _ => rfl
  simp only [List.filter_cons, List.isEmpty_nil, Bool.not_true, Bool.false_eq_true, if_false, List.filter_nil, f (hn a1 (by simp)), f (hn a2 (by simp)), f (hn a3 (by simp)), f (hn a4 (by simp)), f (hn a5 (by simp)), f (hn a6 (by simp)), f (hn a7 (by simp)), if_true]
theorem kr_sum : (kr.map Str.length).sum + kr.length * ("\n\n" : Str).length ≤ 1000 := by decide +kernel
theorem kT_len : kT.length ≤ 900000 := by
  unfold kT
  rw [len_app, len_spn]
  have := join_len "\n\n" kr
  have := kr_sum
  omega
theorem kJ_ok : PyData.strOk (Txt.join "\n\n" kr) = true := joinT_ok (by decide +kernel) fun p hp => (kr_chr p hp).ok
theorem kT_ok : PyData.strOk kT = true := by
  rw [ok_tl]
  intro c hc
  unfold kT at hc
  rw [tl_append] at hc
  rcases List.mem_append.mp hc with h | h
  · exact (chr_spn _ c h).2
  · exact (ok_tl _).mp kJ_ok c h
theorem kT_def : kT = spn 2000 ++ Txt.join "\n\n" kr := rfl
theorem catG {x y : Str} (h : x.length + y.length ≤ LIM) (o : PyData.strOk (x ++ y) = true) : dAddA (.str x) (.str y) = some (.str (x ++ y)) := by
  have h1 : dCatS (.str x) (.str y) = some (.str (x ++ y)) := if_pos ⟨h, o⟩
  have h2 : dAddI (.str x) (.str y) = none := rfl
  have h3 : dCatT (.str x) (.str y) = none := rfl
  simp only [dAddA, orD, h1, h2, h3]
theorem kT_cat : dAddA (.str (spn 2000)) (.str (Txt.join "\n\n" kr)) = some (.str kT) := by
  rw [kT_def]
  refine catG ?_ (by rw [← kT_def]; exact kT_ok)
  rw [← len_app, ← kT_def]
  exact Nat.le_trans kT_len (by unfold LIM; omega)
theorem kT_rows : RowsOf kT (mP K0) := rows_of k0_ok kT_sp kT_ok kT_len
open PySem L2 TL
structure Gd1 (P : Pt) (T : Str) : Prop where
  s : Sp T (lin P)
  o : PyData.strOk T = true
  l : T.length ≤ 900000
theorem nlS (P : Pt) : noLocL [eBk P] = true := by simp only [noLocL, nl_eBk, Bool.and_self]
theorem nlsc (ns : List Int) : noLoc (.rol (ns.map .int)) = true := nl_map D.int (fun _ => rfl) ns
theorem lst5 (a b c d f : D) : [a, b, c, d, f].length ≤ LIM := by
  show 5 ≤ 1000000
  omega
theorem lst3 (a b c : D) : [a, b, c].length ≤ LIM := by
  show 3 ≤ 1000000
  omega
theorem own_lists {P : Pt} {f : EM} {e : En} (h : f e = .ok (eBk P) e) : frzE (eLst (aCons (frzA (eMeth 0 (pureF fn_Book_houses) f aNil)) (aCons (frzA (eMeth 0 (pureF fn_Book_stands) f aNil)) (aCons (frzA (eMeth 0 (pureF fn_Book_deeds) f aNil)) (aCons (frzA (eMeth 0 (pureF fn_Book_hearings) f aNil)) (aCons (frzA (eMeth 0 (pureF fn_Book_lost) f aNil)) aNil)))))) e = .ok (eP P) e :=
  frzE_ok (d := .olst [.lst (eStr P.H), .lst (eStr P.S), .lst (P.ds.map (eE P)), .lst (P.es.map (eE P)), .lst (eStr P.ls)]) (lst_ok (aCons_ok (meth_lst h (houses_eq P) (isF_eStr _)) (aCons_ok (meth_lst h (stands_eq P) (isF_eStr _)) (aCons_ok (meth_lst h (deeds_eq P) (eE_all _ _)) (aCons_ok (meth_lst h (hears_eq P) (eE_all _ _)) (aCons_ok (meth_lst h (lost_eq P) (isF_eStr _)) rfl))))) (lst5 _ _ _ _ _)) rfl
theorem mx2_ok {i j : Nat} {f g : EM} {e e1 e2 : En} {a b : D} (h1 : f e = .ok a e1) (h2 : g e1 = .ok b e2) : mxEv ((i, f) :: (j, g) :: []) e = .ok [a, b] e2 := by
  simp only [mxEv, h1, h2, Rs.bind]
def tx70 : SM := (seqS (sAsg (frzA (eCall (pureF fn_read_book) (aCons (eVar 9) aNil))) (gN 5))
  (seqS (sIf (tOrD (tNotD (eTest (un (dIsC 0) (eVar 5)))) (tOrD (eTest (eNeO 0 (pureF fn_Book___eq__) (eVar 5) (eVar 11))) (eTest (bin dNeA (frzA (eCall (pureF fn_text_of) (aCons (eVar 5) aNil))) (eVar 8))))) (sRet (eC (.bl false))) sNext)
  (seqS (sAsg (frzE (eLst (aCons (frzA (eMeth 0 (pureF fn_Book_houses) (eVar 5) aNil)) (aCons (frzA (eMeth 0 (pureF fn_Book_stands) (eVar 5) aNil)) (aCons (frzA (eMeth 0 (pureF fn_Book_deeds) (eVar 5) aNil)) (aCons (frzA (eMeth 0 (pureF fn_Book_hearings) (eVar 5) aNil)) (aCons (frzA (eMeth 0 (pureF fn_Book_lost) (eVar 5) aNil)) aNil))))))) (gN 13))
  (sIf (eTest (bin dNeA (un dRepr (eVar 13)) (un dRepr (eLc (itSeq (eVar 7)) (gN 4) tYesD (frzE (un dList (eVar 4))) [4])))) (sRet (eC (.bl false))) sNext))))
def od70 : SM := (sFor (itSeq (frzE (eLst (aCons (eC .non) (aCons (eC (.int 3)) (aCons (frzE (eLst aNil)) (aCons (eTup aNil) (aCons (frzA eDic) (aCons (eC (.str "houses a")) (aCons (eC (.bl true)) aNil)))))))))) (gN 10) (seqS (sAsg (eC .non) (gN 14))
  (seqS (sTry 15 14 [3] (sExpr (frzA (eCallX (pureF fn_text_ofX) (aCons (eVar 10) aNil)))))
  (sIf (tOrD (eTest (bin dIsN (eVar 14) (eC .non))) (eTest (bin dNeA (un dRepr (eExnF [3] (eVar 14))) (un dRepr (eVar 10))))) (sRet (eC (.bl false))) sNext))))
def by70 : SM := (seqS (sAsg (eCall (pureF fn__law_generator) (aCons (eVar 0) (aCons (eVar 1) aNil))) (gNew 6))
  (seqS (sAsg (frzA (eCall fn__law_parts (aCons (eVar 6) (aCons (eC (.int 3)) (aCons (eC (.int 4)) aNil))))) (gN 7))
  (seqS (sMix ((11, (frzA (eCall (pureF fn__law_book) (aCons (eVar 7) aNil)))) :: ((12, (frzA (eCall (pureF fn__law_lines) (aCons (eVar 7) aNil)))) :: [])))
  (seqS (sAsg (binG isStr dJoin (eC (.str "
")) (frzE (eLc (itSeq (eVar 12)) (gN 16) tYesD (binG isStr dJoin (eC (.str " ")) (eVar 16)) [16]))) (gN 8))
  (seqS (sIf (tOrD (eTest (bin dNeA (frzA (eCall (pureF fn_text_of) (aCons (eVar 11) aNil))) (eVar 8))) (eTest (bin dNeA (frzA (eCall (pureF fn_text_of) (aCons (frzA (eCall (pureF fn__law_book) (aCons (eVar 7) aNil))) aNil))) (eVar 8)))) (sRet (eC (.bl false))) sNext)
  (seqS (sFor (itSeq (frzE (eLst (aCons (eVar 8) (aCons (frzA (eCall fn__law_spaced (aCons (eVar 6) (aCons (eVar 12) aNil)))) (aCons (frzA (eCall fn__law_spaced (aCons (eVar 6) (aCons (eVar 12) aNil)))) (aCons (frzE (bin dAddA (eVar 8) (eC (.str "
")))) aNil))))))) (gN 9) tx70)
  od70))))))
def tl70 : SM := (seqS (sAsg (frzE (eLst (aCons (eC (.str "houses houses deed")) (aCons (eC (.str "stands stands hear lost")) (aCons (eC (.str "deed hear lost stands")) (aCons (eC (.str "deed deed _ houses")) aNil)))))) (gN 2))
  (seqS (sAsg (frzE (bin dAddA (eVar 2) (eLst (aCons (eC (.str "hear lost deed hear")) (aCons (eC (.str "hear houses lost deed")) (aCons (eC (.str "lost lost houses")) aNil)))))) (gN 2))
  (seqS (sAsg (frzE (eLst (aCons (eTup (aCons (eC (.str "hear")) (aCons (eC (.str "lost")) (aCons (eC (.str "stands")) aNil)))) (aCons (eTup (aCons (eC (.str "deed")) (aCons (eC .non) (aCons (eC (.str "houses")) aNil)))) aNil)))) (gN 3))
  (seqS (sAsg (eCall (pureF (mkP 0 6 in_Book)) (aCons (frzE (eLst (aCons (eC (.str "houses")) (aCons (eC (.str "deed")) aNil)))) (aCons (frzE (eLst (aCons (eC (.str "stands")) (aCons (eC (.str "hear")) (aCons (eC (.str "lost")) aNil))))) (aCons (eVar 3) (aCons (frzE (eLst aNil)) (aCons (frzE (eLst (aCons (eC (.str "lost")) (aCons (eC (.str "houses")) aNil)))) aNil)))))) (gN 4))
  (seqS (sAsg (frzA (eCall (pureF fn_read_book) (aCons (frzE (bin dAddA (frzE (bin dMulAS (eC (.str " ")) (eC (.int 2000)))) (binG isStr dJoin (eC (.str "

")) (eVar 2)))) aNil))) (gN 5))
  (seqS (sIf (tOrD (eTest (bin dNeA (frzA (eMeth 0 (pureF fn_Book_hearings) (eVar 5) aNil)) (eLst (aCons (eTup (aCons (eC (.str "lost")) (aCons (eC (.str "deed")) (aCons (eC (.str "hear")) aNil)))) (aCons (eTup (aCons (eC (.str "houses")) (aCons (eC (.str "lost")) (aCons (eC (.str "deed")) aNil)))) aNil))))) (eTest (bin dNeA (frzA (eMeth 0 (pureF fn_Book_deeds) (eVar 5) aNil)) (eVar 3)))) (sRet (eC (.bl false))) sNext)
  (sRet (bin dEqA (frzE (eLst (aCons (frzA (eMeth 0 (pureF fn_Book_houses) (eVar 5) aNil)) (aCons (frzA (eMeth 0 (pureF fn_Book_stands) (eVar 5) aNil)) (aCons (frzA (eMeth 0 (pureF fn_Book_lost) (eVar 5) aNil)) aNil))))) (eLst (aCons (frzA (eMeth 0 (pureF fn_Book_houses) (eVar 4) aNil)) (aCons (frzA (eMeth 0 (pureF fn_Book_stands) (eVar 4) aNil)) (aCons (frzA (eMeth 0 (pureF fn_Book_lost) (eVar 4) aNil)) aNil))))))))))))
theorem law_eq : bd_law = seqS (sFor (itRange (eC (.int 5))) (gN 1) by70) tl70 := rfl
abbrev E70 (ns : List Int) (x1 x5 x6 x7 x8 x9 x10 x11 x12 x13 x14 x15 : Option D) (mu : Mu) : En := ⟨[some (.rol (ns.map .int)), x1, none, none, none, x5, x6, x7, x8, x9, x10, x11, x12, x13, x14, x15, none], mu⟩
abbrev V70 (ns : List Int) (i n : Nat) (P : Pt) (x5 x8 x9 x10 x13 x14 x15 : Option D) (mu : Mu) : En := E70 ns (some (eN i)) x5 (some (.loc n)) (some (eP P)) x8 x9 x10 (some (eBk P)) (some (.lst ((lin P).map eLn))) x13 x14 x15 mu
abbrev W70 (ns : List Int) (i n : Nat) (P : Pt) (x5 x9 x10 x13 x14 x15 : Option D) (mu : Mu) : En := V70 ns i n P x5 (some (.str (dueT (lin P)))) x9 x10 x13 x14 x15 mu
theorem t1_ok {P : Pt} (ok : P.Ok) (wd : Wd1 P) {f : EM} {e : En} (h1 : f e = .ok (eBk P) e) (h2 : eVar 8 e = .ok (.str (dueT (lin P))) e) : eTest (bin dNeA (frzA (eCall (pureF fn_text_of) (aCons f aNil))) (eVar 8)) e = .ok false e := eTest_ok (bin_s (x := .str (dueT (lin P))) (y := .str (dueT (lin P))) (pfcall (ds := [eBk P]) (aCons_ok h1 rfl) (nlS P) (text_eq ok wd) rfl) h2 (by rw [dNeA_str]; simp))
theorem tx_ok {ns : List Int} {i n : Nat} {P : Pt} (ok : P.Ok) (wd : Wd1 P) {T : Str} (hT : Gd1 P T) {x5 x10 x13 x14 x15 : Option D} {mu4 : Mu} {R : D → En → Prop} {Q : En → Prop} (hQ : ∀ x5 x9 x13, Q (W70 ns i n P x5 x9 x10 x13 x14 x15 mu4)) : Wp tx70 (W70 ns i n P x5 (some (.str T)) x10 x13 x14 x15 mu4) Q R := by
  unfold tx70
  refine wp_seq (wp_set (d := eBk P) (e1 := W70 ns i n P x5 (some (.str T)) x10 x13 x14 x15 mu4) (pfcall (ds := [.str T]) rfl rfl (read_eq ok wd (rows_of ok hT.s hT.o hT.l)) rfl) ?_)
  let U : Option D → En := fun x13 => W70 ns i n P (some (eBk P)) (some (.str T)) x10 x13 x14 x15 mu4
  have b1 : tNotD (eTest (un (dIsC 0) (eVar 5))) (U x13) = .ok false (U x13) := tNot_ok (k := true) (eTest_ok (un_ok (d := eBk P) rfl rfl))
  have b2 : eTest (eNeO 0 (pureF fn_Book___eq__) (eVar 5) (eVar 11)) (U x13) = .ok false (U x13) := eTest_ok (neo_ok rfl rfl)
  refine wp_seq (wp_if (k := false) (e1 := U x13) (tOr_f b1 (tOr_f b2 (t1_ok ok wd (f := eVar 5) rfl rfl))) (fun h => by cases h) fun _ => wp_next ?_)
  refine wp_seq (wp_set (d := eP P) (e1 := U x13) (own_lists (P := P) rfl) ?_)
  obtain ⟨t, ht1, ht2⟩ := prt_rep ok
  have b3 : eLc (itSeq (eVar 7)) (gN 4) tYesD (frzE (un dList (eVar 4))) [4] (U (some (eP P))) = .ok (.olst ((prt P).map .lst)) (U (some (eP P))) := by
    refine eLc_map (enc := D.lst) (l := prt P) (itSeq_ok (d := .lst ((prt P).map .lst)) rfl rfl) (by show 5 ≤ 1000000; omega) rfl rfl fun l hl => ⟨_, rfl, frzE_ok (d := .olst l) (un_ok (d := .lst l) rfl rfl) ?_, rfl⟩
    simp only [frzD, isF_olst, prt_F l hl, if_true]
    rfl
  exact wp_if (k := false) (e1 := U (some (eP P))) (eTest_ok (bin_s (x := .str t) (y := .str t) (un_ok (d := eP P) rfl ht1) (un_ok b3 ht2) (by rw [dNeA_str]; simp))) (fun h => by cases h) fun _ => wp_next (hQ _ _ _)
theorem od_ok {ns : List Int} {i n : Nat} {P : Pt} {x5 x9 x10 x13 x14 x15 : Option D} {mu4 : Mu} {R : D → En → Prop} {Q : En → Prop} (hQ : ∀ x10 x14 x15, Q (W70 ns i n P x5 x9 x10 x13 x14 x15 mu4)) : Wp od70 (W70 ns i n P x5 x9 x10 x13 x14 x15 mu4) Q R := by
  unfold od70
  refine wp_for (enc := fun v : D => v) (l := odds) (e1 := W70 ns i n P x5 x9 x10 x13 x14 x15 mu4) (fun p e => ∃ x10 x14 x15, e = W70 ns i n P x5 x9 x10 x13 x14 x15 mu4) (itSeq_ok (d := .lst odds) rfl rfl) ⟨_, _, _, rfl⟩ ?_ ?_
  · rintro p v r e he ⟨x10, x14, x15, rfl⟩
    have hv : v ∈ odds := by rw [he]; simp
    obtain ⟨vF, vN, vC⟩ := odd_F v hv
    obtain ⟨t, ht⟩ := rep_odd v hv
    refine ⟨W70 ns i n P x5 x9 (some v) x13 x14 x15 mu4, rfl, ?_⟩
    refine wp_seq (wp_set (d := .non) (e1 := W70 ns i n P x5 x9 (some v) x13 x14 x15 mu4) rfl ?_)
    let U : Option D → Option D → En := fun x14 x15 => W70 ns i n P x5 x9 (some v) x13 x14 x15 mu4
    have g10 : ∀ {x14 x15}, eVar 10 (U x14 x15) = .ok v (U x14 x15) := by
      intro x14 x15
      simp [eVar, U, vF]
    have htry : sTry 15 14 [3] (sExpr (frzA (eCallX (pureF fn_text_ofX) (aCons (eVar 10) aNil)))) (U (some .non) x15) = .nx (U (some (.exn 3 [v])) none) := by
      have hx := x_expr (px_call (p := fn_text_ofX) (ar := aCons (eVar 10) aNil) (e := U (some .non) x15) (ds := [v]) (aCons_ok g10 rfl) (by simp only [noLocL, vN, Bool.and_self]) (textX_bad vF vC))
      unfold sTry
      rw [hx]
      rfl
    refine wp_seq (wp_nx htry ?_)
    have k1 : eTest (bin dIsN (eVar 14) (eC .non)) (U (some (.exn 3 [v])) none) = .ok false (U (some (.exn 3 [v])) none) := rfl
    have k2 : eExnF [3] (eVar 14) (U (some (.exn 3 [v])) none) = .ok v (U (some (.exn 3 [v])) none) := rfl
    have k3 : eTest (bin dNeA (un dRepr (eExnF [3] (eVar 14))) (un dRepr (eVar 10))) (U (some (.exn 3 [v])) none) = .ok false (U (some (.exn 3 [v])) none) := eTest_ok (bin_s (x := .str t) (y := .str t) (un_ok k2 ht) (un_ok g10 ht) (by rw [dNeA_str]; simp))
    exact wp_if (k := false) (e1 := U (some (.exn 3 [v])) none) (tOr_f k1 k3) (fun h => by cases h) fun _ => wp_next ⟨some v, some (.exn 3 [v]), none, rfl⟩
  · rintro e ⟨x10, x14, x15, rfl⟩
    exact hQ _ _ _
open PySem L2 TL
theorem seed_ok {ns : List Int} (hn : ns.length ≤ 63) {i : Nat} (hi : i < 5) {x5 x6 x7 x8 x9 x10 x11 x12 x13 x14 x15 : Option D} {mu : Mu} {R : D → En → Prop} {Q : En → Prop} (hQ : ∀ x5 x6 x7 x8 x9 x10 x11 x12 x13 x14 x15 mu, Q (E70 ns (some (eN i)) x5 x6 x7 x8 x9 x10 x11 x12 x13 x14 x15 mu)) : Wp by70 (E70 ns (some (eN i)) x5 x6 x7 x8 x9 x10 x11 x12 x13 x14 x15 mu) Q R := by
  unfold by70
  obtain ⟨a1, b1, g1, ha1, hb1, hb12⟩ := gen_eq ns hn (i := i) (by omega)
  let n := mu.length
  let mu1 : Mu := mu ++ [some (.olst [.int a1, .int b1, .int (1000 * (i : Int))])]
  have hgen1 : Gen 5000 n mu1 := ⟨a1, b1, 1000 * (i : Int), by simp [mu1, n], ha1, hb1, hb12, by omega, by omega⟩
  refine wp_seq (wp_asg (d := .olst [.int a1, .int b1, .int (1000 * (i : Int))]) (e1 := E70 ns (some (eN i)) x5 x6 x7 x8 x9 x10 x11 x12 x13 x14 x15 mu) (e2 := E70 ns (some (eN i)) x5 (some (.loc n)) x7 x8 x9 x10 x11 x12 x13 x14 x15 mu1) (pcall (ds := [.rol (ns.map .int), eN i]) rfl (by show (noLoc _ && (noLoc _ && true)) = true; rw [nlsc ns]; rfl) g1) rfl ?_)
  obtain ⟨dp, mu2, p1, ⟨P, p2, hdr⟩, hgen2, hml2⟩ := parts_eq (wide := 3) (high := 4) hgen1 (by omega) (by omega) (by omega) (by omega) (by omega)
  have ok := hdr.ok (by omega) (by omega)
  have wd := hdr.wd
  have hL := lin_ok ok wd
  refine wp_seq (wp_set (d := eP P) (e1 := E70 ns (some (eN i)) x5 (some (.loc n)) x7 x8 x9 x10 x11 x12 x13 x14 x15 mu2) (frzA_ok (fvcall (ds := [.loc n, eN 3, eN 4]) rfl p1) p2) ?_)
  have nlP : noLocL [eP P] = true := by simp only [noLocL, nl_eP, Bool.and_self]
  have m1 : frzA (eCall (pureF fn__law_book) (aCons (eVar 7) aNil)) (E70 ns (some (eN i)) x5 (some (.loc n)) (some (eP P)) x8 x9 x10 x11 x12 x13 x14 x15 mu2) = .ok (eBk P) (E70 ns (some (eN i)) x5 (some (.loc n)) (some (eP P)) x8 x9 x10 x11 x12 x13 x14 x15 mu2) := pfcall (ds := [eP P]) rfl nlP (book_call ok) rfl
  have m2 : frzA (eCall (pureF fn__law_lines) (aCons (eVar 7) aNil)) (E70 ns (some (eN i)) x5 (some (.loc n)) (some (eP P)) x8 x9 x10 x11 x12 x13 x14 x15 mu2) = .ok (.lst ((lin P).map eLn)) (E70 ns (some (eN i)) x5 (some (.loc n)) (some (eP P)) x8 x9 x10 x11 x12 x13 x14 x15 mu2) := pfcall (ds := [eP P]) rfl nlP (lines_eq ok) (by simp only [frzT, frzTL_ln, Option.map_some])
  refine wp_seq (wp_mix (ds := [eBk P, .lst ((lin P).map eLn)]) (e1 := E70 ns (some (eN i)) x5 (some (.loc n)) (some (eP P)) x8 x9 x10 x11 x12 x13 x14 x15 mu2) (e2 := V70 ns i n P x5 x8 x9 x10 x13 x14 x15 mu2) ?_ (lst2 _ _) rfl ?_)
  · exact mx2_ok m1 m2
  have hjl : frzE (eLc (itSeq (eVar 12)) (gN 16) tYesD (binG isStr dJoin (eC (.str " ")) (eVar 16)) [16]) (V70 ns i n P x5 x8 x9 x10 x13 x14 x15 mu2) = .ok (.lst (eStr ((lin P).map lnT))) (V70 ns i n P x5 x8 x9 x10 x13 x14 x15 mu2) := by
    refine frzE_ok (d := .olst (eStr ((lin P).map lnT))) ?_ (frz_str _)
    have := eLc_map (e := V70 ns i n P x5 x8 x9 x10 x13 x14 x15 mu2) (e1 := V70 ns i n P x5 x8 x9 x10 x13 x14 x15 mu2) (enc := eLn) (l := lin P) (r := fun l => .str (lnT l)) (it := itSeq (eVar 12)) (g := gN 16) (te := binG isStr dJoin (eC (.str " ")) (eVar 16)) (vs := [16]) (itSeq_ok (d := .lst ((lin P).map eLn)) rfl rfl) (Nat.le_trans hL.s (by unfold LIM; omega)) rfl rfl fun l hl => ⟨_, rfl, binG_ok (x := .str " ") (y := eLn l) rfl rfl rfl (join_ln (hL.t l hl) (hL.n l hl).2), rfl⟩
    rw [this]
    simp only [eStr, List.map_map]
    rfl
  refine wp_seq (wp_set (d := .str (dueT (lin P))) (e1 := V70 ns i n P x5 x8 x9 x10 x13 x14 x15 mu2) (binG_ok (x := .str "\n") (y := .lst (eStr ((lin P).map lnT))) rfl rfl hjl (join_due hL)) ?_)
  have m3 : frzA (eCall (pureF fn__law_book) (aCons (eVar 7) aNil)) (W70 ns i n P x5 x9 x10 x13 x14 x15 mu2) = .ok (eBk P) (W70 ns i n P x5 x9 x10 x13 x14 x15 mu2) := pfcall (ds := [eP P]) rfl nlP (book_call ok) rfl
  refine wp_seq (wp_if (k := false) (e1 := W70 ns i n P x5 x9 x10 x13 x14 x15 mu2) (tOr_f (t1_ok ok wd (f := eVar 11) rfl rfl) (t1_ok ok wd m3 rfl)) (fun h => by cases h) fun _ => wp_next ?_)
  obtain ⟨d1, mu3, s1, ⟨T1, rfl, q1, q2, q3⟩, hgen3, hml3⟩ := spaced_eq hL (lin_ne P) hgen2 (by omega)
  obtain ⟨d2, mu4, s2, ⟨T2, rfl, u1, u2, u3⟩, hgen4, hml4⟩ := spaced_eq hL (lin_ne P) hgen3 (by omega)
  have hDl : (dueT (lin P)).length ≤ 1650 := due_len hL
  have hDo : PyData.strOk (dueT (lin P)) = true := due_ok hL
  have hNo : PyData.strOk ((dueT (lin P)) ++ "\n") = true := by
    rw [ok_tl]
    intro c hc
    rw [tl_append] at hc
    rcases List.mem_append.mp hc with h | h
    · exact (ok_tl _).mp hDo c h
    · rw [show tl ("\n" : Str) = [10] from rfl, List.mem_singleton] at h
      rw [h]; omega
  let Ts : List Str := [(dueT (lin P)), T1, T2, (dueT (lin P)) ++ "\n"]
  have hTs : ∀ T ∈ Ts, Gd1 P T := fun T hT => by
    simp only [Ts, List.mem_cons, List.not_mem_nil, or_false] at hT
    rcases hT with rfl | rfl | rfl | rfl
    · exact ⟨sp_due hL (lin_ne P), hDo, by omega⟩
    · exact ⟨q1, q2, q3⟩
    · exact ⟨u1, u2, u3⟩
    · refine ⟨sp_due2 hL (lin_ne P), hNo, ?_⟩
      rw [len_app, show ("\n" : Str).length = 1 from rfl]
      omega
  have c4 : frzE (bin dAddA (eVar 8) (eC (.str "\n"))) (W70 ns i n P x5 x9 x10 x13 x14 x15 mu4) = .ok (.str ((dueT (lin P)) ++ "\n")) (W70 ns i n P x5 x9 x10 x13 x14 x15 mu4) := by
    refine frzE_ok (d := .str ((dueT (lin P)) ++ "\n")) (bin_s (x := .str (dueT (lin P))) (y := .str "\n") rfl rfl ?_) rfl
    have h1 : dCatS (.str (dueT (lin P))) (.str "\n") = some (.str ((dueT (lin P)) ++ "\n")) := if_pos ⟨by rw [show ("\n" : Str).length = 1 from rfl]; unfold LIM; omega, hNo⟩
    have h2 : dAddI (.str (dueT (lin P))) (.str "\n") = none := rfl
    have h3 : dCatT (.str (dueT (lin P))) (.str "\n") = none := rfl
    simp only [dAddA, orD, h1, h2, h3]
  have c1 : frzA (eCall fn__law_spaced (aCons (eVar 6) (aCons (eVar 12) aNil))) (W70 ns i n P x5 x9 x10 x13 x14 x15 mu2) = .ok (.str T1) (W70 ns i n P x5 x9 x10 x13 x14 x15 mu3) := frzA_ok (fvcall (ds := [.loc n, .lst ((lin P).map eLn)]) rfl s1) rfl
  have c2 : frzA (eCall fn__law_spaced (aCons (eVar 6) (aCons (eVar 12) aNil))) (W70 ns i n P x5 x9 x10 x13 x14 x15 mu3) = .ok (.str T2) (W70 ns i n P x5 x9 x10 x13 x14 x15 mu4) := frzA_ok (fvcall (ds := [.loc n, .lst ((lin P).map eLn)]) rfl s2) rfl
  have cT : frzE (eLst (aCons (eVar 8) (aCons (frzA (eCall fn__law_spaced (aCons (eVar 6) (aCons (eVar 12) aNil)))) (aCons (frzA (eCall fn__law_spaced (aCons (eVar 6) (aCons (eVar 12) aNil)))) (aCons (frzE (bin dAddA (eVar 8) (eC (.str "\n")))) aNil))))) (W70 ns i n P x5 x9 x10 x13 x14 x15 mu2) = .ok (.lst (Ts.map .str)) (W70 ns i n P x5 x9 x10 x13 x14 x15 mu4) := frzE_ok (d := .olst (Ts.map .str)) (lst_ok (aCons_ok rfl (aCons_ok c1 (aCons_ok c2 (aCons_ok c4 rfl)))) (lst4 _ _ _ _)) rfl
  refine wp_seq (wp_for (enc := D.str) (l := Ts) (e1 := W70 ns i n P x5 x9 x10 x13 x14 x15 mu4) (fun p e => ∃ x5 x9 x13, e = W70 ns i n P x5 x9 x10 x13 x14 x15 mu4) (itSeq_ok (d := .lst (Ts.map .str)) cT rfl) ⟨_, _, _, rfl⟩ ?_ ?_)
  · rintro p T r e he ⟨x5, x9, x13, rfl⟩
    have hT := hTs T (by rw [he]; simp)
    exact ⟨W70 ns i n P x5 (some (.str T)) x10 x13 x14 x15 mu4, rfl, tx_ok ok wd hT fun x5 x9 x13 => ⟨x5, x9, x13, rfl⟩⟩
  · rintro e ⟨x5, x9, x13, rfl⟩
    exact od_ok fun x10 x14 x15 => hQ _ _ _ _ _ _ _ _ _ _ _ _
open PySem L2 TL
theorem tail_ok {ns : List Int} {x1 x5 x6 x7 x8 x9 x10 x11 x12 x13 x14 x15 : Option D} {mu : Mu} : Wp tl70 (E70 ns x1 x5 x6 x7 x8 x9 x10 x11 x12 x13 x14 x15 mu) (fun _ => False) (fun d _ => d = .bl true) := by
  unfold tl70
  let F : Option D → Option D → Option D → Option D → En := fun x2 x3 x4 x5 => ⟨[some (.rol (ns.map .int)), x1, x2, x3, x4, x5, x6, x7, x8, x9, x10, x11, x12, x13, x14, x15, none], mu⟩
  refine wp_seq (wp_set (d := .lst (eStr (kr.take 4))) (e1 := F none none none x5) rfl ?_)
  refine wp_seq (wp_set (d := .lst (eStr kr)) (e1 := F (some (.lst (eStr (kr.take 4)))) none none x5) rfl ?_)
  let dl : List D := K0.ds.map (eE K0)
  refine wp_seq (wp_set (d := .lst dl) (e1 := F (some (.lst (eStr kr))) none none x5) rfl ?_)
  have hb1 := book_eq k1_ok
  have nlk : noLocL [D.lst (eStr K1.H), .lst (eStr K1.S), .lst (K1.ds.map (eE K1)), .lst (K1.es.map (eE K1)), .lst (eStr K1.ls)] = true := rfl
  refine wp_seq (wp_set (d := eBk K1) (e1 := F (some (.lst (eStr kr))) (some (.lst dl)) none x5) (pcall (ds := [D.lst (eStr K1.H), .lst (eStr K1.S), .lst (K1.ds.map (eE K1)), .lst (K1.es.map (eE K1)), .lst (eStr K1.ls)]) rfl nlk hb1) ?_)
  let G : Option D → En := fun x5 => F (some (.lst (eStr kr))) (some (.lst dl)) (some (eBk K1)) x5
  have j1 : binG isStr dJoin (eC (.str "\n\n")) (eVar 2) (G x5) = .ok (.str (Txt.join "\n\n" kr)) (G x5) := binG_ok (x := .str "\n\n") (y := .lst (eStr kr)) rfl rfl rfl (dJoin_ok (Nat.le_trans kr_sum (by unfold LIM; omega)) kJ_ok)
  have j2 : frzE (bin dMulAS (eC (.str " ")) (eC (.int 2000))) (G x5) = .ok (.str (spn 2000)) (G x5) := frzE_ok (bin_s (x := .str " ") (y := .int 2000) rfl rfl (mulS_ok (k := 2000) (by omega))) rfl
  have j3 : frzE (bin dAddA (frzE (bin dMulAS (eC (.str " ")) (eC (.int 2000)))) (binG isStr dJoin (eC (.str "\n\n")) (eVar 2))) (G x5) = .ok (.str kT) (G x5) := by
    exact frzE_ok (d := .str kT) (bin_s j2 j1 kT_cat) rfl
  refine wp_seq (wp_set (d := eBk K0) (e1 := G x5) (pfcall (ds := [.str kT]) (aCons_ok j3 rfl) rfl (read_eq k0_ok k0_wd kT_rows) rfl) ?_)
  let H : En := G (some (eBk K0))
  have y1 : eTest (bin dNeA (frzA (eMeth 0 (pureF fn_Book_hearings) (eVar 5) aNil)) (eLst (aCons (eTup (aCons (eC (.str "lost")) (aCons (eC (.str "deed")) (aCons (eC (.str "hear")) aNil)))) (aCons (eTup (aCons (eC (.str "houses")) (aCons (eC (.str "lost")) (aCons (eC (.str "deed")) aNil)))) aNil)))) H = .ok false H :=
    eTest_ok (bin_s (x := .lst (K0.es.map (eE K0))) (y := .olst (K0.es.map (eE K0))) (meth_lst (P := K0) rfl (hears_eq K0) (eE_all _ _)) rfl (ne_self (by simp only [pd]) (pln_lst (n := 11) fun d hd => by
      obtain ⟨e, _, rfl⟩ := List.mem_map.mp hd
      exact pln_eE' K0 10 e) (pln_olst (n := 11) fun d hd => by
      obtain ⟨e, _, rfl⟩ := List.mem_map.mp hd
      exact pln_eE' K0 10 e)))
  have y2 : eTest (bin dNeA (frzA (eMeth 0 (pureF fn_Book_deeds) (eVar 5) aNil)) (eVar 3)) H = .ok false H :=
    eTest_ok (bin_s (x := .lst dl) (y := .lst dl) (meth_lst (P := K0) rfl (deeds_eq K0) (eE_all _ _)) rfl (ne_self rfl (pln_lst (n := 11) fun d hd => by
      obtain ⟨e, _, rfl⟩ := List.mem_map.mp hd
      exact pln_eE' K0 10 e) (pln_lst (n := 11) fun d hd => by
      obtain ⟨e, _, rfl⟩ := List.mem_map.mp hd
      exact pln_eE' K0 10 e)))
  refine wp_seq (wp_if (k := false) (e1 := H) (tOr_f y1 y2) (fun h => by cases h) fun _ => wp_next ?_)
  have three : ∀ {P : Pt} {f : EM}, f H = .ok (eBk P) H → eLst (aCons (frzA (eMeth 0 (pureF fn_Book_houses) f aNil)) (aCons (frzA (eMeth 0 (pureF fn_Book_stands) f aNil)) (aCons (frzA (eMeth 0 (pureF fn_Book_lost) f aNil)) aNil))) H = .ok (.olst [.lst (eStr P.H), .lst (eStr P.S), .lst (eStr P.ls)]) H := fun {P f} h => lst_ok (aCons_ok (meth_lst h (houses_eq P) (isF_eStr _)) (aCons_ok (meth_lst h (stands_eq P) (isF_eStr _)) (aCons_ok (meth_lst h (lost_eq P) (isF_eStr _)) rfl))) (lst3 _ _ _)
  have pl3 : ∀ d ∈ [D.lst (eStr K0.H), .lst (eStr K0.S), .lst (eStr K0.ls)], pln 11 d = true := fun d hd => by
    simp only [List.mem_cons, List.not_mem_nil, or_false] at hd
    rcases hd with rfl | rfl | rfl <;> exact pln_ln 10 _
  have fin : dEqA (.lst [.lst (eStr K0.H), .lst (eStr K0.S), .lst (eStr K0.ls)]) (.olst [.lst (eStr K0.H), .lst (eStr K0.S), .lst (eStr K0.ls)]) = some (.bl true) := by
    have q1 : pln DEP (.lst [.lst (eStr K0.H), .lst (eStr K0.S), .lst (eStr K0.ls)]) = true := pln_lst (n := 11) pl3
    have q2 : pln DEP (.olst [.lst (eStr K0.H), .lst (eStr K0.S), .lst (eStr K0.ls)]) = true := pln_olst (n := 11) pl3
    have q3 : deq (.lst [.lst (eStr K0.H), .lst (eStr K0.S), .lst (eStr K0.ls)]) (.olst [.lst (eStr K0.H), .lst (eStr K0.S), .lst (eStr K0.ls)]) = true := by
      have h : pd (.lst [.lst (eStr K0.H), .lst (eStr K0.S), .lst (eStr K0.ls)]) = pd (.olst [.lst (eStr K0.H), .lst (eStr K0.S), .lst (eStr K0.ls)]) := by simp only [pd]
      unfold deq
      rw [← h]
      exact eqv_self DEP _ q1
    simp only [dEqA, orD, dEq, q1, q2, and_self, if_true, q3]
  exact wp_ret (d := .bl true) (e1 := H) (bin_s (x := .lst [.lst (eStr K0.H), .lst (eStr K0.S), .lst (eStr K0.ls)]) (y := .olst [.lst (eStr K0.H), .lst (eStr K0.S), .lst (eStr K0.ls)]) (frzE_ok (three (P := K0) (f := eVar 5) rfl) rfl) (three (P := K1) (f := eVar 4) rfl) fin) rfl
open PySem L2 TL
theorem law_true (ns : List Int) (hn : ns.length ≤ 63) : ∃ mu, fn_law [] [.rol (ns.map .int)] = .ok (.bl true) mu := by
  have key : ∃ (d : D) (mu' : Mu), runF 1 16 bd_law [] [.rol (ns.map .int)] = .ok d mu' ∧ d = .bl true := by
    refine run_f (P := fun d _ => d = .bl true) rfl ?_
    rw [law_eq]
    refine wp_seq (wp_for (enc := eN) (l := List.range 5) (e1 := E70 ns none none none none none none none none none none none none []) (fun p e => ∃ x1 x5 x6 x7 x8 x9 x10 x11 x12 x13 x14 x15 mu, e = E70 ns x1 x5 x6 x7 x8 x9 x10 x11 x12 x13 x14 x15 mu) (itRange_ok rfl (by unfold LIM; omega)) ⟨_, _, _, _, _, _, _, _, _, _, _, _, _, rfl⟩ ?_ ?_)
    · rintro p i r e he ⟨x1, x5, x6, x7, x8, x9, x10, x11, x12, x13, x14, x15, mu, rfl⟩
      have hi : i < 5 := List.mem_range.mp (by rw [he]; simp)
      exact ⟨E70 ns (some (eN i)) x5 x6 x7 x8 x9 x10 x11 x12 x13 x14 x15 mu, rfl, seed_ok hn hi fun x5 x6 x7 x8 x9 x10 x11 x12 x13 x14 x15 mu => ⟨_, _, _, _, _, _, _, _, _, _, _, _, _, rfl⟩⟩
    · rintro e ⟨x1, x5, x6, x7, x8, x9, x10, x11, x12, x13, x14, x15, mu, rfl⟩
      exact tail_ok
  obtain ⟨d, mu', h, rfl⟩ := key
  exact ⟨mu', h⟩
end Vm

set_option maxHeartbeats 0

namespace Hd
open PySem PySem.Spec PyProof.Rows L2
def cls (K : PySem.W.Frag) : Nat → Addr
  | 0 => He.ga K "Book"
  | 1 => He.ga K "Deed"
  | 2 => He.ga K "Ground"
  | 3 => He.ga K "InvalidBook"
  | _ => He.ga K "HushError"
def flds : Nat → List Str
  | 0 => ["homes", "places", "acts", "ears", "losses", "known"]
  | 1 => ["by_house", "place", "other", "sound", "may_fail", "house", "stand"]
  | 2 => ["book", "moves", "wide"]
  | _ => ["value"]
theorem xs0 : VmH.XS x0 "value" := ⟨⟨_, _, _, _, _, _, _, _, _, _, rfl, ⟨_, fun _ => rfl⟩, fun _ => rfl, fun _ => rfl⟩, ⟨_, rfl, rfl⟩, NdefX.nscope_by (by decide +kernel), rfl, rfl, rfl, fun _ _ _ _ _ _ _ _ _ _ us its h1 h2 => match us, its, h1, h2 with | [_, _], ⟨[_]⟩, _, _ => ⟨_, rfl, rfl⟩⟩
theorem gf {P : Program} {w : World} {K : PySem.W.Frag} {h base : Heap} {mg : Str → Option Value} (X : K.In h) (G : h.Ns mainGlobals mg) (hP : ((P.main.file : Str) == ("/claim/cut.py" : Str)) = true) (top : (P.main.scope.names.lookup ("super" : Str)).isSome = false) (c : VmH.SaysX "/claim/cut.py" fa fn cs xs ns K) : Vm.Gf P w K mg base (cls K) flds where
  f_enumerate := He.free_ok X G (c.1.1.fact 44 (f := .free "enumerate") rfl)
  f_int := He.free_ok X G (c.1.1.fact 45 (f := .free "int") rfl)
  f_isinstance := He.free_ok X G (c.1.1.fact 46 (f := .free "isinstance") rfl)
  f_len := He.free_ok X G (c.1.1.fact 47 (f := .free "len") rfl)
  f_list := He.free_ok X G (c.1.1.fact 48 (f := .free "list") rfl)
  f_max := He.free_ok X G (c.1.1.fact 49 (f := .free "max") rfl)
  f_range := He.free_ok X G (c.1.1.fact 50 (f := .free "range") rfl)
  f_repr := He.free_ok X G (c.1.1.fact 51 (f := .free "repr") rfl)
  f_str := He.free_ok X G (c.1.1.fact 52 (f := .free "str") rfl)
  f_tuple := He.free_ok X G (c.1.1.fact 53 (f := .free "tuple") rfl)
  c_MOST_DEEDS := ⟨He.int_ok X G (c.1.1.fact 37 (f := .int "MOST_DEEDS" 10) rfl)⟩
  c_MOST_HEARINGS := ⟨He.int_ok X G (c.1.1.fact 38 (f := .int "MOST_HEARINGS" 12) rfl)⟩
  c_MOST_HOUSES := ⟨He.int_ok X G (c.1.1.fact 39 (f := .int "MOST_HOUSES" 3) rfl)⟩
  c_MOST_LETTERS := ⟨He.int_ok X G (c.1.1.fact 40 (f := .int "MOST_LETTERS" 8) rfl)⟩
  c_MOST_LOST := ⟨He.int_ok X G (c.1.1.fact 41 (f := .int "MOST_LOST" 4) rfl)⟩
  c_MOST_STANDS := ⟨He.int_ok X G (c.1.1.fact 42 (f := .int "MOST_STANDS" 4) rfl)⟩
  l_HEADS := VmH.rol_ok (List.all_eq_true.mp (Bool.and_eq_true_iff.mp c.2.1).2 "HEADS" (by simp [ns])) rfl (He.glo_ok X G (c.1.1.fact 35 (f := .glo "HEADS") rfl))
  c_LETTERS := ⟨He.str_ok X G (c.1.1.fact 36 (f := .str "LETTERS" "abcdefghijklmnopqrstuvwxyz") rfl)⟩
  c_NONE := ⟨He.str_ok X G (c.1.1.fact 43 (f := .str "NONE" "_") rfl)⟩
  xo_InvalidBook := ⟨by
    intro e h
    rw [List.mem_singleton.mp h]
    rfl, by
    intro e h
    rw [List.mem_singleton.mp h]
    exact ((VmH.xfacts (c.at_ 0 (d := x0)).1).eo x0 (List.mem_of_getElem? (i := 0) rfl)).trans (by decide +kernel)⟩
  g_InvalidBook := He.glo_ok X G (c.1.1.fact 54 (f := .glo "InvalidBook") rfl)
  xl_InvalidBook := rfl
  x_InvalidBook := VmH.exM_of (c.at_ 0 (d := x0)).2 (c.at_ 0 (d := x0)).1 xs0 hP top (He.free_ok X G (c.1.1.fact 56 (f := .free "super") rfl))
  xi_InvalidBook := fun _ => ⟨(VmH.xfacts (c.at_ 0 (d := x0)).1).nc, by
    intro e h
    simp only [List.mem_cons, List.not_mem_nil, or_false] at h
    rcases h with rfl
    · exact ⟨(VmH.xfacts (c.at_ 0 (d := x0)).1).ec, ((VmH.xfacts (c.at_ 0 (d := x0)).1).ki x0 (List.mem_of_getElem? (i := 0) rfl)).trans (by decide +kernel)⟩⟩
  g_HushError := He.glo_ok X G (c.1.1.fact 55 (f := .glo "HushError") rfl)
  xn := by
    intro e h
    simp only [List.mem_cons, List.not_mem_nil, or_false] at h
    rcases h with rfl
    · exact rfl
  xh := by
    intro e h
    simp only [List.mem_cons, List.not_mem_nil, or_false] at h
    rcases h with rfl
    · exact (VmH.xfacts (c.at_ 0 (d := x0)).1).em
  xf_value := fun _ => by
    intro e h
    simp only [List.mem_cons, List.not_mem_nil, or_false] at h
    rcases h with rfl
    · exact ⟨(VmH.xfacts (c.at_ 0 (d := x0)).1).xf, (VmH.xfacts (c.at_ 0 (d := x0)).1).na, rfl⟩
  cl0 := He.cls_ok (c.1.1.fact 21 (f := .cls "Book") rfl)
  nd0 := by show (List.Nodup (α := Str) _); decide +kernel
  nf0 := rfl
  na_Book_homes := He.noat_ok (c.1.1.fact 29 (f := .noat "Book" "homes") rfl)
  fl0_0 := rfl
  na_Book_places := He.noat_ok (c.1.1.fact 30 (f := .noat "Book" "places") rfl)
  fl0_1 := rfl
  na_Book_acts := He.noat_ok (c.1.1.fact 31 (f := .noat "Book" "acts") rfl)
  fl0_2 := rfl
  na_Book_ears := He.noat_ok (c.1.1.fact 32 (f := .noat "Book" "ears") rfl)
  fl0_3 := rfl
  na_Book_losses := He.noat_ok (c.1.1.fact 33 (f := .noat "Book" "losses") rfl)
  fl0_4 := rfl
  na_Book_known := He.noat_ok (c.1.1.fact 34 (f := .noat "Book" "known") rfl)
  fl0_5 := rfl
  g_Book := He.glo_ok X G (c.1.1.fact 20 (f := .glo "Book") rfl)
  nm_Book_all_lists := by show ¬ (_ ∈ (_ : List Str)); decide +kernel
  nm_Book_deeds := by show ¬ (_ ∈ (_ : List Str)); decide +kernel
  nm_Book_hearings := by show ¬ (_ ∈ (_ : List Str)); decide +kernel
  nm_Book_houses := by show ¬ (_ ∈ (_ : List Str)); decide +kernel
  nm_Book_lost := by show ¬ (_ ∈ (_ : List Str)); decide +kernel
  nm_Book_stands := by show ¬ (_ ∈ (_ : List Str)); decide +kernel
  ic0 := (VmH.ins_ok (List.all_eq_true.mp c.1.2 "Book" (by simp [cs])) (He.cls_ok (c.1.1.fact 21 (f := .cls "Book") rfl))).1
  nc0 := (VmH.ins_ok (List.all_eq_true.mp c.1.2 "Book" (by simp [cs])) (He.cls_ok (c.1.1.fact 21 (f := .cls "Book") rfl))).2
  n_Book := let ⟨fd, F⟩ := (c.1.1.def_ 0 (d := d0) rfl); ⟨_, fd, VmH.neB_ok (List.all_eq_true.mp (Bool.and_eq_true_iff.mp c.2.1).2 "Book" (by simp [ns])), F⟩
  d_Book_init := let ⟨fd, F⟩ := (c.1.1.def_ 1 (d := d1) rfl); ⟨_, fd, He.mkr_ok (c.1.1.fact 22 (f := .mkr "Book") rfl), He.glo_ok X G (c.1.1.fact 20 (f := .glo "Book") rfl), F⟩
  d_Book_all_lists := let ⟨fd, F⟩ := (c.1.1.def_ 2 (d := d2) rfl); ⟨_, fd, He.cls_ok (c.1.1.fact 21 (f := .cls "Book") rfl), He.meth_ok (c.1.1.fact 23 (f := .meth "Book" "all_lists") rfl), F⟩
  d_Book_deeds := let ⟨fd, F⟩ := (c.1.1.def_ 3 (d := d3) rfl); ⟨_, fd, He.cls_ok (c.1.1.fact 21 (f := .cls "Book") rfl), He.meth_ok (c.1.1.fact 24 (f := .meth "Book" "deeds") rfl), F⟩
  d_Book_hearings := let ⟨fd, F⟩ := (c.1.1.def_ 4 (d := d4) rfl); ⟨_, fd, He.cls_ok (c.1.1.fact 21 (f := .cls "Book") rfl), He.meth_ok (c.1.1.fact 25 (f := .meth "Book" "hearings") rfl), F⟩
  d_Book_houses := let ⟨fd, F⟩ := (c.1.1.def_ 5 (d := d5) rfl); ⟨_, fd, He.cls_ok (c.1.1.fact 21 (f := .cls "Book") rfl), He.meth_ok (c.1.1.fact 26 (f := .meth "Book" "houses") rfl), F⟩
  d_Book_lost := let ⟨fd, F⟩ := (c.1.1.def_ 6 (d := d6) rfl); ⟨_, fd, He.cls_ok (c.1.1.fact 21 (f := .cls "Book") rfl), He.meth_ok (c.1.1.fact 27 (f := .meth "Book" "lost") rfl), F⟩
  d_Book_stands := let ⟨fd, F⟩ := (c.1.1.def_ 7 (d := d7) rfl); ⟨_, fd, He.cls_ok (c.1.1.fact 21 (f := .cls "Book") rfl), He.meth_ok (c.1.1.fact 28 (f := .meth "Book" "stands") rfl), F⟩
  d__law_book := let ⟨fd, F⟩ := (c.1.1.def_ 8 (d := d8) rfl); ⟨_, fd, He.glo_ok X G (c.1.1.fact 0 (f := .glo "_law_book") rfl), F⟩
  d__law_cell := let ⟨fd, F⟩ := (c.1.1.def_ 9 (d := d9) rfl); ⟨_, fd, He.glo_ok X G (c.1.1.fact 1 (f := .glo "_law_cell") rfl), F⟩
  d__law_entry_drawn := let ⟨fd, F⟩ := (c.1.1.def_ 10 (d := d10) rfl); ⟨_, fd, He.glo_ok X G (c.1.1.fact 2 (f := .glo "_law_entry_drawn") rfl), F⟩
  d__law_generator := let ⟨fd, F⟩ := (c.1.1.def_ 11 (d := d11) rfl); ⟨_, fd, He.glo_ok X G (c.1.1.fact 3 (f := .glo "_law_generator") rfl), F⟩
  d__law_hash := let ⟨fd, F⟩ := (c.1.1.def_ 12 (d := d12) rfl); ⟨_, fd, He.glo_ok X G (c.1.1.fact 4 (f := .glo "_law_hash") rfl), F⟩
  d__law_lines := let ⟨fd, F⟩ := (c.1.1.def_ 13 (d := d13) rfl); ⟨_, fd, He.glo_ok X G (c.1.1.fact 5 (f := .glo "_law_lines") rfl), F⟩
  d__law_parts := let ⟨fd, F⟩ := (c.1.1.def_ 14 (d := d14) rfl); ⟨_, fd, He.glo_ok X G (c.1.1.fact 6 (f := .glo "_law_parts") rfl), F⟩
  d__law_random := let ⟨fd, F⟩ := (c.1.1.def_ 15 (d := d15) rfl); ⟨_, fd, He.glo_ok X G (c.1.1.fact 7 (f := .glo "_law_random") rfl), F⟩
  d__law_spaced := let ⟨fd, F⟩ := (c.1.1.def_ 16 (d := d16) rfl); ⟨_, fd, He.glo_ok X G (c.1.1.fact 8 (f := .glo "_law_spaced") rfl), F⟩
  d_book_in := let ⟨fd, F⟩ := (c.1.1.def_ 17 (d := d17) rfl); ⟨_, fd, He.glo_ok X G (c.1.1.fact 9 (f := .glo "book_in") rfl), F⟩
  d_check_book := let ⟨fd, F⟩ := (c.1.1.def_ 18 (d := d18) rfl); ⟨_, fd, He.glo_ok X G (c.1.1.fact 10 (f := .glo "check_book") rfl), F⟩
  d_check_names := let ⟨fd, F⟩ := (c.1.1.def_ 19 (d := d19) rfl); ⟨_, fd, He.glo_ok X G (c.1.1.fact 11 (f := .glo "check_names") rfl), F⟩
  d_check_size := let ⟨fd, F⟩ := (c.1.1.def_ 20 (d := d20) rfl); ⟨_, fd, He.glo_ok X G (c.1.1.fact 12 (f := .glo "check_size") rfl), F⟩
  d_is_entry := let ⟨fd, F⟩ := (c.1.1.def_ 21 (d := d21) rfl); ⟨_, fd, He.glo_ok X G (c.1.1.fact 13 (f := .glo "is_entry") rfl), F⟩
  d_is_name := let ⟨fd, F⟩ := (c.1.1.def_ 22 (d := d22) rfl); ⟨_, fd, He.glo_ok X G (c.1.1.fact 14 (f := .glo "is_name") rfl), F⟩
  d_is_one_of := let ⟨fd, F⟩ := (c.1.1.def_ 23 (d := d23) rfl); ⟨_, fd, He.glo_ok X G (c.1.1.fact 15 (f := .glo "is_one_of") rfl), F⟩
  d_law := let ⟨fd, F⟩ := (c.1.1.def_ 24 (d := d24) rfl); ⟨_, fd, He.glo_ok X G (c.1.1.fact 16 (f := .glo "law") rfl), F⟩
  d_read_book := let ⟨fd, F⟩ := (c.1.1.def_ 25 (d := d25) rfl); ⟨_, fd, He.glo_ok X G (c.1.1.fact 17 (f := .glo "read_book") rfl), F⟩
  d_rows_in := let ⟨fd, F⟩ := (c.1.1.def_ 26 (d := d26) rfl); ⟨_, fd, He.glo_ok X G (c.1.1.fact 18 (f := .glo "rows_in") rfl), F⟩
  d_text_of := let ⟨fd, F⟩ := (c.1.1.def_ 27 (d := d27) rfl); ⟨_, fd, He.glo_ok X G (c.1.1.fact 19 (f := .glo "text_of") rfl), F⟩
end Hd

namespace Hd
open PySem PySem.Spec PyProof.Rows L2
theorem law_sp {w : Vm.Wd} {f : Vm.FV} {H : Hp} {a : Addr} {ns : List Int} (hl : ns.length ≤ 63) (hS : SqL w.K H a (ns.map V.int)) (h : ∃ mu, f [] [.rol (ns.map Vm.D.int)] = .ok (.bl true) mu) : Vm.spF w f [.ref a] H (fun v _ => v = .bl true) fun _ _ _ => False := by
  obtain ⟨mu, h⟩ := h
  refine ⟨⟨⟨H, fun _ => none⟩, H, fun _ => []⟩, [], [.rol (ns.map Vm.D.int)], rfl, ⟨fun _ _ h => h, rfl, fun n => ⟨fun _ => Nat.zero_le _, fun _ => rfl⟩, fun x d h => ?_, fun _ _ => rfl, (fun x y c h => nomatch h), fun _ => List.nodup_nil, (fun x c h => nomatch h)⟩, ?_, ?_⟩
  · cases x with
    | s i =>
      have h' : (([] : List (Option Vm.D))[i]?).getD none = some d := h
      simp at h'
    | m n =>
      have h' : (([] : List (Option Vm.D))[n]?).getD none = some d := h
      simp at h'
  · refine Vm.fzl_cons.mpr ⟨.ref a, [], rfl, Vm.fz_rol.mpr ⟨a, ns.map V.int, rfl, hS, ?_, ?_⟩, Vm.fzl_nil.mpr rfl⟩
    · rw [List.length_map]
      exact Nat.le_trans hl (by decide)
    · clear hS h
      induction ns with
      | nil => exact Vm.fzl_nil.mpr rfl
      | cons n r ih => exact Vm.fzl_cons.mpr ⟨_, _, rfl, Vm.fz_int.mpr rfl, ih (Nat.le_of_succ_le (by simpa using hl))⟩
  · rw [h]
    exact fun v b' _ _ t => Vm.fz_bl.mp (t.fz rfl)
theorem facts {P : Program} {w : World} {K : PySem.W.Frag} {h : Heap} {mg : Str → Option Value} {f : Addr} (X : K.In h) (G : h.Ns mainGlobals mg) (hfa : mg ("law" : Str) = some (.ref f)) (hP : ((P.main.file : Str) == ("/claim/cut.py" : Str)) = true) (top : (P.main.scope.names.lookup ("super" : Str)).isSome = false) (c : VmH.SaysX "/claim/cut.py" fa fn cs xs ns K) :
    ∃ fd : FuncData, (∀ (s : Shared) (v : Value), BindsTo s fd ⟨[v], []⟩ [("_law_script", v)]) ∧ ∀ base : Heap, K.In base → base.Ns mainGlobals mg → VmX.FnG P w K mg base CX0 7 f fd ["_law_script"] (Vm.spF ⟨P, w, K, cls K, flds, none, none⟩ Vm.fn_law) := by
  obtain ⟨fd, F⟩ := c.1.1.def_ 24 (d := d24) rfl
  have e := hfa.symm.trans (He.glo_ok X G (c.1.1.fact 16 (f := .glo "law") rfl))
  cases e
  have b := FunD.bindsA (ps := ["_law_script"]) F fun _ _ _ _ _ _ us hl => match us, hl with | [_], _ => rfl
  exact ⟨fd, fun s v => b s [v] rfl, fun base _ _ => Vm.okF_law (gf (P := P) (w := w) (base := base) X G hP top c) none F⟩
end Hd
open PySem PySem.W PySem.Calls PyProof.Rows
theorem PySem.Challenge.cw_hushedasks_k70_texts_of_books_holds : PySem.Challenge.rw_hushedasks_k70_texts_of_books.Holds := by
  w_on; o_law
  refine HandSHeadRun.head_any (r := OpenLaw.row PySem.Challenge.rw_hushedasks_k70_texts_of_books) (q := view (OpenLaw.row PySem.Challenge.rw_hushedasks_k70_texts_of_books).prog [38]) (H := Hd.hk) (ob := Hd.ob) (M := 20000) (loose := Hd.loose) (d := HandSHeadRun.topDef (OpenLaw.row PySem.Challenge.rw_hushedasks_k70_texts_of_books).prog 38) (kwd := []) Hd.ob_eq
    (by kernel_rfl) (fun s => by kernel_rfl) Hd.run (by kernel_rfl) (by kernel_rfl) (by kernel_rfl) (by rfl) (by first | assumption | decide +kernel) (by decide +kernel) ⟨rfl, rfl, rfl, rfl, rfl, by decide +kernel⟩ ?hw ?hc
  case hw => w_witness2
  case hc =>
    refine VmX.walk_ofG (l := PySem.Challenge.rw_hushedasks_k70_texts_of_books) (n := 63) (k := 7) (x := "_law_script") rfl (by decide) (by kernel_rfl) ⟨rfl, by decide, by decide⟩ ?F
    intro w mg fa h Y G hmg0
    obtain ⟨K, KX, c⟩ := Y
    have hmg : mg ("law" : PySem.Str) = some (.ref fa) := by
      have e : (HandSHeadRun.topDef (OpenLaw.row PySem.Challenge.rw_hushedasks_k70_texts_of_books).prog 38).name = ("law" : PySem.Str) := by kernel_rfl
      rw [← e]
      exact hmg0
    obtain ⟨fd, hb, hF⟩ := Hd.facts (P := (PySem.Challenge.rw_hushedasks_k70_texts_of_books).prog) (w := w) KX G hmg (by decide +kernel) (by decide +kernel) c
    exact ⟨K, fd, Vm.spF ⟨(PySem.Challenge.rw_hushedasks_k70_texts_of_books).prog, w, K, Hd.cls K, Hd.flds, none, none⟩ Vm.fn_law, KX, hb, fun H a ns hl _ hS => Hd.law_sp hl hS (Vm.law_true ns hl), hF⟩
